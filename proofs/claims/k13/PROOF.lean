import PyProof.Rows.All
import Wide.All
import OpenK.AllK
import Wide.FinOn
import HandS.ForMost
import HandS.ForExc
import HandS.Wide
import HandS.Flow
import HandS.Evl
import HandS.ExcInit
import HandS.IsInst
import KE.KExcIs
import HandS.ExcField
import HandS.Comp
import KE.GoesRaise
import HandS.Iter
import HandS.Dict
import PyProof.DictRoadsH
import KE.KeyNested
import HandS.Zip
import KE.GoesMore
import HandS.TupMul
import HandS.TupAny
import HandS.TupSets
import HandS.SetFor
import HandS.Strs
import HandS.SortOrd
import HandS.SortRule
import KE.SortData
import HandS.More
import KE.DataMinKey
import HandS.SortKw
import HandS.TupLe
import HandS.Deep
import HandS.AnyAll
import KE.DataCmp
import KE.DataMinMax
import HandS.Text
import HandS.FStr
import HandS.Replace
import HandS.RaiseMore
import HandS.Conv
import PySem.Challenge.RW_purseborder_k13_borders_together
set_option Elab.async false
set_option linter.all false
set_option maxRecDepth 100000
set_option maxHeartbeats 4000000
namespace Py
open PySem PySem.Spec PyProof.Rows L2

/-- at a: an exception of that class, its dict -/
def exk (cls : Value) (d : Option Addr) (a : Addr) : HO := .ext fun h => ∃ (oe : Obj) (vs : Array Value), h.get? a = some oe ∧ Zc cls d oe ∧ oe.data = .fields vs
theorem exk_ok {P : Program} {w : World} {H : Hp} {h : Heap} {a : Addr} {cls : Value} {d : Option Addr} {oe : Obj} {vs : Array Value} (he : h.get? a = some oe) (hz : Zc cls d oe) (hd : oe.data = .fields vs) : ObjOk P w H h a (exk cls d a) :=
  ⟨⟨oe, vs, he, hz, hd⟩, ⟨oe, he⟩, fun h1 h2 z k => by
    obtain ⟨o, v, q1, q2, q3⟩ := z
    exact ⟨o, v, k o q1, q2, q3⟩⟩
theorem exk_at {P : Program} {w : World} {H : Hp} {h : Heap} {a : Addr} {cls : Value} {d : Option Addr} (hok : HOk P w H h) (he : H a = some (exk cls d a)) : ∃ (oe : Obj) (vs : Array Value), h.get? a = some oe ∧ Zc cls d oe ∧ oe.data = .fields vs := by
  have x : ObjOk P w H h a (.ext fun h => ∃ (oe : Obj) (vs : Array Value), h.get? a = some oe ∧ Zc cls d oe ∧ oe.data = .fields vs) := hok a _ he
  exact x.1
/-- an untracked object of this call's own is tracked -/
theorem track {X : Cx} {pins : List (Addr × Obj)} {σ : L2.St} {H : Hp} {s : Shared} {a : Addr} {oe : Obj} {o : HO} (I : Inv X ((a, oe) :: pins) σ H s) (hn : X.s_0.heap.get? a = none) (hp : ∀ p ∈ X.pn ++ pins, p.1 ≠ a) (new : ObjOk X.prog X.w (upd H a o) s.heap a o) : Inv X pins σ (upd H a o) s := by
  obtain ⟨p1, p2, p3, p4, p5⟩ := I.pin (a, oe) (List.mem_append_right _ List.mem_cons_self)
  simp only at p1 p2 p3 p4 p5
  have ne0 : ∀ {b : Addr} {u : Obj}, X.s_0.heap.get? b = some u → b ≠ a := fun {b u} q z => by rw [z, hn] at q; cases q
  have neH : ∀ {b : Addr} {u : HO}, H b = some u → b ≠ a := fun {b u} q z => by rw [z, p2] at q; cases q
  refine ⟨I.ok, I.os, I.bare, ⟨I.base.keep, I.base.slot, fun b u q n x => ?_, I.base.there, fun b xs q => ?_, fun b ob u q => ?_, fun b ps q => ?_⟩, I.loc, I.cell, ?_, fun x c q => ?_, fun p hm => ?_, fun b u q => ?_, I.len⟩
  · rw [upd_ne (ne0 q)]
    exact I.base.free b u q n x
  · have := I.base.tups b xs q
    rw [upd_ne (neH this)]
    exact this
  · have := I.base.frzs b ob u q
    rw [upd_ne (neH this)]
    exact this
  · obtain ⟨more, this⟩ := I.base.tbls b ps q
    refine ⟨more, ?_⟩
    rw [upd_ne (neH this)]
    exact this
  · rw [upd_ne (Ne.symm p3)]
    exact I.free
  · have hc : c ≠ a := fun z => by
      obtain ⟨v, ob, e1, e2⟩ := I.cell x c q
      rw [z, p1] at e1
      cases e1
      exact p5 _ e2
    rw [upd_ne hc]
    exact I.freeC x c q
  · have hm' : p ∈ X.pn ++ (a, oe) :: pins := by
      rcases List.mem_append.mp hm with hm | hm
      · exact List.mem_append_left _ hm
      · exact List.mem_append_right _ (List.mem_cons_of_mem _ hm)
    obtain ⟨q1, q2, q3, q4, q5⟩ := I.pin p hm'
    refine ⟨q1, ?_, q3, q4, q5⟩
    rw [upd_ne (hp p hm)]
    exact q2
  · by_cases hb : b = a
    · subst hb
      rw [upd_same] at q
      cases q
      exact new
    · rw [upd_ne hb] at q
      exact (I.hok b u q).stay (fun _ _ _ r => r) (fun c e => by rw [upd_ne (neH e)]; exact e) fun c xs e => by rw [upd_ne (neH e)]; exact e
/-- what the clause wishes: slot i is n's, slot j is y's -/
def wKeep (K : PySem.W.Frag) (c : Value) (i j : Nat) (Wout : WX) (D : Ends) : WX := fun cls d σ H =>
  ∃ b, PySem.W.exmOne K cls c = some b ∧ (b = true → ∀ a, H a = none → D.nx (((σ.set i (some (.ref a))).set j (some (.ref a))).set i none) (upd H a (exk cls d a))) ∧ (b = false → Wout cls d σ H)
section
variable {X : Cx} {x n y : Str} {c : Value} {i j : Nat} {body : List Stmt} {np ep yp ap pos pos' : Pos} {tb : WX → TS} {Wout : WX}
theorem ps_try_keep (hs : X.stack = X.env :: X.outer) (hf : X.env.frame = some X.env.locals) (hex : X.ex = []) (hN : X.N.Nodup) (hi : X.N[i]? = some n) (hln : X.env.kindOf n = some .local) (hj : X.N[j]? = some y) (hlj : Loc X.env.scope y) (hfj : X.fn y = true) (hc : Names X x c) (tk : Takes X Wout)
    (hnd : (n == ("__debug__" : Str)) = false) (hnc : (n == ("__classdict__" : Str)) = false)
    (hb : ∀ (W : WX) (pn : List (Addr × Obj)) (xe : Value → Shared → Prop), Takes (X.tr pn xe) W → PassesOwn (model X.prog X.w) X.A X.env xe → PSs (X.tr pn xe) body (tb W)) :
    PS X (.Try body [.ExceptHandler (some (.Name x np)) (some n) [.Assign [.Name y yp] (.Name n ep) ap] pos'] [] [] pos) (fun D σ H => tb (wKeep X.K c i j Wout D) D σ H) := by
  refine ⟨fun pins s σ H D I h => ?_⟩
  have ok := I.ok
  have hfr : X.A.frames = some (X.env :: X.outer) := by rw [ok.frames, hs]
  have hloc : Loc X.env.scope n := .inl hln
  refine wpAny_Try_except ?_
  refine wpAny_mono ((hb (wKeep X.K c i j Wout D) (X.pn ++ pins) (fun e s₁ => wpAny (model X.prog X.w) X.A (noteFrame e X.env) (fun _ s₂ => wpAny (model X.prog X.w) X.A (setFlight e none) (fun _ s₃ =>
    wpAny (model X.prog X.w) X.A (handleBy e X.env [.ExceptHandler (some (.Name x np)) (some n) [.Assign [.Name y yp] (.Name n ep) ap] pos']) (SP X pins D) X.xe s₃) X.xe s₂) X.xe s₁) (fun u s' xx => ?_) PassesOwn.looking).run [] s σ H D (I.toTry _) h) (fun f s1 hsp => ?_) (fun e s1 he => he)
  · -- the catch
    obtain ⟨a, B, sI, pins', σ', H', cls, d, rfl, J', nb, up, sky, na, os, ag, b, hb1, hyes, hno⟩ := xx
    have J : Inv X pins σ' H' sI := J'.ofTry ok
    have sky' : Sky B (X.env :: X.outer) a (Zc cls d) X.env.locals s'.heap := by rw [← hs]; exact sky
    show wpAny (model X.prog X.w) X.A (noteFrame (.ref a) X.env) _ _ _
    refine Sky.land Zc.steady hfr hf sky' fun h3 fl3 up3 => ?_
    have J3 : Inv X pins σ' H' { s' with heap := h3 } := J.landed nb fl3.1 (up.trans up3) os ag
    obtain ⟨oe3, vs3, he3, hz3, hd3⟩ := fl3.there
    have notFr : ∀ {h : Heap} {o : Obj} {vs : Array Value}, h.FunFrames B (X.env :: X.outer) → h.get? a = some o → o.data = .fields vs → a ∉ frs (X.env :: X.outer) := fun {h o vs} ff e dd hm => by
      obtain ⟨_, o', e', hnf⟩ := ff.mem hm
      rw [e] at e'; cases e'
      exact hnf _ dd
    have nfr := notFr fl3.2.2.1 he3 hd3
    have nL : a ≠ X.env.locals := fun z => nfr (List.mem_filterMap.mpr ⟨X.env, List.mem_cons_self, by rw [hf, z]⟩)
    have nF : a ∉ X.fs := fun hm => by
      obtain ⟨e, he, q⟩ := List.mem_filterMap.mp hm
      exact nfr (List.mem_filterMap.mpr ⟨e, List.mem_cons_of_mem _ he, q⟩)
    have hB : B.get? a = none := fl3.2.1
    have hsI : sI.heap.get? a = none := by
      cases q : sI.heap.get? a with
      | none => rfl
      | some o =>
        have := nb a o q (by rw [hs]; exact nfr)
        rw [hB] at this
        cases this
    have hs0 : X.s_0.heap.get? a = none := by
      cases q : X.s_0.heap.get? a with
      | none => rfl
      | some o =>
        obtain ⟨o', e'⟩ := J.base.there a o q (by rw [hex]; simp)
        rw [hsI] at e'
        cases e'
    have hpn : ∀ p ∈ X.pn ++ pins, p.1 ≠ a := fun p hp z => by
      have := (J.pin p hp).1
      rw [z, hsI] at this
      cases this
    have S3 := J3.suite he3 hd3 na nL nF
    refine wpAny_handleBy_cons (codeAny_handlers_test ?_) (by intro q; cases q)
    have LT : PySem.W.Looks (model X.prog X.w) h3 (typeOf (.ref a)) cls := fun A Q E s k q => wpAny_typeOf_ref (k _ _ he3) (by rw [hz3.1]; exact q)
    have LM := PySem.W.exm_one (M := model X.prog X.w) (J3.kIn) LT hb1
    have test : ∀ {Q : Value → Shared → Prop} {E : Value → Shared → Prop}, Q c { s' with heap := h3 } → wpAny (model X.prog X.w) (X.A.mark (some (.ref a))) (eval (.Name x np) X.env) Q E { s' with heap := h3 } := fun {Q E} q => by
      obtain ⟨hg, hdbg, hm | ⟨hm, hv, hnn⟩⟩ := hc
      · exact ld_glob (X := X.suite a ((a, oe3) :: (X.pn ++ pins))) S3 hg hm q hdbg
      · exact ld_blt (X := X.suite a ((a, oe3) :: (X.pn ++ pins))) S3 hg hm hv q hnn hdbg
    refine test (LM.here ?_)
    cases b with
    | true =>
      refine codeAny_handlers_suite_as ?_
      refine HandSPX.lands_againZ fl3 fun h4 fl4 up4 => ?_
      have J4 : Inv X pins σ' H' { s' with heap := h4 } := J.landed nb fl4.1 ((up.trans up3).trans up4) os ag
      obtain ⟨oe4, vs4, he4, hz4, hd4⟩ := fl4.there
      have S4 := J4.suite he4 hd4 na nL nF
      refine store_ok (X := X.suite a ((a, oe4) :: (X.pn ++ pins))) (v := .ref a) S4 hN hi hloc rfl (fun s5 S5 => ?_) (.inr hln)
      have suite : PSs (X.suite a ((a, oe4) :: (X.pn ++ pins))) [.Assign [.Name y yp] (.Name n ep) ap] (tAsg (tVar i) (gName j)) :=
        pss_one (ps_set (X := X.suite a ((a, oe4) :: (X.pn ++ pins))) hN hj hlj (pe_var (X := X.suite a ((a, oe4) :: (X.pn ++ pins))) hi (.inl hln) hnd hnc) (by rfl) (.inl hfj))
      have hil : i < σ'.length := by
        rw [J4.len]
        exact (List.getElem?_eq_some_iff.mp hi).1
      refine wpAny_mono (suite.run [] s5 _ H' ⟨fun σ6 H6 => σ6 = (σ'.set i (some (.ref a))).set j (some (.ref a)) ∧ H6 = H', fun _ _ => False, fun _ _ => False, fun _ _ => False⟩ S5 ⟨.ref a, by rw [List.getElem?_set_self hil], rfl, rfl⟩) (fun f s6 hsp => ?_) (fun _ _ z => False.elim z)
      cases f with
      | next =>
        obtain ⟨σ6, H6, S6, rfl, rfl⟩ := hsp
        have S7 : Inv X ((a, oe4) :: pins) ((σ'.set i (some (.ref a))).set j (some (.ref a))) H6 s6 :=
          ⟨ok, S6.os, S6.bare, S6.base, S6.loc, S6.cell, S6.free, S6.freeC, fun p hp => S6.pin p (by
            rw [List.append_nil]
            rcases List.mem_append.mp hp with hp | hp
            · exact List.mem_cons_of_mem _ (List.mem_append_left _ hp)
            · rcases List.mem_cons.mp hp with rfl | hp
              · exact List.mem_cons_self
              · exact List.mem_cons_of_mem _ (List.mem_append_right _ hp)), S6.hok, S6.len⟩
        refine gone_ok S7 hN hi hln fun s7 J7 => ?_
        have hg : s7.heap.get? a = some oe4 := (J7.pin (a, oe4) (List.mem_append_right _ List.mem_cons_self)).1
        exact ⟨_, _, track J7 hs0 hpn (exk_ok hg hz4 hd4), hyes rfl a na⟩
      | brk => obtain ⟨σ6, H6, S6, q6⟩ := hsp; exact q6.elim
      | cont => obtain ⟨σ6, H6, S6, q6⟩ := hsp; exact q6.elim
      | ret u => obtain ⟨v6, σ6, H6, S6, r6, q6⟩ := hsp; exact q6.elim
    | false =>
      show wpAny _ X.A (handleBy (.ref a) X.env []) _ _ _
      refine wpAny_handleBy_nil ?_
      obtain ⟨k1, k2, k3, oe, vs, T, oT, ts', he, hz, hd, h1, hr⟩ := id fl3
      unfold PySem.passOn
      refine wpAny_bind (wpAny_field he hd h1 ?_)
      rw [if_neg (show ¬ ((Value.ref T == Value.none) = true) from by simp)]
      have fin : wpAny (model X.prog X.w) X.A (setFlight (.ref a) X.env.frame) (fun _ s4 => wpAny (model X.prog X.w) X.A (throw (.ref a) : Sem Flow) (SP X pins D) X.xe s4) X.xe { s' with heap := h3 } := by
        rw [hf]
        refine HandSPX.setFlight_upZ fl3 fun h4 hh4 up4 => wpAny_throw (tk _ _ ?_)
        exact ⟨a, B, sI, pins, σ', H', cls, d, rfl, J, nb, (up.trans up3).trans up4, .inr (.inr (by rw [hs]; exact hh4)), na, os, ag, hno rfl⟩
      first
        | exact wpAny_bind (wpAny_pure (wpAny_bind fin))
        | exact wpAny_bind fin
  · cases f with
    | next =>
      obtain ⟨σ', H', J', q⟩ := hsp
      exact wpAny_execs_nil ⟨σ', H', J'.ofTry ok, q⟩
    | brk =>
      obtain ⟨σ', H', J', q⟩ := hsp
      exact ⟨σ', H', J'.ofTry ok, q⟩
    | cont =>
      obtain ⟨σ', H', J', q⟩ := hsp
      exact ⟨σ', H', J'.ofTry ok, q⟩
    | ret u =>
      obtain ⟨v, σ', H', J', r, q⟩ := hsp
      exact ⟨v, σ', H', J'.ofTry ok, r, q⟩
end
end Py

namespace Py
open PySem PySem.Spec PyProof.Rows L2

def exFld (c : Str) : Option (Option Str) :=
  if c = "NoFloor" then some none else if c = "NoMore" then some none else if c = "NoPlace" then some (some "place") else if c = "NoPair" then some (some "pair")
  else if c = "NoWay" then some (some "way") else if c = "NoChange" then some (some "times") else if c = "NoCount" then some (some "told") else if c = "NoName" then some (some "name")
  else if c = "NoRow" then some (some "row") else none
structure ExC (K : PySem.W.Frag) (B C : Addr) : Prop where
  cl : (PySem.W.clsIn K C).isSome = true
  xf : XfC K C
  ca : PySem.W.findIn K (.ref C) "__class__" = some (some (.builtin "object.__class__"))
  mo : PySem.W.mroIn K C (.type "object") = some true
  kC : PySem.W.keepIn K (.ref C) = true
  ty : PySem.W.typeIn K (.ref C) = some (.type "type")
  sa : PySem.W.findIn K (.ref C) "__setattr__" = some (some (.builtin "object.__setattr__"))
  tI : PySem.W.kitOne K (.ref C) (.type "int") = some false
  tB : PySem.W.kitOne K (.ref C) (.type "bool") = some false
  tS : PySem.W.kitOne K (.ref C) (.type "str") = some false
  tT : PySem.W.kitOne K (.ref C) (.type "tuple") = some false
  tL : PySem.W.kitOne K (.ref C) (.type "list") = some false
  tV : PySem.W.kitOne K (.ref C) (.type "ValueError") = some true
  tP : PySem.W.kitOne K (.ref C) (.ref B) = some true
  ex : PySem.W.exmOne K (.ref C) (.ref B) = some true
  sp : PySem.W.specialIn K (.builtin "object.__class__") "__get__" = some (some (.builtin "getset_descriptor.__get__"))
  tk : PySem.W.takesIn K (.builtin "object.__class__") = some true
structure BaseC (K : PySem.W.Frag) (B : Addr) : Prop where
  sg : PySem.W.specialIn K (.ref B) "__getattribute__" = some (some (.builtin "type.__getattribute__"))
  rd : PySem.W.readsIn K B (.type "type") = true
  fi : PySem.W.findCls K (.ref B) (.type "type") "__init__" = some (.val (.builtin "ValueError.__init__"))
section
variable {X : Cx} {o e : Expr} {es : List Expr} {to te : TE} {ta : TA} {f : Str} {p p' p1 p2 pos : Pos}
end
/-- what __init__(self, f) of such a class does -/
def spI (K : PySem.W.Frag) (f : Str) : Sp := fun vs H Q _ => ∃ (a C : Addr) (y : V), vs = [.ref a, y] ∧ OexC K C ∧ PySem.W.findIn K (.ref C) f = some none ∧ H a = some (exo a C none) ∧ ∀ dx, H dx = none → dx ≠ a → Q .non (upd (upd H dx (exd dx [(f, y)])) a (exo a C (some dx)))
theorem exk_inst {P : Program} {w : World} {H : Hp} {h : Heap} {a C : Addr} {d : Option Addr} (hok : HOk P w H h) (he : H a = some (exk (.ref C) d a)) (hd : ∀ dd, d = some dd → ∃ fs, H dd = some (.xd fs)) : ∃ (oe : Obj) (od : Option Obj), PySem.W.InstAt h a oe C od := by
  obtain ⟨oe, vs, h1, h2, h3⟩ := exk_at hok he
  cases d with
  | none => exact ⟨oe, none, h1, h2.1, by unfold PySem.W.notCls; rw [h3] <;> rfl, by rw [h2.2]; exact trivial⟩
  | some dd =>
    obtain ⟨fs, hx⟩ := hd dd rfl
    have hx : ObjOk P w H h dd (.xd fs) := hok dd _ hx
    obtain ⟨mA, ⟨o, es, ep, ho, _⟩, _⟩ := hx
    exact ⟨oe, some o, h1, h2.1, by unfold PySem.W.notCls; rw [h3] <;> rfl, by rw [h2.2]; exact ho⟩
/-- isinstance(e, c) -/
def rIsx (K : PySem.W.Frag) : List V → Hp → VK → Prop := fun xs H Q => ∃ (a B C : Addr) (d : Option Addr) (c : V) (u : Value) (b : Bool), xs = [.ref a, c] ∧ ExC K B C ∧ H a = some (exk (.ref C) d a) ∧ (∀ dd, d = some dd → ∃ fs, H dd = some (.xd fs)) ∧
  ClsV c u ∧ PySem.W.kitOne K (.ref C) u = some b ∧ Q (.bl b) H
/-- e.f -/
def tXk (K : PySem.W.Frag) (f : Str) (te : TE) : TE := fun σ H Q => te σ H fun x H1 => ∃ (a B C dd : Addr) (v : V), x = .ref a ∧ ExC K B C ∧ PySem.W.findIn K (.ref C) f = some none ∧ H1 a = some (exk (.ref C) (some dd) a) ∧ H1 dd = some (.xd [(f, v)]) ∧ Q v H1
section
variable {X : Cx}
theorem call_isx : CallR X (.builtin "isinstance") (rIsx X.K) := by
  intro pins s σ H xs us Q I r h
  obtain ⟨a, B, C, d, c, u, b, rfl, T, he, hd, k, e, q⟩ := h
  obtain ⟨u1, u2, rfl, r1, r2⟩ := vals2 r
  have e2 := k.eq r2
  subst e2
  cases (show u1 = Value.ref a from r1)
  obtain ⟨oe, od, J⟩ := exk_inst I.hok he hd
  exact PySem.W.kia_one (PySem.W.kitx_exc (ox := oe) (od := od) T.cl T.xf.ga T.xf.gg T.xf.exC T.ca T.sp T.tk T.mo) I.kIn J e (fun z => nomatch z) fun tk => ⟨.bl b, H, I.tok tk, rfl, q⟩
theorem call_isx2 : CallR X (.builtin "isinstance") (fun xs H Q => rIsx X.K xs H Q ∨ rIsi X.K xs H Q) := by
  intro pins s σ H xs us Q I r h
  rcases h with h | h
  · exact call_isx pins s σ H xs us Q I r h
  · exact call_isi pins s σ H xs us Q I r h
/-- isinstance(e, (c1, ..)) -/
def rIsxT (K : PySem.W.Frag) : List V → Hp → VK → Prop := fun xs H Q => ∃ (a B C tp : Addr) (d : Option Addr) (cs : List V) (us : List Value) (b : Bool), xs = [.ref a, .ref tp] ∧ ExC K B C ∧ H a = some (exk (.ref C) d a) ∧ (∀ dd, d = some dd → ∃ fs, H dd = some (.xd fs)) ∧
  H tp = some (.tup cs) ∧ Paired ClsV cs us ∧ PySem.W.kitAny K (.ref C) us = some b ∧ Q (.bl b) H
theorem call_isxT : CallR X (.builtin "isinstance") (rIsxT X.K) := by
  intro pins s σ H xs us Q I r h
  obtain ⟨a, B, C, tp, d, cs, ws, b, rfl, T, he, hd, hT, k, e, q⟩ := h
  obtain ⟨u1, u2, rfl, r1, r2⟩ := vals2 r
  cases (show u2 = Value.ref tp from r2)
  cases (show u1 = Value.ref a from r1)
  obtain ⟨oe, od, J⟩ := exk_inst I.hok he hd
  obtain ⟨_, its, rv, o, h1, h2, n, h3⟩ := (show ObjOk X.prog X.w H s.heap tp (.tup cs) from I.hok tp _ hT)
  have e3 := ClsV.all k rv
  subst e3
  obtain ⟨oc, od', dt, sl⟩ := o
  simp only at h2 h3
  subst h2 h3
  exact PySem.W.kia_tup (PySem.W.kitx_exc (ox := oe) (od := od) T.cl T.xf.ga T.xf.gg T.xf.exC T.ca T.sp T.tk T.mo) I.kIn J h1 e (fun z => nomatch z) fun tk => ⟨.bl b, H, I.tok tk, rfl, q⟩
theorem pe_xk {e : Expr} {te : TE} {pos : Pos} {n : Str} (he : PE X e te) (hb : attributeBase e n X.env (eval e X.env) = eval e X.env) : PE X (.Attribute e n pos) (tXk X.K n te) := by
  refine ⟨fun pins s σ H Q I h => ?_⟩
  refine attr_of hb (thn (he.run pins s σ H _ I h) fun u s1 hh => ?_)
  obtain ⟨x, H1, I1, rx, a, B, C, dd, v, ex, T, hno, ea, ed, q⟩ := hh
  subst ex
  obtain rfl : u = Value.ref a := rx
  obtain ⟨oe, vs, h1, h2, h3⟩ := exk_at I1.hok ea
  have hx : ObjOk X.prog X.w H1 s1.heap dd (.xd [(n, v)]) := I1.hok dd _ ed
  obtain ⟨mA, hns, hr⟩ := hx
  obtain ⟨od, ho, hl⟩ := lookIn_ns hns
  obtain ⟨u, hu, ru⟩ := RelO.some_of (v := v) (o := mA n) (by
    have := hr n
    rw [lookup_put, if_pos rfl] at this
    exact this)
  have J : PySem.W.InstAt s1.heap a oe C (some od) := ⟨h1, h2.1, by unfold PySem.W.notCls; rw [h3] <;> rfl, by rw [h2.2]; exact ho⟩
  exact HandSPX.exc_get I1.kIn J T.xf.ga T.xf.gg T.xf.exC (PySem.W.findObj_own T.xf.hdC hno rfl (by rw [hl, hu])) (handed_of ru) ⟨v, H1, I1.tok _, ru, q⟩
end
theorem upd_made {H : Hp} {a d : Addr} {o1 o2 o3 o4 : HO} (ha : H a = none) (hda : d ≠ a) : upd (del (upd (upd (upd H a o1) d o2) a o3) a) d o4 = upd H d o4 := by
  funext b
  by_cases h1 : b = d
  · subst h1
    rw [upd_same, upd_same]
  · rw [upd_ne h1, upd_ne h1]
    by_cases h2 : b = a
    · subst h2
      rw [del_same, ha]
    · rw [del_ne h2, upd_ne h2, upd_ne h1, upd_ne h2]
theorem cx_false {P : Program} {w : World} {l : List Env} {H : Hp} {s : Shared} {e : Value} {s' : Shared} (h : L2.CX P w l H s (fun _ _ _ => False) e s') : False := by
  obtain ⟨_, _, _, _, _, _, _, _, _, _, _, _, z⟩ := h
  exact z
/-- what must stand for «raise C(e)» -/
structure RseC (P : Program) (w : World) (K : PySem.W.Frag) (mg : Str → Option Value) (base : Heap) (C : Addr) (f : Str) : Prop where
  ox : OexC K C
  no : PySem.W.findIn K (.ref C) f = some none
  ini : ∃ (fI : Addr) (fd : FuncData), PySem.W.findIn K (.ref C) "__init__" = some (some (.ref fI)) ∧ PySem.W.typeIn K (.ref fI) = some (.type "function") ∧ FnOk P w K mg base (L2.CX P w) 1 fI fd ["self", f] (spI K f) ∧ Binds K fd ["self", f] []
/-- the wish behind e in raise C(e) -/
def wRse (K : PySem.W.Frag) (C : Addr) (f : Str) (W : WX) (σ : L2.St) (v : V) (H1 : Hp) : Prop := tMkO C (spI K f) [] (fun _ H Q => Q [v] H) σ H1 fun cls d H' => W cls d σ H'
theorem wRse_of {K : PySem.W.Frag} {C : Addr} {f : Str} {W : WX} {σ : L2.St} {v : V} {H1 : Hp} (ox : OexC K C) (no : PySem.W.findIn K (.ref C) f = some none) (h : ∀ d, H1 d = none → W (.ref C) (some d) σ (upd H1 d (.xd [(f, v)]))) : wRse K C f W σ v H1 := by
  refine ⟨by simp, fun a ha => ⟨a, C, v, rfl, ox, no, upd_same, fun dx hn hne => ⟨rfl, dx, [(f, v)], upd_same, ?_, ?_, ?_⟩⟩⟩
  · rw [upd_ne hne, upd_same]
  · rw [upd_ne hne] at hn
    exact hn
  · rw [upd_made ha hne]
    rw [upd_ne hne] at hn
    exact h dx hn
section
variable {X : Cx} {W : WX} {C : Addr} {f x : Str} {e : Expr} {te : TE} {p pos pos' : Pos}
theorem ps_rse (T : RseC X.prog X.w X.K X.mg X.base C f) (hc : X.calm = true) (tk : Takes X W) (hr : Room 2 X.A) (hg : Gl X x) (hm : X.mg x = some (.ref C)) (he : PE X e te) (hst : starEach [e] X.env = (false, eval e X.env) :: starEach [] X.env) (hdb : (x == ("__debug__" : Str)) = false) :
    PS X (.Raise (some (.Call (.Name x p) [e] [] pos)) none pos') (fun _ σ H => te σ H (wRse X.K C f W σ)) := by
  obtain ⟨fI, fd, i1, i2, i3, i4⟩ := T.ini
  have h := ps_raise (pos := pos') hc tk (pmk_oex (p := p) (pos := pos) (dvs := []) (ds := []) T.ox i1 i2 i3 hr i4 .nil (fun _ _ _ _ _ _ _ z => (cx_false z).elim) hg hm (pa_cons he pa_nil hst) hdb hst)
  exact ⟨fun pins s σ H D I q => h.run pins s σ H D I q⟩
/-- raise C('m') -/
theorem ps_rs0 {m : Str} {j : Nat} {p2 : Pos} (hx : PySem.W.excIn X.K C [.type "ValueError", .type "Exception", .type "BaseException", .type "object"] "ValueError.__new__" = true) (kC : PySem.W.keepIn X.K (.ref C) = true) (h1 : PySem.W.subIn X.K (.ref C) (.type "BaseException") = some true) (h2 : PySem.W.typeIn X.K (.ref C) = some (.type "type")) (hc : X.calm = true) (tk : Takes X W) (hg : Gl X x) (hm : X.mg x = some (.ref C)) (hdb : (x == ("__debug__" : Str)) = false) :
    PS X (.Raise (some (.Call (.Name x p) [.Constant (.str m) j p2] [] pos)) none pos') (fun _ σ H => W (.ref C) none σ H) := by
  have h := ps_raise (pos := pos') hc tk (pmk_own (p := p) (pos := pos) (m := m) (j := j) (p2 := p2) F.excBase_ValueError hx hm kC (raises_own h1 h2) hg hdb)
  exact ⟨fun pins s σ H D I q => h.run pins s σ H D I q⟩
end
structure ExAll (P : Program) (w : World) (K : PySem.W.Frag) (mg : Str → Option Value) (base : Heap) (B : Addr) : Prop where
  mP : mg "PurseError" = some (.ref B)
  bP : PySem.W.subIn K (.ref B) (.type "BaseException") = some true
  mgo : ∀ c C, PySem.W.nsIn K mainGlobals c = some (some (.ref C)) → mg c = some (.ref C)
  one : ∀ c fo, exFld c = some fo → mg c ≠ none → ∃ C, PySem.W.nsIn K mainGlobals c = some (some (.ref C)) ∧ mg c = some (.ref C) ∧ ExC K B C ∧ (∀ f, fo = some f → RseC P w K mg base C f) ∧
    (fo = none → PySem.W.excIn K C [.type "ValueError", .type "Exception", .type "BaseException", .type "object"] "ValueError.__new__" = true)
  two : ∀ c c' C C' fo fo', exFld c = some fo → exFld c' = some fo' → PySem.W.nsIn K mainGlobals c = some (some (.ref C)) → PySem.W.nsIn K mainGlobals c' = some (some (.ref C')) → PySem.W.kitOne K (.ref C) (.ref C') = some (decide (c = c'))
  non : ∀ c C fo, exFld c = some fo → PySem.W.nsIn K mainGlobals c = some (some (.ref C)) → PySem.W.kitOne K (.type "NoneType") (.ref C) = some false
  nonP : PySem.W.kitOne K (.type "NoneType") (.ref B) = some false
end Py

namespace Py
open PySem PySem.Spec PyProof.Rows L2
open Sem (wp)

section
variable {X : Cx} {pins : List (Addr × Obj)} {σ : L2.St} {H : Hp} {s s' : Shared} {E : XK}
/-- a call's exception is in the air, flying -/
theorem of_callF (I : Inv X pins σ H s) {u : Value} (c : L2.CX X.prog X.w X.stack H s E u s') : ∃ (a : Addr) (B : Heap) (sI : Shared) (H' : Hp) (cls : Value) (d : Option Addr),
    u = .ref a ∧ Inv X pins σ H' sI ∧ (∀ b o, sI.heap.get? b = some o → b ∉ frs X.stack → B.get? b = some o) ∧ sI.heap.UpToSlots s'.heap ∧
      HandSPX.FlyingZ B X.stack a (Zc cls d) s'.heap ∧ H' a = none ∧ s'.os = sI.os ∧ AllBare s'.gens ∧ E cls d H' := by
  obtain ⟨a, B, H', cls, d, rfl, fl, hok, ub, na, os, ag, hE⟩ := c
  obtain ⟨G, g1, g2⟩ := restrict s'.heap fun b => (B.get? b).isSome || decide (b ∈ frs X.stack)
  have st : B.StaysIn s'.heap := fl.1
  have gB : ∀ b o, B.get? b = some o → G.get? b = some o := fun b o e => by
    rw [g1 b (by simp [e])]
    exact st b o e
  have gF : ∀ b, b ∈ frs X.stack → G.get? b = s'.heap.get? b := fun b hb => g1 b (by simp [hb])
  have og : ∀ b o, G.get? b = some o → s'.heap.get? b = some o ∧ ((B.get? b).isSome = true ∨ b ∈ frs X.stack) := fun b o e => by
    cases q : ((B.get? b).isSome || decide (b ∈ frs X.stack)) with
    | false => rw [g2 b q] at e; cases e
    | true =>
      rw [g1 b q] at e
      exact ⟨e, by simpa [Bool.or_eq_true] using q⟩
  refine ⟨a, B, { s with heap := G, gens := s'.gens, drawn := s'.drawn, toks := s'.toks }, H', cls, d, rfl, ?_, fun b o e hb => ?_, Heap.UpToSlots.of_keeps fun b o e => (og b o e).1, fl, na, os, ag, hE⟩
  · refine I.call (ch := []) ⟨fun b o e n hb _ => gB b o (ub.keep b o e n hb), fun b o e n hb _ => ?_, fun b o e n _ => ub.free b o e n, fun b o e _ => ?_, ub.tups, ub.frzs, ub.tbls⟩ (hok.kept gB) ag (fun _ z => nomatch z)
    · obtain ⟨sl, q⟩ := ub.slot b o e hb
      exact ⟨sl, by rw [gF b hb]; exact q⟩
    · by_cases hb : b ∈ frs X.stack
      · obtain ⟨sl, q⟩ := ub.slot b o e hb
        exact ⟨_, by rw [gF b hb]; exact q⟩
      · obtain ⟨o', q⟩ := ub.there b o e hb
        exact ⟨o', gB b o' q⟩
  · obtain ⟨e', h⟩ := og b o e
    rcases h with h | h
    · obtain ⟨o', q⟩ := Option.isSome_iff_exists.mp h
      have z := st b o' q
      rw [e'] at z; cases z
      exact q
    · exact absurd h hb
end
section
variable {X : Cx} {W : WX} {pins pins' : List (Addr × Obj)} {σ σ' : L2.St} {H3 H' : Hp} {s3 s' s'' : Shared} {scope : Scope} {ce : Env} {fp : List Addr} {E : XK} {u : Value} {C : Addr}
theorem lead_out (tk : Takes X W) (hs : X.stack = X.env :: X.outer) (hf : X.env.frame = some X.env.locals) (hcf : ce.frame = X.env.frame) (cL : ce.locals = C) (hC : s3.heap.objs.size ≤ C)
    (I3 : Inv X pins σ H3 s3) (hch : ∀ b ∈ fp, (b ∈ X.ex ∨ X.s_0.heap.objs.size ≤ b) ∧ b ≠ X.env.locals ∧ (∀ x c, X.env.cells.lookup x = some c → c ≠ b) ∧ ∀ p ∈ X.pn ++ pins, p.1 ≠ b)
    (hW : ∀ c d H, E c d H → W c d σ H) (I' : Inv (X.blk s3 H3 scope ce fp) pins' σ' H' s') (c : L2.CX X.prog X.w X.stack H' s' E u s'') :
    notedBy (model X.prog X.w) X.A ce (CompFails (model X.prog X.w) X.A X.xe ce) u s'' := by
  obtain ⟨a, B, sI, H2, cls, d, rfl, J, nb, up, fl, na, os, ag, w⟩ := of_callF (X := X.blk s3 H3 scope ce fp) I' c
  have hfr : X.A.frames = some (X.env :: X.outer) := by rw [I3.ok.frames, hs]
  have fl : HandSPX.FlyingZ B X.stack a (Zc cls d) s''.heap := fl
  have nb : ∀ b o, sI.heap.get? b = some o → b ∉ frs X.stack → B.get? b = some o := nb
  rw [hs] at fl
  have nfr : ∀ b ∈ frs X.stack, b < s3.heap.objs.size := fun b hb => by
    obtain ⟨_, o, e, _⟩ := I3.stack.mem hb
    exact Heap.lt_size e
  have hCfr : C ∉ frs X.stack := fun hm => absurd (nfr C hm) (Nat.not_lt.mpr hC)
  obtain ⟨m, hn, _⟩ := J.loc
  have hn : sI.heap.Ns ce.locals m := hn
  have hJf : H2 C = none := by
    have := J.free
    have z : H2 ce.locals = none := this
    rw [cL] at z
    exact z
  show wpAny _ X.A (noteFrame (.ref a) ce) _ _ s''
  rw [noteFrame_env _ hcf]
  refine HandSPX.looks_onZ Zc.steady hfr hf fl fun h1 hh up1 => ?_
  have hn1 : h1.Ns ce.locals m := by
    obtain ⟨oL, es, ep, hoL, r⟩ := hn
    exact ⟨oL, es, ep, hh.1 _ _ (nb _ _ hoL (by rw [cL]; exact hCfr)), r⟩
  refine ⟨m, hn1, fun h2 m2 hn2 sb => ?_⟩
  obtain ⟨oL, esL, epL, hoL, hdL, _⟩ := id hn1
  rw [cL] at hoL sb hn2
  -- the ground without the block's names
  have b1 : ∀ b o, (PySem.W.hideAll B [C]).get? b = some o → B.get? b = some o ∧ b ≠ C := fun b o e => by
    refine ⟨PySem.W.of_hideAll _ e, fun z => ?_⟩
    rw [z, PySem.W.hideAll_none [C] (by simp)] at e
    cases e
  have b2 : ∀ b, B.get? b = none → (PySem.W.hideAll B [C]).get? b = none := fun b e => by
    cases q : (PySem.W.hideAll B [C]).get? b with
    | none => rfl
    | some o => rw [(b1 b o q).1] at e; cases e
  obtain ⟨k1, k2, k3, oe, vs, T, oT, ts, he, hz, hd, hv1, hnT, hTe, hT, hdT, ht3⟩ := hh
  have aC : a ≠ C := fun z => by
    rw [z, hoL] at he
    cases he
    rw [hdL] at hd
    cases hd
  have TC : T ≠ C := fun z => by
    rw [z, hoL] at hT
    cases hT
    rw [hdL] at hdT
    cases hdT
  have he2 : h2.get? a = some oe := (sb.2 a aC).trans he
  have hT2 : h2.get? T = some oT := (sb.2 T TC).trans hT
  have tr2 : HandSPX.TracedZ h2 (PySem.W.hideAll B [C]) a (Zc cls d) (rawInt X.env.locals) := ⟨oe, vs, T, oT, ts, he2, hz, hd, hv1, b2 T hnT, hTe, hT2, hdT, ht3⟩
  have st2 : (PySem.W.hideAll B [C]).StaysIn h2 := fun b o e => (sb.2 b (b1 b o e).2).trans (k1 b o (b1 b o e).1)
  have ff2 : h2.FunFrames (PySem.W.hideAll B [C]) (X.env :: X.outer) := funFrames_none (Heap.FunFrames.sameBut sb hn2 k3) fun b hb => b2 b (k3.mem hb).1
  unfold PySem.passOn
  refine wpAny_bind (wpAny_field he2 hd hv1 ?_)
  rw [if_neg (show ¬ ((Value.ref T == Value.none) = true) from by simp)]
  rw [hcf, hf]
  refine wpAny_bind (HandSPX.setFlight_anyZ (fr := some X.env.locals) (s := { s'' with heap := h2 }) st2 ff2 tr2 fun h3 st3 ff3 tr3 up3 => ?_)
  refine wpAny_throw ?_
  refine tk _ _ ⟨a, PySem.W.hideAll B [C], { sI with heap := PySem.W.hideAll sI.heap [C] }, pins, σ, H2, cls, d, rfl, ?_, fun b o e hb => ?_, fun b o e hnf => ?_, ?_, na, os, ag, hW _ _ _ w⟩
  · -- a state of the def's own
    have g : ∀ b o, sI.heap.get? b = some o → b ≠ C → (PySem.W.hideAll sI.heap [C]).get? b = some o := fun b o e hb => PySem.W.hideAll_get [C] e (by simpa using hb)
    have lt : ∀ b o, s3.heap.get? b = some o → b ≠ C := fun b o e z => by
      have := Heap.lt_size e
      rw [z] at this
      exact absurd this (Nat.not_lt.mpr hC)
    have JB := J.base
    refine I3.call' (ch := fp) (s' := { sI with heap := PySem.W.hideAll sI.heap [C] }) J.os ⟨fun b o e n hb hx => g b o (JB.keep b o e n hb hx) (lt b o e), fun b o e n hb hx => ?_, JB.free, fun b o e hx => ?_, JB.tups, JB.frzs, JB.tbls⟩ (fun b o q => ?_) J.bare hch
    · obtain ⟨sl, e1⟩ := JB.slot b o e n hb hx
      exact ⟨sl, g b _ e1 (lt b o e)⟩
    · obtain ⟨o', e1⟩ := JB.there b o e hx
      exact ⟨o', g b _ e1 (lt b o e)⟩
    · refine (J.hok b o q).stay (fun c u hc r => g c u r fun z => ?_) (fun _ r => r) fun _ _ r => r
      rcases hc with hc | hc
      · rw [← hc, z, hJf] at q; cases q
      · rw [z, hJf] at hc; cases hc
  · have e1 : (PySem.W.hideAll sI.heap [C]).get? b = some o := e
    have e2 := PySem.W.of_hideAll _ e1
    refine PySem.W.hideAll_get [C] (nb b o e2 hb) ?_
    simp only [List.mem_singleton]
    intro z
    rw [z, PySem.W.hideAll_none [C] (by simp)] at e1
    cases e1
  · have e1 : (PySem.W.hideAll sI.heap [C]).get? b = some o := e
    have e2 := PySem.W.of_hideAll _ e1
    have bC : b ≠ C := fun z => by
      rw [z, PySem.W.hideAll_none [C] (by simp)] at e1
      cases e1
    obtain ⟨sl1, q1⟩ := up b o e2 hnf
    obtain ⟨sl2, q2⟩ := up1 b _ q1 hnf
    obtain ⟨sl3, q3⟩ := up3 b _ ((sb.2 b bC).trans q2) hnf
    exact ⟨sl3, q3⟩
  · rw [hs]
    exact .inr (.inr ⟨st3, b2 a k2, ff3, tr3⟩)
end

section
variable {Y : Cx} {E' : Value → Shared → Prop} {pins : List (Addr × Obj)} {σ : L2.St} {H : Hp} {s : Shared}
theorem inv_to (I : Inv Y pins σ H s) : Inv { Y with xe := E' } pins σ H s :=
  ⟨⟨I.ok.mod, I.ok.kind, I.ok.glob, I.ok.blt, I.ok.above, I.ok.inj, I.ok.has, I.ok.cab, I.ok.hd, I.ok.frames, I.ok.stk, I.ok.exf, I.ok.bs, I.ok.bsz, I.ok.noex, I.ok.exfs, I.ok.funs, I.ok.frf⟩, I.os, I.bare, I.base, I.loc, I.cell, I.free, I.freeC, I.pin, I.hok, I.len⟩
theorem inv_of (I : Inv { Y with xe := E' } pins σ H s) : Inv Y pins σ H s :=
  ⟨⟨I.ok.mod, I.ok.kind, I.ok.glob, I.ok.blt, I.ok.above, I.ok.inj, I.ok.has, I.ok.cab, I.ok.hd, I.ok.frames, I.ok.stk, I.ok.exf, I.ok.bs, I.ok.bsz, I.ok.noex, I.ok.exfs, I.ok.funs, I.ok.frf⟩, I.os, I.bare, I.base, I.loc, I.cell, I.free, I.freeC, I.pin, I.hok, I.len⟩
end
/-- [elt for target in iter if ..], whose element may raise -/
def tLcX (wi : TI) (g : TG) (tt : TT) (te : L2.St → TE) (vs : List Nat) : TE := fun σ H Q => wi σ H fun J H1 => ∀ D, H1 D = none → ∃ W : Nat → Nat → Hp → Prop, (∃ m, W 0 m (upd H1 D (.lst []))) ∧ ∀ i m H, W i m H →
  (J.stop i H ∧ Q (.ref D) H) ∨ (J.go i H ∧ ∃ Nx : Hp → Prop, (∀ H', Nx H' → ∃ m', m' < m ∧ W (i + 1) m' H') ∧ ∀ x H', J.yld i H x H' → g x (wipe σ vs) H' fun σ2 H2 => wipe σ2 vs = wipe σ vs ∧ tt σ2 H2 fun b H3 =>
    if b = true then te σ σ2 H3 fun y H4 => ∃ acc, H4 D = some (.lst acc) ∧ acc.length < sizeLine ∧ Nx (upd H4 D (.lst (acc ++ [y]))) else Nx H3)
/-- what such an element's context asks of its exceptions -/
def Passes (X : Cx) (W : WX) (Y : Cx) (σ : L2.St) : Prop := ∀ (pins : List (Addr × Obj)) (σ' : L2.St) (H : Hp) (s : Shared) (e : Value) (s' : Shared), Inv Y pins σ' H s → L2.CX X.prog X.w X.stack H s (fun c d H => W c d σ H) e s' → Y.xe e s'
section
variable {X : Cx} {W : WX}
theorem lc_coreX {pins : List (Addr × Obj)} {s : Shared} {σ : L2.St} {H : Hp} {Q : VK} {elt tg iter : Expr} {ifs : List Expr} {scope : Scope} {own : List (Str × Nat)} {pos pos' : Pos} {wi : TI} {g : TG} {tt : TT} {te : L2.St → TE} {use : Option (Value → Sem Unit)} {Qf : Value → Shared → Prop}
    (tk : Takes X W) (hst : X.stack = X.env :: X.outer) (hfr : X.env.frame = some X.env.locals)
    (hc : X.calm = true) (hN : X.N.Nodup) (I : Inv X pins σ H s) (hi : PI X tg iter wi) (ok : BlkOk X.N X.env.scope scope own)
    (hg : ∀ (s : Shared) (H : Hp) (C : Addr) (cl : List (Str × Addr)) (fp : List Addr), PG (X.blk s H scope (compEnvC scope cl C X.env) fp) tg g) (ht : ∀ (s : Shared) (H : Hp) (C : Addr) (cl : List (Str × Addr)) (fp : List Addr), PTs (X.blk s H scope (compEnvC scope cl C X.env) fp) ifs tt)
    (he : ∀ (σ : L2.St) (s : Shared) (H : Hp) (C : Addr) (cl : List (Str × Addr)) (fp : List Addr) (E' : Value → Shared → Prop), Passes X W { X.blk s H scope (compEnvC scope cl C X.env) fp with xe := E' } σ → PE { X.blk s H scope (compEnvC scope cl C X.env) fp with xe := E' } elt (te σ)) (hs : ∀ x, foldedSetIterable iter X.env x = pure x)
    (h : tLcX wi g tt te (own.map (·.2)) σ H Q)
    (hRR : ∀ D (ce : PySem.Env) s' m H', Inv X pins σ H' s' → Q (.ref D) H' → s'.heap.Ns ce.locals m → FpOk X pins H' ce.locals → compEnds (model X.prog X.w) X.A X.xe use Qf (.ref D) ce (.ok .next) s') :
    wpAny (model X.prog X.w) X.A (comprehension (.ListComp elt [⟨tg, iter, ifs, 0⟩] scope pos) scope X.env pos' (newList []) false (eval iter X.env) use) Qf X.xe s := by
  have hfree : ∀ y ∈ scope.names, y.2 = .free → ∃ c, X.env.cells.lookup y.1 = some c := fun y hy e => by
    rcases ok.free y hy e with k | k
    · exact I.ok.has _ (.inl k)
    · exact I.ok.has _ (.inr k)
  refine comprehension_at (use := use) rfl hs (closure_ok hfree) ok.kind (fun y hy e => by rw [ok.uniq y hy, e])
    (thn (hi.run pins s σ H _ I h) fun xv s1 hx => thn hx fun itv s2 h2 => ?_)
  obtain ⟨it, fp, tn, J, H2, e, I2, T, st2, f2, q⟩ := h2
  subst e
  refine wpAny_newObj_type (newEnv_comp ?_) (by show 0 ≤ sizeLine; decide)
  generalize hD : s2.heap.objs.size = D
  have hDn : H2 D = none := I2.hok.fresh (Nat.le_of_eq hD)
  obtain ⟨Wt, ⟨m0, w0⟩, turn⟩ := q D hDn
  -- the new list
  generalize hs3 : ({ s2 with heap := s2.heap.push { cls := .type "list", data := .seq ([] : List Value).toArray } } : Shared) = s3
  have I3 : Inv X pins σ (upd H2 D (.lst [])) s3 := by
    rw [← hs3]
    refine I2.laid (t' := s2.toks) (fun b o e => Heap.get?_push_of_some _ e) (Nat.le_of_eq hD) ⟨Nat.zero_le _, [], 0, .nil, ?_⟩
    rw [← hD]
    exact Heap.get?_push_size _ rfl
  have h3 : s3.heap = s2.heap.push { cls := .type "list", data := .seq ([] : List Value).toArray } := by rw [← hs3]
  have sz : ∀ b ∈ fp, b < s2.heap.objs.size := fun b hb => by
    obtain ⟨o, e, _⟩ := T.obj _ _ st2 b hb
    exact Heap.lt_size e
  have f3 : ∀ b ∈ fp, FpOk X pins (upd H2 D (.lst [])) b ∧ b < s3.heap.objs.size := fun b hb => by
    have hlt := sz b hb
    refine ⟨⟨?_, (f2 b hb).2⟩, by rw [h3, Heap.size_push]; exact Nat.lt_succ_of_lt hlt⟩
    rw [upd_ne (by rw [← hD]; exact Nat.ne_of_lt hlt)]
    exact (f2 b hb).1
  have st3 : tn 0 s3.heap := T.keep _ _ _ st2 fun b _ o e => by rw [h3]; exact Heap.get?_push_of_some _ e
  have I4 := block_start I3 ok hN f3
  have pg := hg s3 (upd H2 D (.lst [])) s3.heap.objs.size (cellsFrom (s3.heap.objs.size + 1) scope.names (cloFrom X.env.cells scope.names [])) fp
  have pt := ht s3 (upd H2 D (.lst [])) s3.heap.objs.size (cellsFrom (s3.heap.objs.size + 1) scope.names (cloFrom X.env.cells scope.names [])) fp
  have pe := he σ s3 (upd H2 D (.lst [])) s3.heap.objs.size (cellsFrom (s3.heap.objs.size + 1) scope.names (cloFrom X.env.cells scope.names [])) fp
  show codeAny _ _ (.compStart (.ListComp elt [⟨tg, iter, ifs, 0⟩] scope pos) 0 (.ref it) (.ref D) (compEnvC scope (cellsFrom (s3.heap.objs.size + 1) scope.names (cloFrom X.env.cells scope.names [])) s3.heap.objs.size X.env)) (compEnds (model X.prog X.w) X.A X.xe use Qf (.ref D) (compEnvC scope (cellsFrom (s3.heap.objs.size + 1) scope.names (cloFrom X.env.cells scope.names [])) s3.heap.objs.size X.env)) { s3 with heap := pushCells (s3.heap.push { cls := .type "dict", data := .dict #[] }) scope.names }
  have nfp : ∀ b ∈ fp, (upd H2 D (.lst [])) b = none := fun b hb => (f3 b hb).1.1
  have cF : (compEnvC scope (cellsFrom (s3.heap.objs.size + 1) scope.names (cloFrom X.env.cells scope.names [])) s3.heap.objs.size X.env).frame = X.env.frame := rfl
  generalize hce : compEnvC scope (cellsFrom (s3.heap.objs.size + 1) scope.names (cloFrom X.env.cells scope.names [])) s3.heap.objs.size X.env = ce at I4 pg pt pe cF ⊢
  have cL : ce.locals = s3.heap.objs.size := by subst hce; rfl
  generalize hH3 : upd H2 D (.lst []) = H3 at I3 I4 pg pt pe w0 nfp f3
  generalize hs4 : ({ s3 with heap := pushCells (s3.heap.push { cls := .type "dict", data := .dict #[] }) scope.names } : Shared) = s4 at I4 ⊢
  have st4 : tn 0 s4.heap := T.keep _ _ _ st3 fun b _ o e => by rw [← hs4]; exact pushCells_keeps _ _ _ _ (Heap.get?_push_of_some _ e)
  have hch : ∀ b ∈ fp, (b ∈ X.ex ∨ X.s_0.heap.objs.size ≤ b) ∧ b ≠ X.env.locals ∧ (∀ x c, X.env.cells.lookup x = some c → c ≠ b) ∧ ∀ p ∈ X.pn ++ pins, p.1 ≠ b := fun b hb => ⟨(f3 b hb).1.2.2.2.1, (f3 b hb).1.2.1, (f3 b hb).1.2.2.2.2.1, (f3 b hb).1.2.2.2.2.2⟩
  have eE : (fun e s' => compEnds (model X.prog X.w) X.A X.xe use Qf (.ref D) ce (.error e) s') = CompFails (model X.prog X.w) X.A X.xe ce := by
    funext e s'
    cases use <;> rfl
  have pe := pe (notedBy (model X.prog X.w) X.A ce (fun e s' => compEnds (model X.prog X.w) X.A X.xe use Qf (.ref D) ce (.error e) s')) (fun pins' σ' H' s' e s'' I' c => by rw [eE]; exact lead_out (C := s3.heap.objs.size) tk hst hfr cF cL (Nat.le_refl _) I3 hch (fun _ _ _ w => w) (inv_of I') c)
  have stat : ∀ {σ' : L2.St} {H' : Hp} {s' : Shared}, Inv (X.blk s3 H3 scope ce fp) [] σ' H' s' → (∀ b ∈ fp, H' b = none) → ∀ b ∈ fp, FpOk (X.blk s3 H3 scope ce fp) [] H' b := fun {σ' H' s'} I' hn b hb =>
    ⟨hn b hb, (I'.ok.exf b hb).1, I'.ok.exfs b hb, .inl hb, fun x c e => (I'.ok.exf b hb).2 x c e, fun p hp => absurd (show p ∈ ([] : List (Addr × Obj)) ++ [] from hp) (by simp)⟩
  have loop : codeAny (model X.prog X.w) X.A (.compLoop (.ListComp elt [⟨tg, iter, ifs, 0⟩] scope pos) 0 (.ref it) (.ref D) ce) (compEnds (model X.prog X.w) X.A X.xe use Qf (.ref D) ce) s4 := by
    refine compLoop_any (fun n s' => ∃ i H', Inv (X.blk s3 H3 scope ce fp) [] (wipe σ (own.map (·.2))) H' s' ∧ tn i s'.heap ∧ (∀ b ∈ fp, H' b = none) ∧ Wt i n H') ?_ m0 ⟨0, H3, I4, st4, nfp, w0⟩
    rintro n s5 ⟨i, H5, I5, st5, n5, w5⟩
    rcases turn i n H5 w5 with ⟨stop, qq⟩ | ⟨go, Nx, hNx, step⟩
    · have td := T.done (X.blk s3 H3 scope ce fp) rfl rfl rfl hc i [] s5 _ H5 (fun _ _ => False) I5 (stat I5 n5) st5 stop
      refine thnF td fun r s6 ⟨hr, I6⟩ => ?_
      subst hr
      -- back in the def's context
      have I7 : Inv X pins σ H5 s6 := I3.call' (ch := fp) I6.os I6.base I6.hok I6.bare hch
      have nC : H5 s3.heap.objs.size = none := by
        have z : H5 ce.locals = none := I6.free
        rw [cL] at z
        exact z
      obtain ⟨m, hn, _⟩ := I6.loc
      have hn : s6.heap.Ns ce.locals m := hn
      exact hRR D ce s6 m H5 I7 qq hn (by rw [cL]; exact I3.fpOk (Nat.le_refl _) nC)
    · have ti := T.item (X.blk s3 H3 scope ce fp) rfl rfl rfl hc i [] s5 _ H5 (fun _ _ => False) I5 (stat I5 n5) st5 go
      refine thnF ti fun r s6 ⟨u, hr, h6⟩ => ?_
      subst hr
      refine thnF h6 fun _ s7 ⟨x, H7, I7, r7, y7, st7, n7⟩ => ?_
      have I7' := I7.pinned (stat I7 n7) (T.obj _ _ st7)
      refine thnF (pg.run _ s7 _ H7 x u _ I7' r7 (step x H7 y7)) fun _ s8 ⟨σ8, H8, I8, hw8, q8⟩ => ?_
      refine thnF (pt.run _ s8 σ8 H8 _ I8 q8) fun b s9 ⟨H9, I9, q9⟩ => ?_
      -- the turn's end
      have fin : ∀ {s' : Shared} {H' : Hp}, Inv (X.blk s3 H3 scope ce fp) ([] ++ pinsAt fp s7.heap) σ8 H' s' → Nx H' → ∃ m, m < n ∧ ∃ i H', Inv (X.blk s3 H3 scope ce fp) [] (wipe σ (own.map (·.2))) H' s' ∧ tn i s'.heap ∧ (∀ b ∈ fp, H' b = none) ∧ Wt i m H' := fun {s' H'} I' nx => by
        obtain ⟨m', hm, w'⟩ := hNx H' nx
        have pin' : ∀ b ∈ fp, ∀ o, s7.heap.get? b = some o → s'.heap.get? b = some o ∧ H' b = none := fun b hb o e =>
          let z := I'.pin (b, o) (List.mem_append_right _ (List.mem_append_right _ (mem_pinsAt hb e)))
          ⟨z.1, z.2.1⟩
        have hl : (wipe σ (own.map (·.2))).length = σ8.length := by rw [← hw8, wipe_length]
        refine ⟨m', hm, i + 1, H', (I'.unpinned (pins := [])).weak hl (fun j v e => ?_), T.keep _ _ _ st7 fun b hb o e => (pin' b hb o e).1, fun b hb => ?_, w'⟩
        · rw [← hw8] at e
          exact (wipe_some e).1
        · obtain ⟨o, e, _⟩ := T.obj _ _ st7 b hb
          exact (pin' b hb o e).2
      cases b with
      | false =>
        simp only [Bool.false_eq_true, if_false] at q9 ⊢
        exact fin I9 q9
      | true =>
        simp only [if_true] at q9 ⊢
        refine thn (pe.run _ s9 σ8 H9 _ (inv_to I9) q9) fun z s10 ⟨yv, H10, I10, r10, acc, hD10, hz10, nx⟩ => ?_
        exact app_ok (X := X.blk s3 H3 scope ce fp) (inv_of I10) hD10 hz10 r10 fun s11 I11 => fin I11 nx
  exact codeAny_compStart_list loop (T.self X.A 0 _ _ _ st4 loop)
theorem pe_lcX {elt tg iter : Expr} {ifs : List Expr} {scope : Scope} {own : List (Str × Nat)} {pos : Pos} {wi : TI} {g : TG} {tt : TT} {te : L2.St → TE} (tk : Takes X W) (hst : X.stack = X.env :: X.outer) (hfr : X.env.frame = some X.env.locals) (hc : X.calm = true) (hN : X.N.Nodup) (hi : PI X tg iter wi) (ok : BlkOk X.N X.env.scope scope own)
    (hg : ∀ (s : Shared) (H : Hp) (C : Addr) (cl : List (Str × Addr)) (fp : List Addr), PG (X.blk s H scope (compEnvC scope cl C X.env) fp) tg g) (ht : ∀ (s : Shared) (H : Hp) (C : Addr) (cl : List (Str × Addr)) (fp : List Addr), PTs (X.blk s H scope (compEnvC scope cl C X.env) fp) ifs tt)
    (he : ∀ (σ : L2.St) (s : Shared) (H : Hp) (C : Addr) (cl : List (Str × Addr)) (fp : List Addr) (E' : Value → Shared → Prop), Passes X W { X.blk s H scope (compEnvC scope cl C X.env) fp with xe := E' } σ → PE { X.blk s H scope (compEnvC scope cl C X.env) fp with xe := E' } elt (te σ)) (hs : ∀ x, foldedSetIterable iter X.env x = pure x := by intro _; rfl) :
    PE X (.ListComp elt [⟨tg, iter, ifs, 0⟩] scope pos) (tLcX wi g tt te (own.map (·.2))) := by
  refine ⟨fun pins s σ H Q I h => ?_⟩
  rw [eval_ListComp]
  refine lc_coreX tk hst hfr hc hN I hi ok hg ht he hs h fun D C s' m H' I' q hn f => (show ∃ m, s'.heap.Ns C.locals m ∧ ∀ h', Heap.SameBut C.locals s'.heap h' → _ from ⟨m, hn, fun h'' sb => ?_⟩)
  obtain ⟨f0, f1, f2, f3, f4, f5⟩ := f
  exact ⟨.ref D, H', I'.turned (t' := s'.toks) (fun b o hb e => (sb.2 b hb).trans e) f0 f1 f3 f4 f5, rfl, q⟩
/-- name = [..] on one line, the element one that may raise -/
theorem ps_setLcX {i : Nat} {y : Str} {py : Pos} {elt tg iter : Expr} {ifs : List Expr} {scope : Scope} {own : List (Str × Nat)} {pos spos : Pos} {wi : TI} {g : TG} {tt : TT} {te : L2.St → TE} (tk : Takes X W) (hst : X.stack = X.env :: X.outer) (hfr : X.env.frame = some X.env.locals) (hc : X.calm = true) (hN : X.N.Nodup) (hy : X.N[i]? = some y) (hyl : X.env.scope.names.lookup y = some .local)
    (hsw : swapsWith (.ListComp elt [⟨tg, iter, ifs, 0⟩] scope pos) (some (.Name y py)) spos.line X.env = pure true) (hi : PI X tg iter wi) (ok : BlkOk X.N X.env.scope scope own)
    (hg : ∀ (s : Shared) (H : Hp) (C : Addr) (cl : List (Str × Addr)) (fp : List Addr), PG (X.blk s H scope (compEnvC scope cl C X.env) fp) tg g) (ht : ∀ (s : Shared) (H : Hp) (C : Addr) (cl : List (Str × Addr)) (fp : List Addr), PTs (X.blk s H scope (compEnvC scope cl C X.env) fp) ifs tt)
    (he : ∀ (σ : L2.St) (s : Shared) (H : Hp) (C : Addr) (cl : List (Str × Addr)) (fp : List Addr) (E' : Value → Shared → Prop), Passes X W { X.blk s H scope (compEnvC scope cl C X.env) fp with xe := E' } σ → PE { X.blk s H scope (compEnvC scope cl C X.env) fp with xe := E' } elt (te σ)) (hs : ∀ x, foldedSetIterable iter X.env x = pure x := by intro _; rfl) :
    PS X (.Assign [.Name y py] (.ListComp elt [⟨tg, iter, ifs, 0⟩] scope pos) spos) (tAsg (tLcX wi g tt te (own.map (·.2))) (gName i)) := by
  refine ⟨fun pins s σ H D I h => ?_⟩
  rw [exec_Assign_Name_used _ _ _ _ hsw]
  refine wpAny_bind (wpAny_standAt (wpAny_bind ?_))
  show wpAny _ X.A (do let _ ← comprehension (.ListComp elt [⟨tg, iter, ifs, 0⟩] scope pos) scope X.env (firstIterPos [⟨tg, iter, ifs, 0⟩] pos) (newList []) false (eval iter X.env) (some (assign (.Name y py) X.env))) _ _ s
  have h : tLcX wi g tt te (own.map (·.2)) σ H (fun x H1 => gName i x σ H1 D.nx) := h
  refine wpAny_bind (thn (lc_coreX (Qf := fun _ s' => SP X pins D .next s') tk hst hfr hc hN I hi ok hg ht he hs h fun L C s' m H' I' q hn f => ?_) fun _ s' hq => wpAny_pure (wpAny_pure hq))
  show wpAny _ _ (assign (.Name y py) X.env (.ref L)) _ _ _
  refine wpAny_assign_Name (store_ok2 (v := V.ref L) I' hN hy (.inl hyl) rfl (fun s2 I2 ⟨a, sb, ha⟩ => ?_) (.inr hyl))
  obtain ⟨f0, f1, f2, f3, f4, f5⟩ := f
  have haC : C.locals ≠ a := by
    rcases ha with z | z
    · rw [z]; exact f1
    · exact fun e => f4 y a z e.symm
  refine ⟨m, hn.sameBut sb haC, fun h3 sb3 => ?_⟩
  exact ⟨_, H', I2.turned (t' := s2.toks) (fun b o hb e => (sb3.2 b hb).trans e) f0 f1 f3 f4 f5, q⟩
end
end Py

namespace Py
open PySem PySem.Spec PyProof.Rows L2

abbrev NKey := Int × Int × Int
def nk (k : NKey) : NestedKey := .tup [.num k.1, .tup [.num k.2.1, .num k.2.2]]
def hk3 (k : NKey) : Int := reduceHash (Builtin.Tuple.tupleHashOf [hashInt k.1, reduceHash (Builtin.Tuple.tupleHashOf [hashInt k.2.1, hashInt k.2.2])])
theorem nk_hash (w : World) (k : NKey) : (nk k).hash w = hk3 k := by
  simp [nk, hk3, NestedKey.hash, NestedKey.hashes]
theorem nk_inj {a b : NKey} (h : nk a = nk b) : a = b := by
  obtain ⟨a1, a2, a3⟩ := a
  obtain ⟨b1, b2, b3⟩ := b
  simp only [nk, NestedKey.tup.injEq, List.cons.injEq, NestedKey.num.injEq, and_true] at h
  obtain ⟨h1, h2, h3⟩ := h
  rw [h1, h2, h3]
abbrev KEnt := NKey × Addr × Value
def entK (x : KEnt) : DictEntry := ⟨hk3 x.1, .ref x.2.1, x.2.2⟩
def nx (x : KEnt) : NestedKey × Addr × Value := (nk x.1, x.2.1, x.2.2)
theorem entK_nx {P : Program} {w : World} (x : KEnt) : entryOfKey (nestedKind P w) (nx x) = entK x := by
  show (⟨(nk x.1).hash w, .ref x.2.1, x.2.2⟩ : DictEntry) = ⟨hk3 x.1, .ref x.2.1, x.2.2⟩
  rw [nk_hash]
/-- the dict object o at a has these entries -/
structure DkE (a : Addr) (o : Obj) (xs : List KEnt) : Prop where
  ns : (a == sysModules) = false
  ex : o.ExactDict
  dt : ∃ es ep, o.data = .dict es ep ∧ es.toList = xs.map entK
  nd : (xs.map (·.1)).Nodup
  sz : xs.length ≤ 100001
def dko (a : Addr) (o : Obj) : HO := .ext fun h => h.get? a = some o
def KeyAt (H : Hp) (k : NKey) (a : Addr) : Prop := ∃ b, H a = some (.tup [.int k.1, .ref b]) ∧ H b = some (.tup [.int k.2.1, .int k.2.2])
def oV : Option Int → V
  | none => .non
  | some i => .int i
def DkR (H : Hp) : List (NKey × Option Int) → List KEnt → Prop := Paired fun z x => z.1 = x.1 ∧ KeyAt H x.1 x.2.1 ∧ RelV (oV z.2) x.2.2
theorem KeyAt.mono {H H' : Hp} {k : NKey} {a : Addr} (e : ∀ b xs, H b = some (.tup xs) → H' b = some (.tup xs)) (h : KeyAt H k a) : KeyAt H' k a :=
  let ⟨b, h1, h2⟩ := h
  ⟨b, e _ _ h1, e _ _ h2⟩
theorem DkR.mono {H H' : Hp} {zs : List (NKey × Option Int)} {xs : List KEnt} (e : ∀ b xs, H b = some (.tup xs) → H' b = some (.tup xs)) (h : DkR H zs xs) : DkR H' zs xs :=
  Paired.mapP h fun _ _ z => ⟨z.1, z.2.1.mono e, z.2.2⟩
/-- x[k] -/
def dkGet (zs : List (NKey × Option Int)) (k : NKey) : Option (Option Int) := (zs.find? fun z => decide (z.1 = k)).map (·.2)
/-- x[k] = y -/
def dkPut (zs : List (NKey × Option Int)) (k : NKey) (y : Option Int) : List (NKey × Option Int) :=
  if (dkGet zs k).isSome then zs.map fun z => if z.1 = k then (z.1, y) else z else zs ++ [(k, y)]
section
variable {P : Program} {w : World} {H : Hp} {h : Heap} {a b : Addr} {o : Obj} {xs : List KEnt} {zs : List (NKey × Option Int)} {k : NKey} {y : Option Int}
theorem dko_at (ok : HOk P w H h) (e : H a = some (dko a o)) : h.get? a = some o := by
  have x : ObjOk P w H h a (.ext fun h => h.get? a = some o) := ok a _ e
  exact x.1
theorem dko_ok (e : h.get? a = some o) : ObjOk P w H h a (dko a o) := ⟨e, ⟨o, e⟩, fun _ _ z k => k o z⟩
theorem ints_val : ∀ {i : Int} {u : Value}, RelV (.int i) u → NestedIs h (.num i) u := fun ⟨t, e⟩ => by subst e; exact .int _ t
theorem keyAt_is (ok : HOk P w H h) (e : KeyAt H k a) : (nestedKind P w).is h (nk k) a := by
  obtain ⟨b, e1, e2⟩ := e
  obtain ⟨_, its, r, ob, h1, h2, n, h3⟩ := (show ObjOk P w H h a (.tup [.int k.1, .ref b]) from ok a _ e1)
  obtain ⟨_, its2, r2, ob2, g1, g2, n2, g3⟩ := (show ObjOk P w H h b (.tup [.int k.2.1, .int k.2.2]) from ok b _ e2)
  refine ⟨?_, by simp [nk, NestedKey.depth, NestedKey.depthAll]⟩
  refine NestedIs.tup h1 h2 h3 ?_
  cases r with
  | cons q1 r =>
    cases r with
    | cons q2 r =>
      cases r
      cases r2 with
      | cons p1 r2 =>
        cases r2 with
        | cons p2 r2 =>
          cases r2
          have q2 := q2
          cases q2
          exact .cons (ints_val q1) (.cons (.tup g1 g2 g3 (.cons (ints_val p1) (.cons (ints_val p2) .nil))) .nil)
theorem DkR.all (ok : HOk P w H h) (r0 : DkR H zs xs) : ∀ x ∈ xs.map nx, (nestedKind P w).is h x.1 x.2.1 := by
  have r : Paired (fun (z : NKey × Option Int) (x : KEnt) => z.1 = x.1 ∧ KeyAt H x.1 x.2.1 ∧ RelV (oV z.2) x.2.2) zs xs := r0
  clear r0
  induction r with
  | nil => intro x hx; exact nomatch hx
  | @cons p q ps qs hq t ih =>
    intro x hx
    rcases List.mem_cons.mp hx with e | hx
    · subst e
      exact keyAt_is ok hq.2.1
    · exact ih x hx
theorem nodup_nx : ∀ {xs : List KEnt}, (xs.map (·.1)).Nodup → ((xs.map nx).map (·.1)).Nodup
  | [], _ => by simp
  | x :: xs, h => by
    simp only [List.map_cons, List.nodup_cons] at h ⊢
    refine ⟨fun z => h.1 ?_, nodup_nx h.2⟩
    simp only [List.map_map, List.mem_map, Function.comp_apply] at z ⊢
    obtain ⟨y, hy, e⟩ := z
    exact ⟨y, hy, nk_inj e⟩
theorem dk_dictOf (ok : HOk P w H h) (e : H a = some (dko a o)) (E : DkE a o xs) (r : DkR H zs xs) : h.DictOfH (nestedKind P w) a (xs.map nx) := by
  obtain ⟨es, ep, h1, h2⟩ := E.dt
  refine ⟨o, es, ep, dko_at ok e, E.ex, h1, ?_, r.all ok, nodup_nx E.nd⟩
  rw [h2, List.map_map]
  exact List.map_congr_left fun x _ => (entK_nx x).symm
theorem atKey_nx (k : NKey) : ∀ xs : List KEnt, atKey (xs.map nx) (nk k) = atKey xs k
  | [] => rfl
  | x :: xs => by
    by_cases c : x.1 = k
    · have c2 : (nx x).1 = nk k := by show nk x.1 = nk k; rw [c]
      simp [atKey, List.find?_cons, c, c2]
      rfl
    · have c2 : ¬ (nx x).1 = nk k := fun z => c (nk_inj z)
      have ih := atKey_nx k xs
      simp only [atKey, List.map_cons, List.find?_cons, c, c2, decide_false] at ih ⊢
      exact ih
theorem storedH_nx (k : NKey) (b : Addr) (v : Value) (xs : List KEnt) : storedH (xs.map nx) (nk k) b v = (storedH xs k b v).map nx := by
  unfold storedH
  rw [atKey_nx]
  split
  · rw [List.map_map, List.map_map]
    refine List.map_congr_left fun x _ => ?_
    show putAt (nk k) v (nx x) = nx (putAt k v x)
    unfold putAt
    by_cases c : x.1 = k
    · rw [if_pos c, if_pos (show (nx x).1 = nk k by show nk x.1 = nk k; rw [c])]
      rfl
    · rw [if_neg c, if_neg (show ¬ (nx x).1 = nk k from fun z => c (nk_inj z))]
  · rw [List.map_append]
    rfl
theorem DkR.get (r0 : DkR H zs xs) (k : NKey) : RelO ((dkGet zs k).map oV) ((atKey xs k).map (·.2)) := by
  have r : Paired (fun (z : NKey × Option Int) (x : KEnt) => z.1 = x.1 ∧ KeyAt H x.1 x.2.1 ∧ RelV (oV z.2) x.2.2) zs xs := r0
  clear r0
  induction r with
  | nil => exact True.intro
  | @cons p q ps qs hq t ih =>
    obtain ⟨h1, _, h2⟩ := hq
    by_cases e : p.1 = k
    · have e' : q.1 = k := h1.symm.trans e
      have b1 : atKey (q :: qs) k = some q.2 := by simp [atKey, List.find?_cons, e']
      have b2 : dkGet (p :: ps) k = some p.2 := by simp [dkGet, List.find?_cons, e]
      rw [b1, b2]
      exact h2
    · have e' : ¬ q.1 = k := fun z => e (h1.trans z)
      have b1 : atKey (q :: qs) k = atKey qs k := by simp [atKey, List.find?_cons, e']
      have b2 : dkGet (p :: ps) k = dkGet ps k := by simp [dkGet, List.find?_cons, e]
      rw [b1, b2]
      exact ih
theorem DkR.put (r0 : DkR H zs xs) (k : NKey) {b : Addr} {u : Value} (hb : KeyAt H k b) (ru : RelV (oV y) u) : DkR H (dkPut zs k y) (storedH xs k b u) := by
  have e : (dkGet zs k).isSome = (atKey xs k).isSome := by
    have q := r0.get k
    cases h1 : dkGet zs k <;> cases h2 : atKey xs k <;> rw [h1, h2] at q <;> first | rfl | exact q.elim
  unfold dkPut storedH
  rw [e]
  by_cases q : (atKey xs k).isSome = true
  · rw [if_pos q, if_pos q]
    have r : Paired (fun (z : NKey × Option Int) (x : KEnt) => z.1 = x.1 ∧ KeyAt H x.1 x.2.1 ∧ RelV (oV z.2) x.2.2) zs xs := r0
    clear q e r0
    induction r with
    | nil => exact .nil
    | @cons p q ps qs hq t ih =>
      rw [List.map_cons, List.map_cons]
      refine .cons ?_ ih
      obtain ⟨h1, h2, h3⟩ := hq
      unfold putAt
      by_cases e : p.1 = k
      · rw [if_pos e, if_pos (h1.symm.trans e)]
        exact ⟨h1, h2, ru⟩
      · rw [if_neg e, if_neg (fun z => e (h1.trans z))]
        exact ⟨h1, h2, h3⟩
  · rw [if_neg q, if_neg q]
    exact Paired.snoc r0 ⟨rfl, hb, ru⟩
theorem DkR.len (r : DkR H zs xs) : zs.length = xs.length := Paired.length r
theorem storedH_len (xs : List KEnt) (k : NKey) (b : Addr) (u : Value) : (storedH xs k b u).length ≤ xs.length + 1 := by
  unfold storedH
  split
  · rw [List.length_map]
    omega
  · rw [List.length_append]
    exact Nat.le_refl _
end

section
variable {X : Cx} {pins : List (Addr × Obj)} {σ : L2.St} {H : Hp} {s : Shared} {a b : Addr} {o : Obj} {xs : List KEnt} {zs : List (NKey × Option Int)} {k : NKey} {y : Option Int} {A : Around} {E : Value → Shared → Prop}
theorem dk_getItem {Q : Value → Shared → Prop} (hu : A.units + 9 < cLine) (I : Inv X pins σ H s) (e : H a = some (dko a o)) (D : DkE a o xs) (r : DkR H zs xs) (kb : KeyAt H k b) (g : dkGet zs k = some y) (h : ∀ w' s', Inv X pins σ H s' → RelV (oV y) w' → Q w' s') :
    wpAny (model X.prog X.w) A (getItem (.ref a) (.ref b)) Q E s := by
  have q := r.get k
  rw [g] at q
  cases c : atKey xs k with
  | none => rw [c] at q; exact q.elim
  | some p =>
    rw [c] at q
    refine wpAny_getItem_heap (knd := nestedKind X.prog X.w) (k := nk k) (xs := xs.map nx) (p := p) ?_ (keyAt_is I.hok kb) (dk_dictOf I.hok e D r) (by rw [atKey_nx, c]) (h p.2 _ (I.tok _) q)
    show A.in1.units + 8 < cLine
    rw [Around.in1_units]
    omega
theorem dk_typeIs (I : Inv X pins σ H s) (e : H a = some (dko a o)) (D : DkE a o xs) : s.TypeIs (.ref a) "dict" := ⟨o, dko_at I.hok e, D.ex.1⟩
theorem dk_setItem {Q : Unit → Shared → Prop} {r' : Value} (hu : A.units + 9 < cLine) (I : Inv X pins σ H s) (e : H a = some (dko a o)) (D : DkE a o xs) (r : DkR H zs xs) (kb : KeyAt H k b) (hz : xs.length ≤ 100000) (ry : RelV (oV y) r')
    (h : ∀ o' s', DkE a o' (storedH xs k b r') → Inv X pins σ (upd H a (dko a o')) s' → Q () s') : wpAny (model X.prog X.w) A (setItem (.ref a) (.ref b) r') Q E s := by
  refine wpAny_setItem_heap (knd := nestedKind X.prog X.w) (k := nk k) (xs := xs.map nx) (hsz := by rw [List.length_map]; have : sizeLine = 2 ^ 24 := rfl; omega) ?_ (keyAt_is I.hok kb) (dk_dictOf I.hok e D r) fun h' dd' hs => ?_
  · show A.in1.units + 8 < cLine
    rw [Around.in1_units]
    omega
  · rw [storedH_nx] at dd'
    obtain ⟨o', es, ep, hq, h2, h3, h4, _, h5⟩ := dd'
    refine h o' _ ⟨D.ns, h2, ⟨es, ep, h3, ?_⟩, ?_, ?_⟩ (d_write I (by rw [e]; exact True.intro) hs ⟨o', hq⟩ (dko_ok hq))
    · rw [h4, List.map_map]
      exact List.map_congr_left fun x _ => entK_nx x
    · rw [List.map_map] at h5
      have : ((storedH xs k b r').map fun x => nk x.1).Nodup := h5
      have q : ((storedH xs k b r').map fun x => nk x.1) = ((storedH xs k b r').map (·.1)).map nk := by
        rw [List.map_map]
        rfl
      rw [q] at this
      exact List.Pairwise.of_map nk (fun a b h e => h (congrArg nk e)) this
    · have := storedH_len xs k b r'
      omega
end

/-- {}, to be a dict with such keys -/
def tDNewN : TE := fun _ H Q => ∀ p o, H p = none → DkE p o [] → Q (.ref p) (upd H p (dko p o))
/-- d[y] holds v -/
def NGet (H : Hp) (a : Addr) (y : V) (v : V) : Prop := ∃ o xs zs k b yy, H a = some (dko a o) ∧ DkE a o xs ∧ DkR H zs xs ∧ y = .ref b ∧ KeyAt H k b ∧ dkGet zs k = some yy ∧ v = oV yy
def tDGetN (td ty : TE) : TE := fun σ H Q => td σ H fun x H1 => ty σ H1 fun y H2 => ∃ a v, x = .ref a ∧ (DGet H2 a y (some v) ∨ NGet H2 a y v) ∧ Q v H2
def sDPutN (td ty tv : TE) : TS := fun D σ H => tv σ H fun v H1 => td σ H1 fun x H2 => ty σ H2 fun y H3 => ∃ a o xs zs k b yy, x = .ref a ∧ H3 a = some (dko a o) ∧ DkE a o xs ∧ DkR H3 zs xs ∧ y = .ref b ∧ KeyAt H3 k b ∧ v = oV yy ∧ xs.length ≤ 100000 ∧
  ∀ o' u, DkE a o' (storedH xs k b u) → RelV (oV yy) u → D.nx σ (upd H3 a (dko a o'))
/-- the keys, in their order -/
def Itn (d : Addr) (o : Obj) (xs : List KEnt) : It := ⟨fun i H => H d = some (dko d o) ∧ i < xs.length, fun i H x H' => H' = H ∧ ∃ e, xs[i]? = some e ∧ x = .ref e.2.1, fun i H => H d = some (dko d o) ∧ xs.length ≤ i⟩
def iKeysN (td : TE) : TI := fun σ H R => td σ H fun x H1 => ∃ d o xs, x = .ref d ∧ H1 d = some (dko d o) ∧ DkE d o xs ∧ R (Itn d o xs) H1
section
variable {X : Cx} {o i e value tg : Expr} {pos pos' : Pos} {td ty tv : TE}
theorem pe_dnewN : PE X (.Dict [] [] pos) tDNewN := ⟨fun pins s σ H Q I h =>
  wpAny_Dict_empty ⟨.ref s.heap.objs.size, _, I.laid (a := s.heap.objs.size) (o := dko s.heap.objs.size { cls := .type "dict", data := .dict #[] }) (t' := s.toks) (fun _ _ q => Heap.get?_push_of_some _ q) (Nat.le_refl _) (dko_ok (Heap.get?_push_size _ rfl)), rfl,
    h _ _ (I.hok.fresh (Nat.le_refl _)) ⟨beq_eq_false_iff_ne.mpr (Ne.symm (Nat.ne_of_lt I.big)), ⟨rfl, rfl, rfl⟩, ⟨#[], 0, rfl, rfl⟩, List.nodup_nil, Nat.zero_le _⟩⟩⟩
theorem pe_dgetN (hu : X.A.units + 9 < cLine) (ho : PE X o td) (hi : PE X i ty) (hs : NoSl i) : PE X (.Subscript o i pos) (tDGetN td ty) := by
  refine ⟨fun pins s σ H Q I h => ?_⟩
  refine subD_of PySem.F.slot_dict_getitem.lookup hs (thn (ho.run pins s σ H _ I h) fun u s1 ⟨x, H1, I1, rx, q1⟩ => thn (hi.run pins s1 σ H1 _ I1 q1) fun iv s2 ⟨y, H2, I2, ry, a, v, ex, g, q2⟩ => ?_)
  subst ex
  obtain rfl : u = Value.ref a := rx
  rcases g with g | ⟨ob, xs, zs, k, b, yy, g1, g2, g3, ey, g4, g5, ev⟩
  · exact ⟨dict_typeIs I2 g, d_getItem (by omega) I2 g ry fun w' s3 I3 rw' => ⟨v, H2, I3, rw', q2⟩⟩
  · subst ey ev
    obtain rfl : iv = Value.ref b := ry
    exact ⟨dk_typeIs I2 g1 g2, dk_getItem hu I2 g1 g2 g3 g4 g5 fun w' s3 I3 rw' => ⟨_, H2, I3, rw', q2⟩⟩
theorem ps_dputN (hu : X.A.units + 9 < cLine) (ho : PE X o td) (hi : PE X i ty) (hv : PE X value tv) (hs : swapsWith value (some (.Subscript o i pos')) pos.line X.env = pure false) :
    PS X (.Assign [.Subscript o i pos'] value pos) (sDPutN td ty tv) := by
  refine ⟨fun pins s σ H D I h => ?_⟩
  refine wpAny_Assign_Subscript (thn (hv.run pins s σ H _ I h) fun r s1 ⟨v, H1, I1, rv, q1⟩ => thn (ho.run pins s1 σ H1 _ I1 q1) fun u s2 ⟨x, H2, I2, rx, q2⟩ => thn (hi.run pins s2 σ H2 _ I2 q2) fun iv s3 ⟨y, H3, I3, ry, a, ob, xs, zs, k, b, yy, ex, g1, g2, g3, ey, g4, ev, g5, q3⟩ => ?_) hs
  subst ex ey ev
  obtain rfl : u = Value.ref a := rx
  obtain rfl : iv = Value.ref b := ry
  exact dk_setItem hu I3 g1 g2 g3 g4 g5 rv fun o' s' D' I' => ⟨σ, _, I', q3 o' r D' rv⟩
theorem turn_keysN {P : Program} {w : World} {K : PySem.W.Frag} {d : Addr} {ob : Obj} {es : Array DictEntry} {ep : Nat} {xs : List KEnt} (it : Addr) (hod : ob.data = .dict es ep) (D : DkE d ob xs) : Turn P w K tg (Itn d ob xs) [it] it (fun i h => h.IsKeyIter it d i xs.length ep) where
  mem := by simp
  obj := fun i h st b hb => by
    have e : b = it := by simpa using hb
    subst e
    obtain ⟨oi, e, c, dd⟩ := st
    exact ⟨oi, e, fun v z => by rw [dd] at z; cases z⟩
  keep := fun i h h' st k => by
    obtain ⟨oi, e, r⟩ := st
    exact ⟨oi, k it (by simp) oi e, r⟩
  item := by
    intro X hP hw hK hc i pins s σ H E I hf st hg
    subst hP hw hK
    obtain ⟨hd, hi⟩ := hg
    obtain ⟨f0, f1, f2, f3, f4, f5⟩ := hf it (by simp)
    obtain ⟨es', ep', hdt, hes⟩ := D.dt
    obtain ⟨rfl, rfl⟩ := dict_ep hod hdt
    have hsz : es'.size = xs.length := by rw [← Array.length_toList, hes, List.length_map]
    have hen : es'[i]? = some (entK xs[i]) := by rw [← Array.getElem?_toList, hes, List.getElem?_map, List.getElem?_eq_getElem hi]; rfl
    refine next_key_item st (dko_at I.hok hd) hdt hsz hen fun h' st' sb => ?_
    have I1 : Inv X pins σ H { s with heap := h' } := I.turned (t' := s.toks) (fun b ob hb e => (sb.2 b hb).trans e) f0 f1 f3 f4 f5
    obtain ⟨oi, e, c, dd⟩ := id st'
    exact ⟨_, rfl, go_of (s := { s with heap := h' }) e c dd (by decide) ⟨.ref xs[i].2.1, H, I1, rfl, ⟨rfl, xs[i], List.getElem?_eq_getElem hi, rfl⟩, st', fun b hb => (hf b hb).1⟩⟩
  done := by
    intro X hP hw hK hc i pins s σ H E I hf st hg
    subst hP hw hK
    obtain ⟨hd, hi⟩ := hg
    obtain ⟨f0, f1, f2, f3, f4, f5⟩ := hf it (by simp)
    obtain ⟨es', ep', hdt, hes⟩ := D.dt
    obtain ⟨rfl, rfl⟩ := dict_ep hod hdt
    have hsz : es'.size = xs.length := by rw [← Array.length_toList, hes, List.length_map]
    exact next_key_end (I.ok.hd hc) st (dko_at I.hok hd) hdt hsz hi fun h' eb => ⟨rfl, I.turned (t' := s.toks) (fun b ob hb e => eb b ob hb e) f0 f1 f3 f4 f5⟩
  self := fun A i s Q E st h => by
    refine wpAny_pyIter_slot st.typeIs F.slot_dict_keyiterator_iter (wpAny_call_entry F.slot_dict_keyiterator_iter st.typeIs F.entry_dict_keyiterator_iter ?_ (F.args_dict_keyiterator_iter_1 _))
    show wpAny _ _ (ret (.ref it)) _ _ s
    exact wpAny_pure ⟨_, rfl, "dict_keyiterator", _, st.typeIs, F.slot_dict_keyiterator_next.lookup, h⟩
theorem pi_keysN (he : PE X e td) : PI X tg e (iKeysN td) := by
  refine ⟨fun pins s σ H R I h => ?_⟩
  refine thn (he.run pins s σ H _ I h) fun u s1 ⟨x, H1, I1, rx, d, o, xs, ex, hd, D, q⟩ => ?_
  subst ex
  obtain rfl : u = Value.ref d := rx
  obtain ⟨es, ep, hdt, hes⟩ := D.dt
  have hsz : es.size = xs.length := by rw [← Array.length_toList, hes, List.length_map]
  refine iter_keys D.ns (dko_at I1.hok hd) D.ex hdt (pi_one (tk := s1.toks) I1 _ (turn_keysN _ hdt D) ⟨_, Heap.get?_push_size _ rfl, rfl, ?_⟩ q)
  rw [hsz] <;> rfl
end
/-- a dict's object is no exception -/
theorem dko_exk {a b : Addr} {o : Obj} {es : Array DictEntry} {ep : Nat} {c : Value} {d : Option Addr} (hd : o.data = .dict es ep) : exk c d b ≠ dko a o := fun z => by
  have h1 : (fun h : Heap => ∃ (oe : Obj) (vs : Array Value), h.get? b = some oe ∧ Zc c d oe ∧ oe.data = .fields vs) = fun h => h.get? a = some o := by
    have z : HO.ext (fun h : Heap => ∃ (oe : Obj) (vs : Array Value), h.get? b = some oe ∧ Zc c d oe ∧ oe.data = .fields vs) = HO.ext fun h => h.get? a = some o := z
    exact HO.ext.inj z
  have h2 : (⟨Array.replicate (a + 1) o, {}⟩ : Heap).get? a = some o := by
    unfold Heap.get?
    have e : (Array.replicate (a + 1) o)[a]? = some o := by simp
    simp only [e]
    obtain ⟨o1, o2, o3, o4⟩ := o
    have hd : o3 = .dict es ep := hd
    subst hd
    rfl
  obtain ⟨oe, vs, q1, _, q3⟩ := (congrFun h1 ⟨Array.replicate (a + 1) o, {}⟩).mpr h2
  have h3 : oe = o := by
    unfold Heap.get? at q1
    have e : ∀ u, (Array.replicate (a + 1) o)[b]? = some u → u = o := fun u hu => by
      rw [Array.getElem?_replicate] at hu
      split at hu
      · exact (Option.some.inj hu).symm
      · cases hu
    split at q1
    · cases q1
    · exact e _ q1
  rw [h3, hd] at q3
  cases q3
/-- isinstance(x, c) of such a dict -/
def rIsn (K : PySem.W.Frag) : List V → Hp → VK → Prop := fun xs H Q => ∃ (a : Addr) (o : Obj) (xs' : List KEnt) (c : V) (u : Value) (b : Bool), xs = [.ref a, c] ∧ ClsV c u ∧ H a = some (dko a o) ∧ DkE a o xs' ∧ PySem.W.kitOne K (.type "dict") u = some b ∧ Q (.bl b) H
section
variable {X : Cx}
theorem call_isn : CallR X (.builtin "isinstance") (rIsn X.K) := by
  intro pins s σ H xs us Q I r h
  obtain ⟨a, o, xs', c, u, b, rfl, k, e, D, e1, q⟩ := h
  obtain ⟨u1, u2, rfl, r1, r2⟩ := vals2 r
  have e2 := k.eq r2
  subst e2
  cases (show u1 = Value.ref a from r1)
  exact PySem.W.kia_one PySem.W.kitx_dict I.kIn ⟨o, dko_at I.hok e, D.ex.1⟩ e1 (fun z => nomatch z) fun tk => ⟨.bl b, H, I.tok tk, rfl, q⟩
theorem call_isx3 : CallR X (.builtin "isinstance") (fun xs H Q => rIsx X.K xs H Q ∨ rIsi X.K xs H Q ∨ rIsn X.K xs H Q) := by
  intro pins s σ H xs us Q I r h
  rcases h with h | h | h
  · exact call_isx pins s σ H xs us Q I r h
  · exact call_isi pins s σ H xs us Q I r h
  · exact call_isn pins s σ H xs us Q I r h
end
end Py

namespace Py
open PySem PySem.Spec PyProof.Rows L2
/-- zip of the tuple at a (n items) and the list at b (m items) -/
def ItzM (K : PySem.W.Frag) (a b : Addr) (n m : Nat) : It where
  go := fun i H => ∃ xs ys : List V, (SqT K H a xs ∧ SqL K H b ys) ∧ (xs.length = n ∧ ys.length = m) ∧ i < n ∧ i < m
  yld := fun i H v H' => ∃ (T : Addr) (x y : V), (v = .ref T ∧ H T = none ∧ H' = upd H T (.tup [x, y])) ∧ (∀ l, SqT K H a l → l[i]? = some x) ∧ ∀ l, SqL K H b l → l[i]? = some y
  stop := fun i H => ∃ xs ys : List V, (SqT K H a xs ∧ SqL K H b ys) ∧ (xs.length = n ∧ ys.length = m) ∧ (n ≤ i ∨ m ≤ i)
/-- the five cells of such a zip -/
structure ZmAt (z p q i j a b : Addr) (n m k : Nat) (h : Heap) : Prop where
  kn : k ≤ n
  km : k ≤ m
  zz : IsZip h z p q .none
  pp : IsTupOf2 h p (.ref i) (.ref j)
  qq : ∃ u v, IsTupOf2 h q u v
  ii : h.IsTupleIter i a k
  jj : h.IsListIter j b k
section
variable {z p q i j a b : Addr} {n m k : Nat} {h h' : Heap}
theorem zm_cases {c : Addr} (hc : c ∈ [z, p, q, i, j]) : c = z ∨ c = p ∨ c = q ∨ c = i ∨ c = j := by
  simp only [List.mem_cons, List.not_mem_nil, or_false] at hc
  exact hc
theorem ZmAt.some (t : ZmAt z p q i j a b n m k h) {c : Addr} (hc : c ∈ [z, p, q, i, j]) : ∃ o, h.get? c = .some o ∧ ∀ v, o.data ≠ .cell v := by
  obtain ⟨u, v, hq⟩ := t.qq
  obtain ⟨o1, f1, _, g1⟩ := t.ii
  obtain ⟨o2, f2, _, g2⟩ := t.jj
  rcases zm_cases hc with rfl | rfl | rfl | rfl | rfl
  · exact ⟨_, t.zz, fun _ x => by cases x⟩
  · exact ⟨_, t.pp, fun _ x => by cases x⟩
  · exact ⟨_, hq, fun _ x => by cases x⟩
  · exact ⟨o1, f1, fun _ x => by rw [g1] at x; cases x⟩
  · exact ⟨o2, f2, fun _ x => by rw [g2] at x; cases x⟩
theorem ZmAt.frame (t : ZmAt z p q i j a b n m k h) (hk : ∀ c ∈ [z, p, q, i, j], ∀ o, h.get? c = .some o → h'.get? c = .some o) : ZmAt z p q i j a b n m k h' := by
  obtain ⟨u, v, hq⟩ := t.qq
  exact ⟨t.kn, t.km, hk z (by simp) _ t.zz, hk p (by simp) _ t.pp, ⟨u, v, hk q (by simp) _ hq⟩, t.ii.at fun o e => hk i (by simp) o e, t.jj.at fun o e => hk j (by simp) o e⟩
end
/-- the cells lie apart -/
theorem zm_not {x y v : Addr} (h1 : x ≠ y) (h2 : x ≠ v) : x ∉ [y, v] := fun h => by
  rcases List.mem_cons.mp h with e | h
  · exact h1 e
  · exact h2 (List.mem_singleton.mp h)
theorem zm_ne {I c d : Nat} (h : c ≠ d) : I + c ≠ I + d := by omega
theorem zm_old {I a c : Nat} (h : a < I) : I + c ≠ a := by omega
theorem zm_sep {I a b : Nat} (ha : a < I) (hb : b < I) : ZipSep2 (I + 4) (I + 2) (I + 3) I (I + 1) [I, a] [I + 1, b] where
  TIz := zm_ne (by decide)
  TOz := zm_ne (by decide)
  TITO := zm_ne (by decide)
  TIi1 := zm_ne (d := 0) (by decide)
  mem1 := List.mem_cons_self
  zf1 := zm_not (zm_ne (d := 0) (by decide)) (zm_old ha)
  Tf1 := zm_not (zm_ne (d := 0) (by decide)) (zm_old ha)
  TIi2 := zm_ne (by decide)
  mem2 := List.mem_cons_self
  zf2 := zm_not (zm_ne (by decide)) (zm_old hb)
  Tf2 := zm_not (zm_ne (by decide)) (zm_old hb)
  sep1_2 := zm_not (zm_ne (c := 0) (by decide)) (zm_old (c := 0) hb)
  sep2_1 := zm_not (zm_ne (d := 0) (by decide)) (zm_old ha)
theorem zm_turn {P : Program} {w : World} {K : PySem.W.Frag} {es : List Expr} {c : Nat} {pos : Pos} {z p q i j a b : Addr} {n m : Nat} (S : ZipSep2 z p q i j [i, a] [j, b]) :
    Turn P w K (.Tuple es c pos) (ItzM K a b n m) [z, p, q, i, j] z (ZmAt z p q i j a b n m) where
  mem := List.mem_cons_self
  obj := fun k h t x hx => t.some hx
  keep := fun k h h' t hk => t.frame hk
  self := fun A k s Q E t h => wpAny_pyIter_zip t.zz h
  item := by
    intro X hP hw hK hc k pins s σ H E I hf t hg
    subst hP hw hK
    obtain ⟨xs, ys, ⟨sx, sy⟩, ⟨lx, ly⟩, kn, km⟩ := hg
    obtain ⟨us, ru, pu, _⟩ := I.tuple sx
    obtain ⟨ws, rw_, pw, _⟩ := I.list sy
    have lu : us.toArray.size = n := by rw [List.size_toArray, ← ru.length, lx]
    have lw : ws.toArray.size = m := by rw [List.size_toArray, ← rw_.length, ly]
    obtain ⟨u0, v0, hq⟩ := t.qq
    have na : a ≠ i := fun e => by
      obtain ⟨o, f, hcl, _⟩ := t.ii
      obtain ⟨o', f', hcl', _⟩ := (show s.heap.IsTuple a us.toArray from pu)
      rw [e, f] at f'
      cases f'
      rw [hcl] at hcl'
      injection hcl' with y
      exact absurd y (by decide)
    have nb : b ≠ j := fun e => by
      obtain ⟨o, f, hcl, _⟩ := t.jj
      obtain ⟨o', f', hcl', _⟩ := pw.isList
      rw [e, f] at f'
      cases f'
      rw [hcl] at hcl'
      injection hcl' with y
      exact absurd y (by decide)
    have hh : X.A.in1.handled = none := I.ok.hd hc
    have D1 := Draws.tuple (prog := X.prog) (w := X.w) hh i a na us.toArray
    have D2 := Draws.list (prog := X.prog) (w := X.w) hh j b nb ws.toArray
    have s1 : s.heap.IsTupleIter i a k ∧ s.heap.IsTuple a us.toArray := ⟨t.ii, pu⟩
    have s2 : s.heap.IsListIter j b k ∧ s.heap.IsList b ws.toArray := ⟨t.jj, pw.isList⟩
    refine wpAny_pyNext_zipD2_item S D1 D2 t.zz t.pp hq s1 s2 (by rw [lu]; exact kn) (by rw [lw]; exact km) fun u v g tk hu hv gz gq gi gj gn gs gk => ?_
    refine ⟨_, rfl, wpAny_letOwnedTupleGo_zip (s := { s with heap := g, toks := tk }) gz fun g2 gz2 sb => ?_⟩
    have fresh : ∀ {x o}, s.heap.get? x = some o → x ≠ s.heap.objs.size := fun e => Nat.ne_of_lt (Heap.lt_size e)
    have nz : s.heap.objs.size ≠ z := (fresh t.zz).symm
    have on : ∀ x o, x ≠ z → x ≠ q → x ≠ i → x ≠ j → s.heap.get? x = some o → g2.get? x = some o := fun x o x1 x2 x3 x4 e => (sb.2 _ x1).trans (gk x o x1 x2 x3 x4 e)
    have new2 : IsTupOf2 g2 s.heap.objs.size u v := (sb.2 _ nz).trans gn
    have hu' : us[k]? = some u := by simpa using hu
    have hv' : ws[k]? = some v := by simpa using hv
    obtain ⟨x, hx, rx⟩ : ∃ x, xs[k]? = some x ∧ RelV x u := by
      have hlt : k < xs.length := by omega
      obtain ⟨u', e1, e2⟩ := ru.get (List.getElem?_eq_getElem hlt)
      rw [hu'] at e1
      cases e1
      exact ⟨_, List.getElem?_eq_getElem hlt, e2⟩
    obtain ⟨y, hy, ry⟩ : ∃ y, ys[k]? = some y ∧ RelV y v := by
      have hlt : k < ys.length := by omega
      obtain ⟨v', e1, e2⟩ := rw_.get (List.getElem?_eq_getElem hlt)
      rw [hv'] at e1
      cases e1
      exact ⟨_, List.getElem?_eq_getElem hlt, e2⟩
    have made : ObjOk X.prog X.w (upd H s.heap.objs.size (.tup [x, y])) g2 s.heap.objs.size (.tup [x, y]) :=
      ⟨by show 2 ≤ sizeLine; decide, [u, v], .cons rx (.cons ry .nil), ⟨_, new2, rfl, _, rfl⟩⟩
    have notin : ∀ {x o}, x ∉ [z, p, q, i, j] → s.heap.get? x = some o → g2.get? x = some o := fun hx e => by
      simp only [List.mem_cons, List.not_mem_nil, or_false, not_or] at hx
      exact on _ _ hx.1 hx.2.2.1 hx.2.2.2.1 hx.2.2.2.2 e
    have I2 : Inv X pins σ (upd H s.heap.objs.size (.tup [x, y])) { s with heap := g2, toks := tk } := I.turnedNew (t' := tk) (ch := [z, p, q, i, j]) (fun c o hb e => notin hb e) hf (Nat.le_refl _) made
    refine ⟨.ref s.heap.objs.size, _, I2, rfl, ⟨_, x, y, ⟨rfl, I.hok.fresh (Nat.le_refl _), rfl⟩, fun l hl => ?_, fun l hl => ?_⟩, ⟨kn, km, gz2, ?_, ⟨u, v, ?_⟩, ?_, ?_⟩, fun c hc => ?_⟩
    · rw [I.tuple_inj hl sx]; exact hx
    · rw [I.list_inj hl sy]; exact hy
    · exact on _ _ S.TIz S.TITO S.TIi1 S.TIi2 t.pp
    · exact (sb.2 _ S.TOz).trans gq
    · exact gi.1.at fun o e => (sb.2 _ S.zi1.symm).trans e
    · exact gj.1.at fun o e => (sb.2 _ S.zi2.symm).trans e
    · obtain ⟨o, e, _⟩ := t.some hc
      show upd H s.heap.objs.size _ c = none
      rw [upd_ne (fresh e)]
      exact (hf c hc).1
  done := by
    intro X hP hw hK hc k pins s σ H E I hf t hg
    subst hP hw hK
    obtain ⟨xs, ys, ⟨sx, sy⟩, ⟨lx, ly⟩, hend⟩ := hg
    obtain ⟨us, ru, pu, _⟩ := I.tuple sx
    obtain ⟨ws, rw_, pw, _⟩ := I.list sy
    have lu : us.toArray.size = n := by rw [List.size_toArray, ← ru.length, lx]
    have lw : ws.toArray.size = m := by rw [List.size_toArray, ← rw_.length, ly]
    obtain ⟨u0, v0, hq⟩ := t.qq
    have na : a ≠ i := fun e => by
      obtain ⟨o, f, hcl, _⟩ := t.ii
      obtain ⟨o', f', hcl', _⟩ := (show s.heap.IsTuple a us.toArray from pu)
      rw [e, f] at f'
      cases f'
      rw [hcl] at hcl'
      injection hcl' with y
      exact absurd y (by decide)
    have nb : b ≠ j := fun e => by
      obtain ⟨o, f, hcl, _⟩ := t.jj
      obtain ⟨o', f', hcl', _⟩ := pw.isList
      rw [e, f] at f'
      cases f'
      rw [hcl] at hcl'
      injection hcl' with y
      exact absurd y (by decide)
    have hh : X.A.in1.handled = none := I.ok.hd hc
    have D1 := Draws.tuple (prog := X.prog) (w := X.w) hh i a na us.toArray
    have D2 := Draws.list (prog := X.prog) (w := X.w) hh j b nb ws.toArray
    have s1 : s.heap.IsTupleIter i a k ∧ s.heap.IsTuple a us.toArray := ⟨t.ii, pu⟩
    have s2 : s.heap.IsListIter j b k ∧ s.heap.IsList b ws.toArray := ⟨t.jj, pw.isList⟩
    have kn := t.kn
    have km := t.km
    refine wpAny_pyNext_zipD2_end S D1 D2 t.zz t.pp hq s1 s2 (by rw [lu]; exact kn) (by rw [lw]; exact km) (by rw [lu, lw]; omega) fun g tk gk => ⟨rfl, I.turnedL (t' := tk) (ch := [z, p, q, i, j]) (fun c o hb e => ?_) hf⟩
    simp only [List.mem_cons, List.not_mem_nil, or_false, not_or] at hb
    exact gk c o hb.1 hb.2.2.1 hb.2.2.2.1 hb.2.2.2.2 e
/-- zip of the text x and the list at b (m items) -/
def ItzS (K : PySem.W.Frag) (x : Str) (b : Addr) (m : Nat) : It where
  go := fun i H => ∃ ys : List V, SqL K H b ys ∧ ys.length = m ∧ i < x.cps.size ∧ i < m
  yld := fun i H v H' => ∃ (T : Addr) (c : Nat) (y : V), (v = .ref T ∧ H T = none ∧ H' = upd H T (.tup [.str ⟨#[c]⟩, y])) ∧ x.cps[i]? = some c ∧ ∀ l, SqL K H b l → l[i]? = some y
  stop := fun i H => ∃ ys : List V, SqL K H b ys ∧ ys.length = m ∧ (x.cps.size ≤ i ∨ m ≤ i)
structure ZsAt (z p q i j : Addr) (x : Str) (tk : Tok) (b : Addr) (m k : Nat) (h : Heap) : Prop where
  kn : k ≤ x.cps.size
  km : k ≤ m
  zz : IsZip h z p q .none
  pp : IsTupOf2 h p (.ref i) (.ref j)
  qq : ∃ u v, IsTupOf2 h q u v
  ii : h.IsStrIter i (strIterType x) x tk k
  jj : h.IsListIter j b k
theorem strIter_at {h h' : Heap} {a : Addr} {ty : String} {x : Str} {t : Tok} {i : Nat} (y : h.IsStrIter a ty x t i) (k : ∀ o, h.get? a = some o → h'.get? a = some o) : h'.IsStrIter a ty x t i :=
  let ⟨o, ho, r⟩ := y; ⟨o, k o ho, r⟩
section
variable {z p q i j b : Addr} {x : Str} {tk0 : Tok} {m k : Nat} {h h' : Heap}
theorem ZsAt.some (t : ZsAt z p q i j x tk0 b m k h) {c : Addr} (hc : c ∈ [z, p, q, i, j]) : ∃ o, h.get? c = .some o ∧ ∀ v, o.data ≠ .cell v := by
  obtain ⟨u, v, hq⟩ := t.qq
  obtain ⟨o1, f1, _, g1⟩ := t.ii
  obtain ⟨o2, f2, _, g2⟩ := t.jj
  rcases zm_cases hc with rfl | rfl | rfl | rfl | rfl
  · exact ⟨_, t.zz, fun _ x => by cases x⟩
  · exact ⟨_, t.pp, fun _ x => by cases x⟩
  · exact ⟨_, hq, fun _ x => by cases x⟩
  · exact ⟨o1, f1, fun _ x => by rw [g1] at x; cases x⟩
  · exact ⟨o2, f2, fun _ x => by rw [g2] at x; cases x⟩
theorem ZsAt.frame (t : ZsAt z p q i j x tk0 b m k h) (hk : ∀ c ∈ [z, p, q, i, j], ∀ o, h.get? c = .some o → h'.get? c = .some o) : ZsAt z p q i j x tk0 b m k h' := by
  obtain ⟨u, v, hq⟩ := t.qq
  exact ⟨t.kn, t.km, hk z (by simp) _ t.zz, hk p (by simp) _ t.pp, ⟨u, v, hk q (by simp) _ hq⟩, strIter_at t.ii fun o e => hk i (by simp) o e, t.jj.at fun o e => hk j (by simp) o e⟩
end
theorem zs_sep {I b : Nat} (hb : b < I) : ZipSep2 (I + 4) (I + 2) (I + 3) I (I + 1) [I] [I + 1, b] where
  TIz := zm_ne (by decide)
  TOz := zm_ne (by decide)
  TITO := zm_ne (by decide)
  TIi1 := zm_ne (d := 0) (by decide)
  mem1 := List.mem_cons_self
  zf1 := fun h => zm_ne (I := I) (c := 4) (d := 0) (by decide) (List.mem_singleton.mp h)
  Tf1 := fun h => zm_ne (I := I) (c := 3) (d := 0) (by decide) (List.mem_singleton.mp h)
  TIi2 := zm_ne (by decide)
  mem2 := List.mem_cons_self
  zf2 := zm_not (zm_ne (by decide)) (zm_old hb)
  Tf2 := zm_not (zm_ne (by decide)) (zm_old hb)
  sep1_2 := zm_not (zm_ne (c := 0) (by decide)) (zm_old (c := 0) hb)
  sep2_1 := fun h => zm_ne (I := I) (c := 1) (d := 0) (by decide) (List.mem_singleton.mp h)
theorem zs_turn {P : Program} {w : World} {K : PySem.W.Frag} {es : List Expr} {c : Nat} {pos : Pos} {z p q i j b : Addr} {x : Str} {tk0 : Tok} {m : Nat} (S : ZipSep2 z p q i j [i] [j, b]) :
    Turn P w K (.Tuple es c pos) (ItzS K x b m) [z, p, q, i, j] z (ZsAt z p q i j x tk0 b m) where
  mem := List.mem_cons_self
  obj := fun k h t x hx => t.some hx
  keep := fun k h h' t hk => t.frame hk
  self := fun A k s Q E t h => wpAny_pyIter_zip t.zz h
  item := by
    intro X hP hw hK hc k pins s σ H E I hf t hg
    subst hP hw hK
    obtain ⟨ys, sy, ly, kn, km⟩ := hg
    obtain ⟨ws, rw_, pw, _⟩ := I.list sy
    have lw : ws.toArray.size = m := by rw [List.size_toArray, ← rw_.length, ly]
    obtain ⟨u0, v0, hq⟩ := t.qq
    have nb : b ≠ j := fun e => by
      obtain ⟨o, f, hcl, _⟩ := t.jj
      obtain ⟨o', f', hcl', _⟩ := pw.isList
      rw [e, f] at f'
      cases f'
      rw [hcl] at hcl'
      injection hcl' with y
      exact absurd y (by decide)
    have hh : X.A.in1.handled = none := I.ok.hd hc
    have D1 := Draws.text (prog := X.prog) (w := X.w) hh i x tk0
    have D2 := Draws.list (prog := X.prog) (w := X.w) hh j b nb ws.toArray
    have s2 : s.heap.IsListIter j b k ∧ s.heap.IsList b ws.toArray := ⟨t.jj, pw.isList⟩
    refine wpAny_pyNext_zipD2_item S D1 D2 t.zz t.pp hq t.ii s2 kn (by rw [lw]; exact km) fun u v g tk hu hv gz gq gi gj gn gs gk => ?_
    refine ⟨_, rfl, wpAny_letOwnedTupleGo_zip (s := { s with heap := g, toks := tk }) gz fun g2 gz2 sb => ?_⟩
    have fresh : ∀ {x o}, s.heap.get? x = some o → x ≠ s.heap.objs.size := fun e => Nat.ne_of_lt (Heap.lt_size e)
    have nz : s.heap.objs.size ≠ z := (fresh t.zz).symm
    have on : ∀ x o, x ≠ z → x ≠ q → x ≠ i → x ≠ j → s.heap.get? x = some o → g2.get? x = some o := fun x o x1 x2 x3 x4 e => (sb.2 _ x1).trans (gk x o x1 x2 x3 x4 e)
    have new2 : IsTupOf2 g2 s.heap.objs.size u v := (sb.2 _ nz).trans gn
    obtain ⟨ch, tu, hu', eu⟩ := hu
    have hv' : ws[k]? = some v := by simpa using hv
    have rx : RelV (.str ⟨#[ch]⟩) u := ⟨tu, eu⟩
    obtain ⟨y, hy, ry⟩ : ∃ y, ys[k]? = some y ∧ RelV y v := by
      have hlt : k < ys.length := by omega
      obtain ⟨v', e1, e2⟩ := rw_.get (List.getElem?_eq_getElem hlt)
      rw [hv'] at e1
      cases e1
      exact ⟨_, List.getElem?_eq_getElem hlt, e2⟩
    have made : ObjOk X.prog X.w (upd H s.heap.objs.size (.tup [.str ⟨#[ch]⟩, y])) g2 s.heap.objs.size (.tup [.str ⟨#[ch]⟩, y]) :=
      ⟨by show 2 ≤ sizeLine; decide, [u, v], .cons rx (.cons ry .nil), ⟨_, new2, rfl, _, rfl⟩⟩
    have notin : ∀ {x o}, x ∉ [z, p, q, i, j] → s.heap.get? x = some o → g2.get? x = some o := fun hx e => by
      simp only [List.mem_cons, List.not_mem_nil, or_false, not_or] at hx
      exact on _ _ hx.1 hx.2.2.1 hx.2.2.2.1 hx.2.2.2.2 e
    have I2 : Inv X pins σ (upd H s.heap.objs.size (.tup [.str ⟨#[ch]⟩, y])) { s with heap := g2, toks := tk } := I.turnedNew (t' := tk) (ch := [z, p, q, i, j]) (fun c o hb e => notin hb e) hf (Nat.le_refl _) made
    refine ⟨.ref s.heap.objs.size, _, I2, rfl, ⟨_, ch, y, ⟨rfl, I.hok.fresh (Nat.le_refl _), rfl⟩, hu', fun l hl => ?_⟩, ⟨kn, km, gz2, ?_, ⟨u, v, ?_⟩, ?_, ?_⟩, fun c hc => ?_⟩
    · rw [I.list_inj hl sy]; exact hy
    · exact on _ _ S.TIz S.TITO S.TIi1 S.TIi2 t.pp
    · exact (sb.2 _ S.TOz).trans gq
    · exact strIter_at gi fun o e => (sb.2 _ S.zi1.symm).trans e
    · exact gj.1.at fun o e => (sb.2 _ S.zi2.symm).trans e
    · obtain ⟨o, e, _⟩ := t.some hc
      show upd H s.heap.objs.size _ c = none
      rw [upd_ne (fresh e)]
      exact (hf c hc).1
  done := by
    intro X hP hw hK hc k pins s σ H E I hf t hg
    subst hP hw hK
    obtain ⟨ys, sy, ly, hend⟩ := hg
    obtain ⟨ws, rw_, pw, _⟩ := I.list sy
    have lw : ws.toArray.size = m := by rw [List.size_toArray, ← rw_.length, ly]
    obtain ⟨u0, v0, hq⟩ := t.qq
    have nb : b ≠ j := fun e => by
      obtain ⟨o, f, hcl, _⟩ := t.jj
      obtain ⟨o', f', hcl', _⟩ := pw.isList
      rw [e, f] at f'
      cases f'
      rw [hcl] at hcl'
      injection hcl' with y
      exact absurd y (by decide)
    have hh : X.A.in1.handled = none := I.ok.hd hc
    have D1 := Draws.text (prog := X.prog) (w := X.w) hh i x tk0
    have D2 := Draws.list (prog := X.prog) (w := X.w) hh j b nb ws.toArray
    have s2 : s.heap.IsListIter j b k ∧ s.heap.IsList b ws.toArray := ⟨t.jj, pw.isList⟩
    have kn := t.kn
    have km := t.km
    refine wpAny_pyNext_zipD2_end S D1 D2 t.zz t.pp hq t.ii s2 kn (by rw [lw]; exact km) (by rw [lw]; omega) fun g tk gk => ⟨rfl, I.turnedL (t' := tk) (ch := [z, p, q, i, j]) (fun c o hb e => ?_) hf⟩
    simp only [List.mem_cons, List.not_mem_nil, or_false, not_or] at hb
    exact gk c o hb.1 hb.2.2.1 hb.2.2.2.1 hb.2.2.2.2 e
/-- zip(e, e2): of two lists, or of a tuple and a list -/
theorem zm_pi {X : Cx} {e e2 : Expr} {ta : TA} {p pos tpos : Pos} {es : List Expr} {c : Nat} (hg : Gl X "zip") (hm : X.mg "zip" = none) (ha : PA X [e, e2] ta)
    (hs : starEach [e, e2] X.env = (false, eval e X.env) :: starEach [e2] X.env) (hpl : (backTo pos (starEach [e2] X.env)).any (·.1) = false) :
    PI X (.Tuple es c tpos) (.Call (.Name "zip" p) [e, e2] [] pos) (fun σ H Z => ta σ H fun vs H1 => (∃ a b xs ys, vs = [V.ref a, V.ref b] ∧ SqL X.K H1 b ys ∧ ((SqT X.K H1 a xs ∧ Z (ItzM X.K a b xs.length ys.length) H1) ∨ (SqL X.K H1 a xs ∧ Z (Itz X.K a b) H1))) ∨ ∃ (x : Str) (b : Addr) (ys : List V), vs = [V.str x, V.ref b] ∧ SqL X.K H1 b ys ∧ Z (ItzS X.K x b ys.length) H1) := by
  constructor
  intro pins s σ H Z I h
  refine Call_ (ld_blt I hg hm boot_zip (callWith_type1 (thn (ha.run pos pins s σ H _ I h) fun us s1 ⟨vs, H1, I1, r1, q1⟩ => ?_) hs hpl))
  rcases q1 with q1 | q1
  · obtain ⟨a, b, xs, ys, rfl, sy, hZ⟩ := q1
    obtain ⟨ws, rw_, pw, _⟩ := I1.list sy
    have lb : b < s1.heap.objs.size := pw.lt
    have old : ∀ x, x ∈ [s1.heap.objs.size + 4, s1.heap.objs.size + 2, s1.heap.objs.size + 3, s1.heap.objs.size, s1.heap.objs.size + 1] → FpOk X pins H1 x := fun x hx => by
      have hx' : s1.heap.objs.size ≤ x := by
        rcases zm_cases hx with e | e | e | e | e <;> rw [e]
        · exact Nat.le_add_right _ 4
        · exact Nat.le_add_right _ 2
        · exact Nat.le_add_right _ 3
        · exact Nat.le_refl _
        · exact Nat.le_add_right _ 1
      exact I1.fpOk hx' (I1.hok.fresh hx')
    cases r1 with
    | cons r rr =>
      cases rr with
      | cons r' rr =>
      cases rr
      cases r
      cases r'
      rcases hZ with ⟨sx, hZ⟩ | ⟨sx, hZ⟩
      · obtain ⟨us, ru, pu, _⟩ := I1.tuple sx
        have la : a < s1.heap.objs.size := by
          obtain ⟨o, f, _⟩ := (show s1.heap.IsTuple a us.toArray from pu)
          exact Heap.lt_size f
        refine zip_begins2 (begins_tuple a us.toArray) (begins_list b ws.toArray) pu pw.isList fun g gz gp gq gi gj gs gk => wpAny_pyIter_zip gz ?_
        have S : ZipSep2 (s1.heap.objs.size + 4) (s1.heap.objs.size + 2) (s1.heap.objs.size + 3) s1.heap.objs.size (s1.heap.objs.size + 1) [s1.heap.objs.size, a] [s1.heap.objs.size + 1, b] := zm_sep la lb
        have T := zm_turn (P := X.prog) (w := X.w) (K := X.K) (es := es) (c := c) (pos := tpos) (n := xs.length) (m := ys.length) S
        have I2 : Inv X pins σ H1 { s1 with heap := g } := I1.kept (t' := s1.toks) gk
        have gi' : g.IsTupleIter s1.heap.objs.size a 0 := ⟨_, gi, rfl, rfl⟩
        have gj' : g.IsListIter (s1.heap.objs.size + 1) b 0 := ⟨_, gj, rfl, rfl⟩
        have Z : ZmAt (s1.heap.objs.size + 4) (s1.heap.objs.size + 2) (s1.heap.objs.size + 3) s1.heap.objs.size (s1.heap.objs.size + 1) a b xs.length ys.length 0 g := ⟨Nat.zero_le _, Nat.zero_le _, gz, gp, ⟨_, _, gq⟩, gi', gj'⟩
        exact ⟨_, _, _, _, H1, rfl, I2, T, Z, old, hZ⟩
      · obtain ⟨us, ru, pu, _⟩ := I1.list sx
        refine call_zip_2 pu.isList pw.isList fun g gz gp gq gi gj gs gk => wpAny_pyIter_zip gz ?_
        exact ⟨_, _, _, _, H1, rfl, I1.kept (t' := s1.toks) gk, turn_zip (PySem.W.ktu_apart s1.heap.objs.size a b pu.lt lb), ⟨gz, gp, ⟨_, _, gq⟩, gi, gj⟩, old, hZ⟩
  · obtain ⟨x, b, ys, rfl, sy, hZ⟩ := q1
    obtain ⟨ws, rw_, pw, _⟩ := I1.list sy
    have lb : b < s1.heap.objs.size := pw.lt
    have old : ∀ x, x ∈ [s1.heap.objs.size + 4, s1.heap.objs.size + 2, s1.heap.objs.size + 3, s1.heap.objs.size, s1.heap.objs.size + 1] → FpOk X pins H1 x := fun x hx => by
      have hx' : s1.heap.objs.size ≤ x := by
        rcases zm_cases hx with e | e | e | e | e <;> rw [e]
        · exact Nat.le_add_right _ 4
        · exact Nat.le_add_right _ 2
        · exact Nat.le_add_right _ 3
        · exact Nat.le_refl _
        · exact Nat.le_add_right _ 1
      exact I1.fpOk hx' (I1.hok.fresh hx')
    cases r1 with
    | cons r rr =>
      cases rr with
      | cons r' rr =>
      cases rr
      obtain ⟨tx, rfl⟩ := r
      cases r'
      refine zip_begins2 (begins_text x tx) (begins_list b ws.toArray) trivial pw.isList fun g gz gp gq gi gj gs gk => wpAny_pyIter_zip gz ?_
      have S : ZipSep2 (s1.heap.objs.size + 4) (s1.heap.objs.size + 2) (s1.heap.objs.size + 3) s1.heap.objs.size (s1.heap.objs.size + 1) [s1.heap.objs.size] [s1.heap.objs.size + 1, b] := zs_sep lb
      have T := zs_turn (P := X.prog) (w := X.w) (K := X.K) (es := es) (c := c) (pos := tpos) (x := x) (tk0 := tx) (m := ys.length) S
      have I2 : Inv X pins σ H1 { s1 with heap := g } := I1.kept (t' := s1.toks) gk
      have gi' : g.IsStrIter s1.heap.objs.size (strIterType x) x tx 0 := ⟨_, gi, rfl, rfl⟩
      have gj' : g.IsListIter (s1.heap.objs.size + 1) b 0 := ⟨_, gj, rfl, rfl⟩
      have Z : ZsAt (s1.heap.objs.size + 4) (s1.heap.objs.size + 2) (s1.heap.objs.size + 3) s1.heap.objs.size (s1.heap.objs.size + 1) x tx b ys.length 0 g := ⟨Nat.zero_le _, Nat.zero_le _, gz, gp, ⟨_, _, gq⟩, gi', gj'⟩
      exact ⟨_, _, _, _, H1, rfl, I2, T, Z, old, hZ⟩
end Py

namespace Py
open PySem PySem.Spec PyProof.Rows L2
open PySem.AutoSeq1 (wpAny_loadPart')
theorem tup_mul1 (l : Addr) (items : Array Value) (n : Nat) (dd : Option Addr) (sl : Array (Option Value)) (u : Tok) :
    Meets (Builtin.«tuple.__mul__» ⟨[.ref l, .int 1 u], []⟩) (fun _ R s => s.heap.get? l = some { cls := .type "tuple", dict := dd, data := .seq items n, slots := sl } ∧ R (.ok (.ret (Value.ref l))) s) :=
  .of_wp fun prog w A R s h => by
    obtain ⟨hp, g, d, tk, os⟩ := s
    obtain ⟨hl, h⟩ := h
    have f1 := AutoSeq1.idx_int
    wp_walk using wpAny_loadPart' hl
    exact ⟨_, rfl, h⟩
section
variable {X : Cx}
def rRep1 (K : PySem.W.Frag) : R2 := fun x y H Q => ∃ l xs, x = .ref l ∧ y = .int 1 ∧ SqT K H l xs ∧ Q (.ref l) H
theorem op_rep1 : OpR X (binaryOp .Mult) (rRep1 X.K) := by
  intro pins s σ H x y v u Q I rx ry h
  obtain ⟨l, xs, rfl, rfl, hT, q⟩ := h
  cases rx
  obtain ⟨t, rfl⟩ := ry
  obtain ⟨its, r, ⟨⟨cls, dd, data, sl⟩, ho, hc, n, hd⟩, hs⟩ := I.tuple hT
  simp only at hc hd
  subst hc hd
  refine wpAny_binaryOp_repeat_ref (T := "tuple") (U := "int") (by decide) ⟨_, ho, rfl⟩ (fun s' => typeIs_int s' 1 t) noFill_tuple_mul F.fills_int_mul F.slot_int_rmul repeat_tuple F.slot_int_index.lookup
    (call_meets F.slot_int_rmul (typeIs_int s 1 t) F.entry_int_rmul (F.args_int_rmul_2 _ _) (int_rmul_tuple 1 t l its.toArray n dd sl)
      ⟨ho, rfl, ⟨_, ho, rfl⟩, call_meets F.slot_tuple_mul ⟨_, ho, rfl⟩ F.entry_tuple_mul (F.args_tuple_mul_2 _ _) (tup_mul1 l its.toArray n dd sl t) ⟨ho, ?_⟩⟩)
  exact ⟨.ref l, H, I, rfl, q⟩
end
section
variable {prog : Program} {w : World} {A : Around} {E : Value → Shared → Prop} {s : Shared}
theorem applied_rev {sl : Addr} {vs : Value} {n : Nat} {Q : Int × Int × Nat → Shared → Prop} (hs : s.heap.IsSliceOf sl .none .none vs) (pv : IsPart vs (some (-1)))
    (h : Q ((n : Int) - 1, -1, n) s) : wpAny (model prog w) A (Builtin.Slice.sliceApplied (.ref sl) (pure (n : Int))) Q E s := by
  obtain ⟨o, g1, g2, g3⟩ := id hs
  unfold Builtin.Slice.sliceApplied Builtin.Slice.sliceFields
  refine wpAny_bind (wpAny_bind (wpAny_field g1 g3 (x := .none) rfl (wpAny_bind (wpAny_field g1 g3 (x := .none) rfl (wpAny_bind (wpAny_field g1 g3 (x := vs) rfl (wpAny_pure ?_)))))))
  refine wpAny_bind (HT.slicePart_ pv ?_)
  show wpAny _ _ (if ((-1 : Int) == 0) = true then _ else _) _ _ s
  rw [if_neg (by decide)]
  refine wpAny_bind (HT.slicePart_ .none (wpAny_bind (HT.slicePart_ .none (wpAny_bind (wpAny_pure ?_)))))
  have e : Builtin.Slice.slicePlaces ((n : Int) - 1) (-1) (-1) = n := by
    unfold Builtin.Slice.slicePlaces
    have h1 : ¬ ((-1 : Int) > 0) := by omega
    simp only [h1, if_false]
    have h2 : -(-1 : Int) = 1 := rfl
    rw [h2, Int.ediv_one]
    split <;> omega
  show wpAny _ _ (pure ((n : Int) - 1, (-1 : Int), Builtin.Slice.slicePlaces ((n : Int) - 1) (-1) (-1))) _ _ s
  rw [e]
  exact wpAny_pure h
theorem fm_congr {α β : Type} {f g : α → Option β} : ∀ {l : List α}, (∀ x ∈ l, f x = g x) → l.filterMap f = l.filterMap g
  | [], _ => rfl
  | x :: l, h => by
    rw [List.filterMap_cons, List.filterMap_cons, h x (by simp), fm_congr fun y hy => h y (by simp [hy])]
theorem pick_rev (xs : Array Value) : ((List.range xs.size).filterMap fun (k : Nat) => xs[(((xs.size : Nat) : Int) - 1 + (k : Int) * (-1)).toNat]?).toArray = xs.toList.reverse.toArray := by
  congr 1
  have e : ((List.range xs.size).filterMap fun (k : Nat) => xs[(((xs.size : Nat) : Int) - 1 + (k : Int) * (-1)).toNat]?) = (List.range xs.size).filterMap fun k => xs.toList.reverse[k]? := by
    refine fm_congr fun k hk => ?_
    have hk := List.mem_range.mp hk
    rw [List.getElem?_reverse (by simpa using hk), Array.length_toList, Array.getElem?_toList]
    congr 1
    omega
  rw [e]
  refine List.ext_getElem? fun i => ?_
  have : (List.range xs.size).filterMap (fun k => xs.toList.reverse[k]?) = xs.toList.reverse := by
    have hl : xs.size = xs.toList.reverse.length := by simp
    rw [hl]
    generalize xs.toList.reverse = l
    induction l with
    | nil => rfl
    | cons a l ih =>
      rw [List.length_cons, List.range_succ_eq_map, List.filterMap_cons, List.filterMap_map]
      simp only [List.getElem?_cons_zero]
      congr 1
  rw [this]
theorem getItem_tuple_rev {t sl : Addr} {items : Array Value} {vs : Value} {Q : Value → Shared → Prop} (ht : IsTup s.heap t items) (hs : s.heap.IsSliceOf sl .none .none vs) (pv : IsPart vs (some (-1)))
    (h : Q (.ref s.heap.objs.size) { s with heap := s.heap.push { cls := .type "tuple", data := .seq items.toList.reverse.toArray } })
    (hsz : items.size ≤ sizeLine) : wpAny (model prog w) A (getItem (.ref t) (.ref sl)) Q E s := by
  have fit : sizeOk (.seq items.toList.reverse.toArray) := by
    show items.toList.reverse.toArray.size ≤ sizeLine
    rw [List.size_toArray, List.length_reverse, Array.length_toList]
    exact hsz
  obtain ⟨o, g1, g2, g3⟩ := id hs
  have hT : s.TypeIs (.ref sl) "slice" := ⟨o, g1, g2⟩
  unfold getItem
  try with_reducible refine wpAny_holding ?_
  first | refine wpAny_bind (wpAny_pure ?_) | skip
  refine wpAny_bind (wpAny_sequenceKey ht.typeIs (by decide) ?_)
  refine wpAny_bind (wpAny_callSpecial?_slot (name := Str.ofString "__getitem__") ht.typeIs PyProof.Rows.slot_tuple_getitem
    (wpAny_call_entry PyProof.Rows.slot_tuple_getitem ht.typeIs entry_tuple_getitem ?_ (args_tuple_getitem _ _)))
  show wpAny _ _ (Builtin.Tuple.tupleItemsOf (.ref t) >>= _) _ _ s
  refine wpAny_bind (tupleItemsOf_ ht (wpAny_bind (wpAny_typeOf hT ?_)))
  rw [if_pos (by decide)]
  refine wpAny_bind (applied_rev hs pv ?_)
  have no : ¬ (((((items.size : Nat) : Int) - 1 == 0) && ((-1 : Int) == 1) && (items.size == items.size)) = true) := by simp
  show wpAny _ _ (if ((((items.size : Nat) : Int) - 1 == 0) && ((-1 : Int) == 1) && (items.size == items.size)) = true then _ else _) _ _ s
  rw [if_neg no, pick_rev]
  first
    | exact wpAny_bind (m := Builtin.Tuple.tupleExact _) (wpAny_newObj_type (wpAny_pure ⟨_, rfl, wpAny_pure h⟩) fit)
    | exact wpAny_bind (m := Builtin.Tuple.tupleExact _) (wpAny_newObj_type (wpAny_bind (wpAny_pure (wpAny_pure ⟨_, rfl, wpAny_pure h⟩))) fit)
    | exact wpAny_bind (wpAny_bind (m := Builtin.Tuple.tupleExact _) (wpAny_newObj_type (wpAny_pure (wpAny_pure ⟨_, rfl, wpAny_pure h⟩)) fit))
    | exact wpAny_bind (wpAny_bind (m := Builtin.Tuple.tupleExact _) (wpAny_newObj_type (wpAny_pure ⟨_, rfl, wpAny_pure h⟩) fit))
end
end Py

namespace Py
open PySem PySem.Spec PyProof.Rows L2
section
variable {P : Program} {w : World} {A : Around} {E : Value → Shared → Prop} {s : Shared}
/-- the new set, the walker over what it takes -/
abbrev set0 (w : World) : Obj := { cls := .type "set", dict := none, data := .set #[] 0 (.fresh 0 0 (!w.params.followText "set-order")) }
abbrev wlk0 (c : String) (l : Addr) : Obj := { cls := .type c, data := .fields #[.ref l, .int 0 0] }
abbrev heap2 (w : World) (h : Heap) (c : String) (l : Addr) : Heap := (h.push (set0 w)).push (wlk0 c l)
/-- set(xs), xs a tuple -/
theorem set_of_tuple {l : Addr} {items : Array Value} {Q : Value → Shared → Prop} (hl : s.heap.IsTuple l items) (Fin : Shared → Prop)
    (walk : codeAny (model P w) A.in1.in1 (.builtin "set.update.loop" ⟨[.ref s.heap.objs.size, .ref (s.heap.push (set0 w)).objs.size], []⟩) (wants (fun r s2 => r = .none ∧ Fin s2) E) { s with heap := heap2 w s.heap "tuple_iterator" l })
    (h : ∀ s2, Fin s2 → Q (.ref s.heap.objs.size) s2) : wpAny (model P w) A (call (.type "set") [.ref l]) Q E s := by
  obtain ⟨_, _, _⟩ := F.called_set.mro
  have k1 := F.called_set.made
  have k2 := F.called_set.sub
  have k3 := F.called_set.notType
  have k4 := F.called_set.canCreate
  have k5 := F.typeCall_set_1 (.ref l)
  refine wpAny_call (codeAny_of_tree ?_)
  show wpAny _ _ (callAny (.type "set") _) _ _ _
  refine wpAny_pure ⟨Code.quiet_builtin _ (by decide +kernel), codeAny_builtin F.entry_type_call ?_⟩
  rw [Around.under_plain (weight_type_call_type "set" [.ref l] []) rfl]
  repeat (any_goals (first | assumption | wp_step))
  refine codeAny_mono (code_set_led1 (.ref l) (E := E) (Q₁ := fun x s1 => x = .ref s.heap.objs.size ∧ s1 = { s with heap := s.heap.push (set0 w) }) ⟨rfl, rfl⟩) fun r s1 hr => ?_
  match r, hr with
  | .error e, hr => exact hr
  | .ok (.ret x), ⟨e1, e2⟩ =>
    subst e1
    subst e2
    have o1 : (s.heap.push (set0 w)).get? s.heap.objs.size = some (set0 w) := Heap.get?_push_size _ rfl
    have t1 : Shared.TypeIs { s with heap := s.heap.push (set0 w) } (.ref s.heap.objs.size) "set" := ⟨_, o1, rfl⟩
    have k6 := F.called_set.init.lookup
    have k7 := F.called_set.init.bind (.ref s.heap.objs.size)
    repeat (any_goals (first | assumption | wp_step))
    refine codeAny_mono (codeAny_call_builtin (R := wants (fun r s2 => r = .none ∧ Fin s2) E) F.called_set.init.plain F.entry_set_init (check_set_init_1 t1 ?_)) fun r2 s2 hr2 => ?_
    · obtain ⟨ob, g1, g2, n, g3⟩ := hl
      obtain ⟨oc, od, oda, os⟩ := ob
      simp only at g2 g3
      subst g2
      subst g3
      have g4 : (s.heap.push (set0 w)).get? l = some { cls := .type "tuple", dict := od, data := .seq items n, slots := os } := Heap.get?_push_of_some _ g1
      have n1 := F.sub_tuple_set
      have n2 := F.sub_tuple_frozenset
      have n3 : (Value.type "tuple" == Value.type "dict") = false := by decide
      have g5 : (s.heap.push (set0 w)).IsTuple l items := ⟨_, g4, rfl, n, rfl⟩
      unfold Builtin.«set.__init__» noKeywords Builtin.Frozenset.updateFrom
      generalize hpi : pyIter = pi
      wp_walk
      subst hpi
      refine wpAny_pyIter_tuple g5 (wpAny_bind (wpAny_runValue (codeAny_mono walk fun r3 s3 h3 => ?_)))
      match r3, h3 with
      | .error e, h3 => exact h3
      | .ok (.ret x), ⟨f1, f2⟩ =>
        refine wpAny_pure ?_
        show wpAny _ _ (ret Value.none) _ _ _
        exact wpAny_pure ⟨rfl, f2⟩
    · match r2, hr2 with
      | .error e, hr2 => exact hr2
      | .ok (.ret x), ⟨e1, e2⟩ =>
        subst e1
        repeat (any_goals (first | assumption | wp_step))
        exact h _ e2
/-- set(xs), xs a list -/
theorem set_of_list {l : Addr} {items : Array Value} {Q : Value → Shared → Prop} (hl : s.heap.IsList l items) (Fin : Shared → Prop)
    (walk : codeAny (model P w) A.in1.in1 (.builtin "set.update.loop" ⟨[.ref s.heap.objs.size, .ref (s.heap.push (set0 w)).objs.size], []⟩) (wants (fun r s2 => r = .none ∧ Fin s2) E) { s with heap := heap2 w s.heap "list_iterator" l })
    (h : ∀ s2, Fin s2 → Q (.ref s.heap.objs.size) s2) : wpAny (model P w) A (call (.type "set") [.ref l]) Q E s := by
  obtain ⟨_, _, _⟩ := F.called_set.mro
  have k1 := F.called_set.made
  have k2 := F.called_set.sub
  have k3 := F.called_set.notType
  have k4 := F.called_set.canCreate
  have k5 := F.typeCall_set_1 (.ref l)
  refine wpAny_call (codeAny_of_tree ?_)
  show wpAny _ _ (callAny (.type "set") _) _ _ _
  refine wpAny_pure ⟨Code.quiet_builtin _ (by decide +kernel), codeAny_builtin F.entry_type_call ?_⟩
  rw [Around.under_plain (weight_type_call_type "set" [.ref l] []) rfl]
  repeat (any_goals (first | assumption | wp_step))
  refine codeAny_mono (code_set_led1 (.ref l) (E := E) (Q₁ := fun x s1 => x = .ref s.heap.objs.size ∧ s1 = { s with heap := s.heap.push (set0 w) }) ⟨rfl, rfl⟩) fun r s1 hr => ?_
  match r, hr with
  | .error e, hr => exact hr
  | .ok (.ret x), ⟨e1, e2⟩ =>
    subst e1
    subst e2
    have o1 : (s.heap.push (set0 w)).get? s.heap.objs.size = some (set0 w) := Heap.get?_push_size _ rfl
    have t1 : Shared.TypeIs { s with heap := s.heap.push (set0 w) } (.ref s.heap.objs.size) "set" := ⟨_, o1, rfl⟩
    have k6 := F.called_set.init.lookup
    have k7 := F.called_set.init.bind (.ref s.heap.objs.size)
    repeat (any_goals (first | assumption | wp_step))
    refine codeAny_mono (codeAny_call_builtin (R := wants (fun r s2 => r = .none ∧ Fin s2) E) F.called_set.init.plain F.entry_set_init (check_set_init_1 t1 ?_)) fun r2 s2 hr2 => ?_
    · obtain ⟨ob, g1, g2, n, g3⟩ := hl
      obtain ⟨oc, od, oda, os⟩ := ob
      simp only at g2 g3
      subst g2
      subst g3
      have g4 : (s.heap.push (set0 w)).get? l = some { cls := .type "list", dict := od, data := .seq items n, slots := os } := Heap.get?_push_of_some _ g1
      have n1 := F.sub_list_set
      have n2 := F.sub_list_frozenset
      have n3 : (Value.type "list" == Value.type "dict") = false := by decide
      have g5 : (s.heap.push (set0 w)).IsList l items := ⟨_, g4, rfl, n, rfl⟩
      unfold Builtin.«set.__init__» noKeywords Builtin.Frozenset.updateFrom
      generalize hpi : pyIter = pi
      wp_walk
      subst hpi
      refine wpAny_pyIter_list g5 (wpAny_bind (wpAny_runValue (codeAny_mono walk fun r3 s3 h3 => ?_)))
      match r3, h3 with
      | .error e, h3 => exact h3
      | .ok (.ret x), ⟨f1, f2⟩ =>
        refine wpAny_pure ?_
        show wpAny _ _ (ret Value.none) _ _ _
        exact wpAny_pure ⟨rfl, f2⟩
    · match r2, hr2 with
      | .error e, hr2 => exact hr2
      | .ok (.ret x), ⟨e1, e2⟩ =>
        subst e1
        repeat (any_goals (first | assumption | wp_step))
        exact h _ e2
theorem none_from {h : Heap} {b : Addr} (hb : h.objs.size ≤ b) : h.get? b = none := by
  cases q : h.get? b with
  | none => rfl
  | some o => exact absurd (Heap.lt_size q) (Nat.not_lt.mpr hb)
theorem call_set_tupsT {l : Addr} {items : Array Value} (ks : List (Addr × List Int)) {Q : Value → Shared → Prop} (hh : A.handled = none) (hl : s.heap.IsTuple l items) (hit : items.toList = ks.map fun p => Value.ref p.1)
    (hk : ∀ p ∈ ks, IsT P w s.heap p.2 p.1) (hfew : ks.length < 64) (hu : A.units + 3 < cLine)
    (h : ∀ (h' : Heap) (tk : Nat) L es ep t, SetTR P w h' s.heap.objs.size L es ep t → Got ks ks.length L → (∀ b o, s.heap.get? b = some o → h'.get? b = some o) → Q (.ref s.heap.objs.size) { s with heap := h', toks := tk }) :
    wpAny (model P w) A (call (.type "set") [.ref l]) Q E s := by
  have hn : items.size = ks.length := by
    have q := congrArg List.length hit
    rwa [Array.length_toList, List.length_map] at q
  have lt : l < s.heap.objs.size := by
    obtain ⟨o, ho, _⟩ := hl
    exact Heap.lt_size ho
  have sz : (s.heap.push (set0 w)).objs.size = s.heap.objs.size + 1 := Heap.size_push ..
  refine set_of_tuple hl (fun s2 => ∃ h' tk L es ep t, s2 = { s with heap := h', toks := tk } ∧ SetTR P w h' s.heap.objs.size L es ep t ∧ Got ks ks.length L ∧ ∀ b o, s.heap.get? b = some o → h'.get? b = some o) ?_ fun s2 ⟨h', tk, L, es, ep, t, e, r1, r2, r3⟩ => by subst e; exact h h' tk L es ep t r1 r2 r3
  have W := (Walks.tuple (prog := P) (w := w) (A := A.in1.in1.in1) (by simp [hh]) (s.heap.push (set0 w)).objs.size l (Nat.ne_of_lt (by rw [sz]; exact Nat.lt_succ_of_lt lt)) items).toS
  refine set_update_tups W s.heap.objs.size (by simp only [List.mem_cons, List.not_mem_nil, or_false, not_or]; exact ⟨Nat.ne_of_lt (by rw [sz]; exact Nat.lt_succ_self _), Nat.ne_of_gt lt⟩) ks hn hfew (fun i v hv => ?_) s.heap hk (none_from (Nat.le_refl _)) (fun b hb => ?_) hu (items.size - 0) 0 _ (by omega) (Nat.zero_le _) ⟨⟨_, Heap.get?_push_size _ rfl, rfl, rfl⟩, (hl.push _).push _⟩ (fun b o e => Heap.get?_push_of_some _ (Heap.get?_push_of_some _ e)) ⟨[], #[], 0, _, setTR_fresh (Heap.get?_push_of_some _ (Heap.get?_push_size _ rfl)), Got.zero ks⟩ fun s' L es ep t hm r g k => ?_
  · have q : items.toList[i]? = some v := by rw [Array.getElem?_toList]; exact hv
    rw [hit, List.getElem?_map] at q
    cases e : ks[i]? with
    | none => rw [e] at q; cases q
    | some p =>
      rw [e] at q
      exact ⟨p, rfl, (Option.some.inj q).symm⟩
  · rw [List.mem_singleton.mp hb]
    exact none_from (by rw [sz]; exact Nat.le_succ _)
  · rw [hn] at g
    refine ⟨rfl, s'.heap, s'.toks, L, es, ep, t, ?_, r, g, k⟩
    have e1 := hm.gens
    have e2 := hm.drawn
    have e3 := hm.os
    obtain ⟨h', g2, d', tk', os'⟩ := s'
    simp only at e1 e2 e3
    subst e1
    subst e2
    subst e3
    rfl
/-- set(xs), xs a list of ints: what sorted takes -/
theorem call_set_ints {l : Addr} {items : Array Value} (ns : List Int) {Q : Value → Shared → Prop} (hh : A.handled = none) (hl : s.heap.IsList l items) (hit : IntsAre items.toList ns) (hb : ns.length + 1 < scanBound)
    (h : ∀ (h' : Heap) (tk c : Nat), SetR w h' s.heap.objs.size (fun j => decide (j ∈ ns)) c → c ≤ ns.length → (∀ b o, s.heap.get? b = some o → h'.get? b = some o) → Q (.ref s.heap.objs.size) { s with heap := h', toks := tk }) :
    wpAny (model P w) A (call (.type "set") [.ref l]) Q E s := by
  have hn : items.size = ns.length := by
    have q := IntsAre.length hit
    rwa [Array.length_toList] at q
  have lt : l < s.heap.objs.size := by
    obtain ⟨o, ho, _⟩ := hl
    exact Heap.lt_size ho
  have sz : (s.heap.push (set0 w)).objs.size = s.heap.objs.size + 1 := Heap.size_push ..
  refine set_of_list hl (fun s2 => ∃ h' tk c, s2 = { s with heap := h', toks := tk } ∧ SetR w h' s.heap.objs.size (fun j => decide (j ∈ ns)) c ∧ c ≤ ns.length ∧ ∀ b o, s.heap.get? b = some o → h'.get? b = some o) ?_ fun s2 ⟨h', tk, c, e, r1, r2, r3⟩ => by subst e; exact h h' tk c r1 r2 r3
  have W := (Walks.list (prog := P) (w := w) (A := A.in1.in1.in1) (by simp [hh]) (s.heap.push (set0 w)).objs.size l (Nat.ne_of_lt (by rw [sz]; exact Nat.lt_succ_of_lt lt)) items).toS
  refine set_update_ints W s.heap.objs.size (by simp only [List.mem_cons, List.not_mem_nil, or_false, not_or]; exact ⟨Nat.ne_of_lt (by rw [sz]; exact Nat.lt_succ_self _), Nat.ne_of_gt lt⟩) ns hn hb (fun i v hv => ?_) (items.size - 0) 0 _ (by omega) (Nat.zero_le _) ⟨⟨_, Heap.get?_push_size _ rfl, rfl, rfl⟩, (hl.push _).push _⟩ ⟨0, Nat.le_refl 0, setR_new_at (Heap.get?_push_of_some _ (Heap.get?_push_size _ rfl))⟩ fun s' c hm r1 r2 => ?_
  · have hi : i < ns.length := by rw [← hn]; exact (Array.getElem?_eq_some_iff.mp hv).1
    obtain ⟨t, e⟩ := PyProof.Rows.IntsAre.int_at hit i v (by rw [Array.getElem?_toList]; exact hv)
    refine ⟨ns[i], t, List.getElem?_eq_getElem hi, ?_⟩
    rw [e, List.getD_eq_getElem?_getD, List.getElem?_eq_getElem hi]
    rfl
  · rw [hn] at r1
    refine ⟨rfl, s'.heap, s'.toks, c, ?_, r2, r1, fun b o e => ?_⟩
    · have e1 := hm.gens
      have e2 := hm.drawn
      have e3 := hm.os
      obtain ⟨h', g2, d', tk', os'⟩ := s'
      simp only at e1 e2 e3
      subst e1
      subst e2
      subst e3
      rfl
    · have q := Heap.lt_size e
      exact hm.heap b o (by simp only [List.mem_cons, List.not_mem_nil, or_false, not_or]; exact ⟨Nat.ne_of_lt q, Nat.ne_of_lt (by rw [sz]; exact Nat.lt_succ_of_lt q)⟩) (Heap.get?_push_of_some _ (Heap.get?_push_of_some _ e))
end
section
variable {X : Cx}
/-- set(xs), xs a tuple of tuples of ints -/
def rSetOfTT (K : PySem.W.Frag) (P : Program) (w : World) : List V → Hp → VK → Prop := fun xs H Q => ∃ (l : Addr) (ks : List (Addr × List Int)), xs = [V.ref l] ∧ SqT K H l (ks.map fun p => V.ref p.1) ∧ (∀ p ∈ ks, SqT K H p.1 (p.2.map V.int)) ∧ ks.length < 64 ∧
  ∀ a L, H a = none → (∀ p ∈ L, p ∈ ks) → (∀ p ∈ ks, p.2 ∈ L.map (·.2)) → Q (.ref a) (upd H a (SetTO P w a L))
theorem cr_setOfTT (hc : X.calm = true) (hu : X.A.units + 64 < cLine) : CallR X (.type "set") (rSetOfTT X.K X.prog X.w) := by
  intro pins s σ H xs us Q I r h
  obtain ⟨l, ks, rfl, hl, hk, hf, q⟩ := h
  rw [Vals.ref1 r]
  obtain ⟨its, rv, pl, hz⟩ := I.tuple hl
  have hn : H s.heap.objs.size = none := I.hok.fresh (Nat.le_refl _)
  refine call_set_tupsT (P := X.prog) (w := X.w) ks (I.ok.hd hc) pl (by simpa using refs_of_vals rv) (fun p hp => I.isT (hk p hp)) hf (by omega) fun h' tk L es ep t R g k => ?_
  exact ⟨.ref s.heap.objs.size, upd H s.heap.objs.size (SetTO X.prog X.w s.heap.objs.size L), I.laid (t' := tk) k (Nat.le_refl _) (setTO_new R.t0), rfl, q _ L hn (fun p hp => List.mem_of_mem_take (g.sub p hp)) fun p hp => g.all p (by rw [List.take_length]; exact hp)⟩
/-- set(xs), xs a list of ints -/
def rSetOfI (K : PySem.W.Frag) (w : World) : List V → Hp → VK → Prop := fun xs H Q => ∃ (l : Addr) (ns : List Int), xs = [V.ref l] ∧ SqL K H l (ns.map V.int) ∧ ns.length < 64 ∧
  ∀ a c, H a = none → c ≤ ns.length → Q (.ref a) (upd H a (SetO w a (fun j => decide (j ∈ ns)) c))
theorem vals_ints : ∀ {ns : List Int} {us : List Value}, Vals (ns.map V.int) us → PyProof.Rows.IntsAre us ns
  | [], _, .nil => .nil
  | n :: ns, _, .cons r t => by
    obtain ⟨k, rfl⟩ := r
    exact .cons n k (vals_ints t)
theorem cr_setOfI (hc : X.calm = true) : CallR X (.type "set") (rSetOfI X.K X.w) := by
  intro pins s σ H xs us Q I r h
  obtain ⟨l, ns, rfl, hl, hf, q⟩ := h
  rw [Vals.ref1 r]
  obtain ⟨its, rv, pl, hz⟩ := I.list hl
  have hn : H s.heap.objs.size = none := I.hok.fresh (Nat.le_refl _)
  refine call_set_ints (P := X.prog) (w := X.w) ns (I.ok.hd hc) pl.isList (by simpa using vals_ints rv) (by unfold scanBound; omega) fun h' tk c R hle k => ?_
  exact ⟨.ref s.heap.objs.size, upd H s.heap.objs.size (SetO X.w s.heap.objs.size (fun j => decide (j ∈ ns)) c), I.laid (t' := tk) k (Nat.le_refl _) (setO_new R), rfl, q _ c hn hle⟩
/-- sorted(s), s a set of ints -/
def rSortedI (w : World) : List V → Hp → VK → Prop := fun vs H Q => ∃ (a : Addr) (S : Int → Bool) (n : Nat), vs = [V.ref a] ∧ H a = some (SetO w a S n) ∧ n < 64 ∧
  ∀ (ns : List Int) (p : Addr), ns.Pairwise (· < ·) → (∀ k, k ∈ ns ↔ S k = true) → H p = none → Q (.ref p) (upd H p (.lst (ns.map V.int)))
theorem ints_vals2 : ∀ {ns : List Int} {us : List Value}, PyProof.Rows.IntsAre us ns → Vals (ns.map V.int) us
  | _, _, .nil => .nil
  | _, _, .cons n k t => .cons ⟨k, rfl⟩ (ints_vals2 t)
theorem cr_sortedI (hc : X.calm = true) : CallR X (.builtin "sorted") (rSortedI X.w) := by
  intro pins s σ H vs us Q I r h
  obtain ⟨a, S, n, rfl, ha, h64, q⟩ := h
  rw [Vals.ref1 r]
  refine sorted_set (P := X.prog) (setO_get I ha) (I.ok.hd hc) h64 fun s' p out c ns k g o hp hg hi pw hm hlen => ?_
  have hn : H p = none := I.hok.fresh hp
  have hz : (ns.map V.int).length ≤ sizeLine := by rw [List.length_map, sizeLine_eq]; omega
  have J : Inv X pins σ (upd H p (.lst (ns.map V.int))) { s with heap := s'.heap, gens := s'.gens, drawn := s'.drawn, toks := s'.toks } :=
    I.call (ch := []) (Un.laid k hp hn) (I.hok.laid k hp ⟨hz, out.toList, c, ints_vals2 hi, hg⟩) (by rw [g]; exact I.bare) (fun _ z => nomatch z)
  have e : s' = { s with heap := s'.heap, gens := s'.gens, drawn := s'.drawn, toks := s'.toks } := by
    cases s'
    cases s
    cases o
    rfl
  rw [e]
  exact ⟨.ref p, _, J, rfl, q ns p pw hm hn⟩
theorem CallR.or {f : Value} {r1 r2 : List V → Hp → VK → Prop} (h1 : CallR X f r1) (h2 : CallR X f r2) : CallR X f (fun xs H Q => r1 xs H Q ∨ r2 xs H Q) := fun pins s σ H xs us Q I r h =>
  h.elim (fun h => h1 pins s σ H xs us Q I r h) fun h => h2 pins s σ H xs us Q I r h
end
end Py

namespace Py
open PySem PySem.Spec PyProof.Rows L2
/-- so far: the heap of the start stands, the set at S holds what the first i of ks have -/
structure Half (P : Program) (w : World) (h0 : Heap) (S : Addr) (ks : List (Addr × List Int)) (i : Nat) (s : Shared) : Prop where
  old : ∀ b o, h0.get? b = some o → s.heap.get? b = some o
  has : ∃ L es ep t, SetTR P w s.heap S L es ep t ∧ Got ks i L
section
variable {P : Program} {w : World} {A : Around} {E : Value → Shared → Prop} {s s' : Shared} {h0 : Heap} {S I : Addr} {ks : List (Addr × List Int)} {i n : Nat} {fp wr : List Addr} {G : Array GenState → Array GenState → Prop}
theorem Half.moved (H : Half P w h0 S ks i s) (hm : Moved wr G s s') (hw0 : ∀ b ∈ wr, h0.get? b = none) (hS : S ∉ wr) (hk : ∀ p ∈ ks, IsT P w h0 p.2 p.1) : Half P w h0 S ks i s' := by
  have o' : ∀ b o, h0.get? b = some o → s'.heap.get? b = some o := fun b o e => hm.heap b o (fun z => by rw [hw0 b z] at e; cases e) (H.old b o e)
  obtain ⟨L, es, ep, t, r, g⟩ := H.has
  exact ⟨o', L, es, ep, t, r.keep (fun o e => hm.heap S o hS e) fun p hp => isT_keep (hk p (List.mem_of_mem_take (g.sub p hp))) o', g⟩
/-- the loop of set.update, of few unlike ones -/
theorem few_loop {Pv : Nat → Value → Prop} {St : Nat → Shared → Prop} {R : Result → Shared → Prop} (W : WalksS P w A.in1 I fp wr G n Pv St) (hS : S ∉ fp) (hn : ks.length = n) (hd : ∀ L : List (Addr × List Int), (∀ p ∈ L, p ∈ ks) → (L.map (·.2)).Nodup → L.length + 1 < 64)
    (hv : ∀ i v, Pv i v → ∃ p, ks[i]? = some p ∧ v = .ref p.1) (hk : ∀ p ∈ ks, IsT P w h0 p.2 p.1) (hS0 : h0.get? S = none) (hw0 : ∀ b ∈ wr, h0.get? b = none) (hu : A.in1.units < cLine) (s0 : Shared)
    (hR : ∀ s', Moved (S :: wr) G s0 s' → Half P w h0 S ks n s' → R (.ok (.ret .none)) s') :
    ∀ (d i : Nat) (s : Shared), i + d = n → St i s → Half P w h0 S ks i s → Moved (S :: wr) G s0 s → codeAny (model P w) A (.builtin "set.update.loop" ⟨[.ref S, .ref I], []⟩) R s := by
  have hSw : S ∉ wr := fun z => hS (W.sub _ z)
  have up : ∀ b ∈ wr, b ∈ S :: wr := fun b hb => List.mem_cons_of_mem _ hb
  intro d
  induction d with
  | zero =>
    intro i s hi st H M
    have hi : i = n := by omega
    subst hi
    refine codeAny_builtin F.entry_set_update_loop ?_
    rw [Around.under_plainId F.plain_set_update_loop _]
    refine wpAny_bind (W.done s _ _ st fun s1 hm => ?_)
    exact wpAny_pure (hR s1 (Moved.trans W.gtrans M (hm.mono up)) (H.moved hm hw0 hSw hk))
  | succ d ih =>
    intro i s hi st H M
    refine codeAny_builtin F.entry_set_update_loop ?_
    rw [Around.under_plainId F.plain_set_update_loop _]
    refine wpAny_bind (W.item i s _ _ (by omega) st fun v s1 hP st1 hm => ?_)
    obtain ⟨p, hp, rfl⟩ := hv i v hP
    have H1 := H.moved hm hw0 hSw hk
    have M1 := Moved.trans W.gtrans M (hm.mono up)
    obtain ⟨L, es, ep, t, r, g⟩ := H1.has
    have hx : IsT P w s1.heap p.2 p.1 := isT_keep (hk p (List.mem_of_getElem? hp)) H1.old
    have few := hd L (fun q hq => List.mem_of_mem_take (g.sub q hq)) r.nd
    show wpAny _ A.in1 (holding [Value.ref p.1] (setAdd S (.ref p.1)) >>= _) _ _ s1
    refine wpAny_bind (wpAny_holding ?_)
    unfold setAdd
    refine wpAny_holding (wpAny_bind (wpAny_pyHash_tuple hu hx ?_))
    refine add_at (s := { s1 with toks := s1.toks + (p.2.length + 1) }) r hx hu few fun b h2 L2 es2 ep2 t2 sb r2 c1 c2 => ?_
    have H2 : Half P w h0 S ks (i + 1) { s1 with heap := h2, toks := s1.toks + (p.2.length + 1) } := by
      refine ⟨fun b o e => (sb.2 b (fun z => by rw [z, hS0] at e; cases e)).trans (H1.old b o e), L2, es2, ep2, t2, r2, ?_⟩
      by_cases c : p.2 ∈ L.map (·.2)
      · rw [c1 c]; exact g.same hp c
      · exact g.more hp (c2 c)
    have ns : ∀ b, b ≠ S → h2.get? b = s1.heap.get? b := fun b hb => sb.2 b hb
    have M2 : Moved (S :: wr) G s0 { s1 with heap := h2, toks := s1.toks + (p.2.length + 1) } := M1.then_heap (Nat.le_add_right _ _) fun b o hb e => (ns b (fun z => hb (by rw [z]; exact List.mem_cons_self))).trans e
    exact wpAny_pure ⟨plainId_quiet F.plain_set_update_loop _, ih (i + 1) _ (by omega) (W.frame _ s1 _ _ st1 (Nat.le_add_right _ _) fun b hb o e => (ns b (fun z => hS (by rw [← z]; exact hb))).trans e) H2 M2⟩
theorem call_few {l : Addr} {items : Array Value} {Q : Value → Shared → Prop} (hh : A.handled = none) (hl : s.heap.IsList l items) (hit : items.toList = ks.map fun p => Value.ref p.1)
    (hk : ∀ p ∈ ks, IsT P w s.heap p.2 p.1) (hd : ∀ L : List (Addr × List Int), (∀ p ∈ L, p ∈ ks) → (L.map (·.2)).Nodup → L.length + 1 < 64) (hu : A.units + 3 < cLine)
    (h : ∀ (h' : Heap) (tk : Nat) L, SetT0 P w h' s.heap.objs.size L → (∀ p ∈ L, p ∈ ks) → (∀ p ∈ ks, p.2 ∈ L.map (·.2)) → (∀ b o, s.heap.get? b = some o → h'.get? b = some o) → Q (.ref s.heap.objs.size) { s with heap := h', toks := tk }) :
    wpAny (model P w) A (call (.type "set") [.ref l]) Q E s := by
  have hn : ks.length = items.size := by
    have q := congrArg List.length hit
    rw [Array.length_toList, List.length_map] at q
    exact q.symm
  have lt : l < s.heap.objs.size := by
    obtain ⟨o, ho, _⟩ := hl
    exact Heap.lt_size ho
  have sz : (s.heap.push (set0 w)).objs.size = s.heap.objs.size + 1 := Heap.size_push ..
  have oS : (heap2 w s.heap "list_iterator" l).get? s.heap.objs.size = some (set0 w) := Heap.get?_push_of_some _ (Heap.get?_push_size _ rfl)
  have keep : ∀ b o, s.heap.get? b = some o → (heap2 w s.heap "list_iterator" l).get? b = some o := fun b o e => Heap.get?_push_of_some _ (Heap.get?_push_of_some _ e)
  have li : l ≠ (s.heap.push (set0 w)).objs.size := Nat.ne_of_lt (by rw [sz]; exact Nat.lt_succ_of_lt lt)
  refine set_of_list hl (fun s2 => ∃ h' tk L, s2 = { s with heap := h', toks := tk } ∧ SetT0 P w h' s.heap.objs.size L ∧ (∀ p ∈ L, p ∈ ks) ∧ (∀ p ∈ ks, p.2 ∈ L.map (·.2)) ∧ ∀ b o, s.heap.get? b = some o → h'.get? b = some o) ?_ fun s2 ⟨h', tk, L, e, r1, r2, r3, r4⟩ => by subst e; exact h h' tk L r1 r2 r3 r4
  have W := (Walks.list (prog := P) (w := w) (A := A.in1.in1.in1) (by simp [hh]) (s.heap.push (set0 w)).objs.size l li items).toS
  have apart : s.heap.objs.size ∉ [(s.heap.push (set0 w)).objs.size, l] := by
    rw [sz]
    intro z
    rcases List.mem_cons.mp z with z | z
    · exact absurd z (Nat.ne_of_lt (Nat.lt_succ_self _))
    · exact absurd (List.mem_singleton.mp z) (Nat.ne_of_gt lt)
  refine few_loop (h0 := s.heap) W apart hn hd (fun i v hv => ?_) hk (none_from (Nat.le_refl _)) (fun b hb => ?_) hu _ (fun s2 M H => ?_) items.size 0 _ (Nat.zero_add _) ⟨⟨_, Heap.get?_push_size _ rfl, rfl, rfl⟩, (hl.push _).push _⟩ ⟨keep, [], #[], 0, _, setTR_fresh oS, Got.zero ks⟩ (Moved.refl W.grefl)
  · have q : items.toList[i]? = some v := by rw [Array.getElem?_toList]; exact hv
    rw [hit, List.getElem?_map, Option.map_eq_some_iff] at q
    obtain ⟨p, e1, e2⟩ := q
    exact ⟨p, e1, e2.symm⟩
  · rw [List.mem_singleton.mp hb]
    exact none_from (by rw [sz]; exact Nat.le_succ _)
  · obtain ⟨L, es, ep, t, r, g⟩ := H.has
    have e1 := M.gens
    have e2 := M.drawn
    have e3 := M.os
    have ho := H.old
    obtain ⟨h', g2, d', tk', os'⟩ := s2
    simp only at e1 e2 e3
    subst e1
    subst e2
    subst e3
    rw [← hn] at g
    exact ⟨rfl, h', tk', L, rfl, r.t0, fun p hp => List.mem_of_mem_take (g.sub p hp), fun p hp => g.all p (by rw [List.take_length]; exact hp), ho⟩
end
section
variable {X : Cx}
/-- set(xs) of a list of tuples of ints, few of them unlike -/
def rFew (K : PySem.W.Frag) (P : Program) (w : World) : List V → Hp → VK → Prop := fun xs H Q => ∃ (l : Addr) (ks : List (Addr × List Int)), (xs = [V.ref l] ∧ SqL K H l (ks.map fun p => V.ref p.1) ∧ ∀ p ∈ ks, SqT K H p.1 (p.2.map V.int)) ∧
  (∀ L : List (Addr × List Int), (∀ p ∈ L, p ∈ ks) → (L.map (·.2)).Nodup → L.length + 1 < 64) ∧ ∀ a L, H a = none → (∀ p ∈ L, p ∈ ks) → (∀ p ∈ ks, p.2 ∈ L.map (·.2)) → Q (.ref a) (upd H a (SetTO P w a L))
theorem cr_few (hc : X.calm = true) (hu : X.A.units + 64 < cLine) : CallR X (.type "set") (rFew X.K X.prog X.w) := by
  intro pins s σ H xs us Q I r ⟨l, ks, ⟨hxs, hl, hk⟩, hd, q⟩
  subst hxs
  rw [Vals.ref1 r]
  obtain ⟨its, rv, pl, hz⟩ := I.list hl
  have hn : H s.heap.objs.size = none := I.hok.fresh (Nat.le_refl _)
  refine call_few (P := X.prog) (w := X.w) (ks := ks) (I.ok.hd hc) pl.isList (by simpa using refs_of_vals rv) (fun p hp => I.isT (hk p hp)) hd (by omega) fun h' tk L R g1 g2 k => ?_
  exact ⟨.ref s.heap.objs.size, upd H s.heap.objs.size (SetTO X.prog X.w s.heap.objs.size L), I.laid (t' := tk) k (Nat.le_refl _) (setTO_new R), rfl, q _ L hn g1 g2⟩
end
end Py

namespace Py
open PySem PySem.Spec PyProof.Rows L2 PySem.W PySem.SeqAt
def b2z (b : Bool) : Int := if b = true then 1 else 0
def numV : Value → Option Int
  | .int i _ => some i
  | .bool b => some (b2z b)
  | _ => none
def numsV : List Value → Option (List Int)
  | [] => some []
  | v :: vs => match numV v, numsV vs with
    | some i, some l => some (i :: l)
    | _, _ => none
theorem numV_cases {v : Value} {i : Int} (h : numV v = some i) : (∃ t, v = .int i t) ∨ ∃ b, v = .bool b ∧ i = b2z b := by
  cases v with
  | int j t => exact .inl ⟨t, by rw [show i = j from (Option.some.inj h).symm]⟩
  | bool b => exact .inr ⟨b, rfl, (Option.some.inj h).symm⟩
  | _ => cases h
theorem numsV_cons {v : Value} {vs : List Value} {ks : List Int} (h : numsV (v :: vs) = some ks) : ∃ i l, ks = i :: l ∧ numV v = some i ∧ numsV vs = some l := by
  unfold numsV at h
  cases e : numV v with
  | none => rw [e] at h; cases h
  | some i =>
    cases e2 : numsV vs with
    | none => rw [e, e2] at h; cases h
    | some l => rw [e, e2] at h; exact ⟨i, l, (Option.some.inj h).symm, rfl, rfl⟩
theorem numsV_len : ∀ {vs : List Value} {ks : List Int}, numsV vs = some ks → vs.length = ks.length
  | [], ks, h => by cases h; rfl
  | v :: vs, ks, h => by
    obtain ⟨i, l, rfl, _, h2⟩ := numsV_cons h
    rw [List.length_cons, List.length_cons, numsV_len h2]
theorem numsV_at : ∀ {vs : List Value} {ks : List Int}, numsV vs = some ks → ∀ (j : Nat) (h : j < vs.length), numV vs[j] = some (ks.getD j 0)
  | [], _, _, j, hj => absurd hj (Nat.not_lt_zero _)
  | v :: vs, ks, h, j, hj => by
    obtain ⟨i, l, rfl, h1, h2⟩ := numsV_cons h
    cases j with
    | zero => exact h1
    | succ j => exact numsV_at h2 j (Nat.lt_of_succ_lt_succ hj)
section
variable {A : Around} {s : Shared}
theorem gives_lt_bi (p : Bool) (j : Int) (t : Tok) : Gives (Builtin.«int.__lt__» ⟨[.bool p, .int j t], []⟩) (.val (Value.bool (decide (b2z p < j)))) := by
  refine .of_wp fun M A E s Q h => ?_
  cases s
  wp_walk
  exact ⟨_, rfl, h⟩
theorem gives_gt_bi (p : Bool) (j : Int) (t : Tok) : Gives (Builtin.«int.__gt__» ⟨[.bool p, .int j t], []⟩) (.val (Value.bool (decide (j < b2z p)))) := by
  refine .of_wp fun M A E s Q h => ?_
  cases s
  wp_walk
  exact ⟨_, rfl, h⟩
theorem eq_num {u v : Value} {i j : Int} (hu : numV u = some i) (hv : numV v = some j) : SeqAt.EqAt A s u v (decide (i = j)) := by
  rcases numV_cases hu with ⟨t, rfl⟩ | ⟨p, rfl, rfl⟩
  · rcases numV_cases hv with ⟨t', rfl⟩ | ⟨q, rfl, rfl⟩
    · exact SeqAt.EqAt.int_int i t j t'
    · exact SeqAt.EqAt.int_bool i t q
  · rcases numV_cases hv with ⟨t', rfl⟩ | ⟨q, rfl, rfl⟩
    · exact SeqAt.EqAt.bool_int p j t'
    · have e : decide (b2z p = b2z q) = (p == q) := by cases p <;> cases q <;> rfl
      rw [e]
      exact SeqAt.EqAt.bool_bool p q
theorem rl_num {u v : Value} {i j : Int} (hu : numV u = some i) (hv : numV v = some j) : RcLt A s u v (decide (i < j)) := by
  intro prog w E Q h
  rcases numV_cases hu with ⟨t, rfl⟩ | ⟨p, rfl, rfl⟩
  · rcases numV_cases hv with ⟨t', rfl⟩ | ⟨q, rfl, rfl⟩
    · exact PyProof.Rows.lt_int h
    · exact SeqAt.rc_sub_first_or (op := .Lt) (typeIs_int s i t) (typeIs_bool' s q) (by decide) F.sub_bool_int F.slot_bool_gt (call_gives F.slot_bool_gt (typeIs_bool' s q) F.entry_int_gt (F.args_int_gt_2 _ _) (gives_gt_bi q i t) ⟨nofun, h⟩) (.inl rfl)
  · rcases numV_cases hv with ⟨t', rfl⟩ | ⟨q, rfl, rfl⟩
    · exact SeqAt.rc_left_or (op := .Lt) (typeIs_bool' s p) (typeIs_int s j t') (by decide) F.sub_int_bool F.slot_bool_lt (call_gives F.slot_bool_lt (typeIs_bool' s p) F.entry_int_lt (F.args_int_lt_2 _ _) (gives_lt_bi p j t') ⟨nofun, h⟩) (.inl rfl)
    · exact lt_bool h
theorem fl_num : ∀ ks ls : List Int, firstLt (fun j => decide (ks.getD j 0 = ls.getD j 0)) (fun j => decide (ks.getD j 0 < ls.getD j 0)) (decide (ks.length < ls.length)) (List.range (min ks.length ls.length)) = decide (ks < ls)
  | [], [] => rfl
  | [], l :: ls => by
    show true = decide ([] < l :: ls)
    exact (decide_eq_true (List.nil_lt_cons _ _)).symm
  | k :: ks, [] => by
    show false = decide (k :: ks < [])
    exact (decide_eq_false (List.not_lt_nil _)).symm
  | k :: ks, l :: ls => by
    have e : min (k :: ks).length (l :: ls).length = min ks.length ls.length + 1 := by
      rw [List.length_cons, List.length_cons]; omega
    rw [e, List.range_succ_eq_map]
    unfold firstLt
    show (if decide (k = l) = true then firstLt _ _ _ _ else decide (k < l)) = _
    by_cases h : k = l
    · rw [if_pos (decide_eq_true h), firstLt_map]
      have ih := fl_num ks ls
      have e2 : decide ((k :: ks).length < (l :: ls).length) = decide (ks.length < ls.length) := by
        rw [List.length_cons, List.length_cons]
        exact decide_eq_decide.mpr (by omega)
      rw [e2]
      refine Eq.trans ih (decide_eq_decide.mpr ?_)
      rw [List.cons_lt_cons_iff]
      constructor
      · intro q; exact .inr ⟨h, q⟩
      · rintro (q | ⟨_, q⟩)
        · exact absurd q (by omega)
        · exact q
    · rw [if_neg (by simpa using h)]
      refine decide_eq_decide.mpr ?_
      rw [List.cons_lt_cons_iff]
      constructor
      · exact .inl
      · rintro (q | ⟨q, _⟩)
        · exact q
        · exact absurd q h
/-- a tuple of numbers -/
structure RowIs (h : Heap) (v : Value) (ks : List Int) : Prop where
  ex : ∃ a us, v = .ref a ∧ h.IsTuple a us ∧ numsV us.toList = some ks
theorem RowIs.keeps {h h' : Heap} {v : Value} {ks : List Int} (r : RowIs h v ks) (k : ∀ b o, h.get? b = some o → o.cls = .type "tuple" → h'.get? b = some o) : RowIs h' v ks := by
  obtain ⟨a, us, e, ⟨o, ho, hc, q⟩, n⟩ := r.ex
  exact ⟨a, us, e, ⟨o, k a o ho hc, hc, q⟩, n⟩
def keyV (h : Heap) : Value → List Int
  | .ref a => match h.get? a with
    | some o => match o.data with
      | .seq us _ => (numsV us.toList).getD []
      | _ => []
    | none => []
  | _ => []
theorem RowIs.key {h : Heap} {v : Value} {ks : List Int} (r : RowIs h v ks) : keyV h v = ks := by
  obtain ⟨a, us, rfl, ⟨o, ho, hc, n, hd⟩, e⟩ := r.ex
  show (match h.get? a with | some o => _ | none => _) = ks
  rw [ho]
  show (match o.data with | .seq us _ => (numsV us.toList).getD [] | _ => []) = ks
  rw [hd]
  show (numsV us.toList).getD [] = ks
  rw [e]
  rfl
theorem rl_rows {u v : Value} {ks ls : List Int} (hu : RowIs s.heap u ks) (hv : RowIs s.heap v ls) (hc : A.units < cLine) : RcLt A s u v (decide (ks < ls)) := by
  obtain ⟨a, us, rfl, ta, na⟩ := hu.ex
  obtain ⟨b, ws, rfl, tb, nb⟩ := hv.ex
  have la := numsV_len na
  have lb := numsV_len nb
  rw [Array.length_toList] at la lb
  have q := RcLt.tuples (s := s) (e := fun j => decide (ks.getD j 0 = ls.getD j 0)) (r := fun j => decide (ks.getD j 0 < ls.getD j 0)) ta tb hc (fun j h1 h2 => ?_) (fun j h1 h2 _ => ?_)
  · rw [la, lb, fl_num] at q
    exact q
  · have e1 := numsV_at na j (by rw [Array.length_toList]; exact h1)
    have e2 := numsV_at nb j (by rw [Array.length_toList]; exact h2)
    rw [Array.getElem_toList] at e1 e2
    exact eq_num e1 e2
  · have e1 := numsV_at na j (by rw [Array.length_toList]; exact h1)
    have e2 := numsV_at nb j (by rw [Array.length_toList]; exact h2)
    rw [Array.getElem_toList] at e1 e2
    exact rl_num e1 e2
end
section
variable {prog : Program} {w : World} {A : Around} {E : Value → Shared → Prop} {s : Shared}
def isB : Value → Bool
  | .bool _ => true
  | _ => false
theorem one_num {f : Bool} {u v : Value} {i j : Int} {Q : Bool → Shared → Prop} (hf : f = true → isB u = isB v) (hu : numV u = some i) (hv : numV v = some j) (hq : Q (decide (i < j)) s) : wpAny (model prog w) A (oneLt' f u v) Q E s := by
  cases f with
  | false =>
    rw [oneLt'_eq]
    simp only [Bool.false_eq_true, if_false]
    exact wpAny_bind (rl_num hu hv prog w E _ (wpAny_truthy_bool hq))
  | true =>
    have hk := hf rfl
    rcases numV_cases hu with ⟨t, rfl⟩ | ⟨p, rfl, rfl⟩
    · rcases numV_cases hv with ⟨t', rfl⟩ | ⟨q, rfl, rfl⟩
      · exact oneLt_int hq
      · cases hk
    · rcases numV_cases hv with ⟨t', rfl⟩ | ⟨q, rfl, rfl⟩
      · cases hk
      · exact oneLt_bool hq
theorem kat_num {b fin : Bool} {Q : Bool → Shared → Prop} : ∀ (us ws : List Value) (ks ls : List Int) (i : Nat), numsV us = some ks → numsV ws = some ls → (b = true → i = 0 → ∀ u l z m, us = u :: l → ws = z :: m → isB u = isB z) → fin = decide (ks.length < ls.length) → Q (decide (ks < ls)) s → KatLex prog w A b fin Q (us.zip ws) i s
  | [], [], ks, ls, i, hu, hw, _, hf, hq => by
    cases hu
    cases hw
    subst hf
    exact kat_nil hq
  | [], z :: ws, ks, ls, i, hu, hw, _, hf, hq => by
    cases hu
    obtain ⟨j, l, rfl, _, _⟩ := numsV_cons hw
    subst hf
    rw [decide_eq_true (List.nil_lt_cons j l)] at hq
    exact kat_nil hq
  | u :: us, [], ks, ls, i, hu, hw, _, hf, hq => by
    cases hw
    obtain ⟨j, l, rfl, _, _⟩ := numsV_cons hu
    subst hf
    rw [decide_eq_false (List.not_lt_nil _)] at hq
    exact kat_nil hq
  | u :: us, z :: ws, ks, ls, i, hu, hw, hb, hf, hq => by
    obtain ⟨k, ks, rfl, hu1, hu2⟩ := numsV_cons hu
    obtain ⟨l, ls, rfl, hw1, hw2⟩ := numsV_cons hw
    have hf' : fin = decide (ks.length < ls.length) := by
      rw [hf, List.length_cons, List.length_cons]
      exact decide_eq_decide.mpr (by omega)
    rw [List.zip_cons_cons]
    refine kat_cons (eq_num hu1 hw1 prog w _ _ ?_)
    by_cases h : k = l
    · rw [decide_eq_true h]
      have e : decide (k :: ks < l :: ls) = decide (ks < ls) := by
        refine decide_eq_decide.mpr ?_
        rw [List.cons_lt_cons_iff]
        exact ⟨fun q => q.elim (fun q => absurd q (by omega)) (·.2), fun q => .inr ⟨h, q⟩⟩
      rw [e] at hq
      exact kat_yes (kat_num us ws ks ls (i + 1) hu2 hw2 (fun _ q => absurd q (Nat.succ_ne_zero i)) hf' hq)
    · rw [decide_eq_false h]
      have e : decide (k :: ks < l :: ls) = decide (k < l) := by
        refine decide_eq_decide.mpr ?_
        rw [List.cons_lt_cons_iff]
        exact ⟨fun q => q.elim id (fun q => absurd q.1 h), .inl⟩
      rw [e] at hq
      refine kat_no (one_num (fun hbi => ?_) hu1 hw1 hq)
      rw [Bool.and_eq_true] at hbi
      exact hb hbi.1 (by simpa using hbi.2) u us z ws rfl rfl
def tyV (v : Value) : Value := if isB v then .type "bool" else .type "int"
theorem typeOf_num {v : Value} {i : Int} (h : numV v = some i) : (typeOf v : Sem Value) = pure (tyV v) := by
  rcases numV_cases h with ⟨t, rfl⟩ | ⟨b, rfl, _⟩
  · rfl
  · rfl
theorem types_num : ∀ {vs : List Value}, (∀ v ∈ vs, ∃ i, numV v = some i) → (vs.mapM typeOf : Sem (List Value)) = pure (vs.map tyV)
  | [], _ => by rw [List.mapM_nil]; rfl
  | v :: vs, h => by
    obtain ⟨i, hi⟩ := h v List.mem_cons_self
    rw [List.mapM_cons, typeOf_num hi, types_num fun u hu => h u (List.mem_cons_of_mem _ hu)]
    simp only [pure_bind]
    rfl
theorem ty_same {u v : Value} (h : (tyV u == tyV v) = true) : isB u = isB v := by
  unfold tyV at h
  cases e1 : isB u <;> cases e2 : isB v <;> rw [e1, e2] at h <;> first | rfl | (revert h; decide)
theorem kind_num {vs fs : List Value} (t : KatTups s.heap vs fs) (hne : 0 < fs.length) (hn : ∀ f ∈ fs, ∃ i, numV f = some i) : ∃ b, (b = true → ∀ f ∈ fs, ∀ g ∈ fs, isB f = isB g) ∧ ∀ (Q : SortKind → Shared → Prop) (E : Value → Shared → Prop), Q (tuples' b) s → wpAny (model prog w) A (keyKind' vs.toArray) Q E s := by
  obtain ⟨f, fr, rfl⟩ : ∃ f fr, fs = f :: fr := by
    cases fs with
    | nil => exact absurd hne (Nat.lt_irrefl _)
    | cons f fr => exact ⟨f, fr, rfl⟩
  have ot : oneTypeOnly' (f :: fr).toArray = pure (if ((f :: fr).map tyV).toArray.all (fun x => x == tyV f) then some (tyV f) else none) := by
    rw [oneTypeOnly'_eq, List.mapM_toArray, types_num hn]
    simp only [map_pure, pure_bind]
    have h0 : ((f :: fr).map tyV).toArray[0]? = some (tyV f) := by simp
    rw [h0]
  refine ⟨(if ((f :: fr).map tyV).toArray.all (fun x => x == tyV f) then some (tyV f) else none).any (· != .type "tuple"), fun hb g hg g' hg' => ?_, fun Q E h => ?_⟩
  · by_cases c : ((f :: fr).map tyV).toArray.all (fun x => x == tyV f) = true
    · simp only [List.all_toArray, List.all_map, List.all_eq_true] at c
      rw [ty_same (c g hg), ty_same (c g' hg')]
    · rw [if_neg c] at hb
      cases hb
  · rw [kat_kind_eq, List.mapM_toArray, map_eq_pure_bind]
    refine wpAny_bind (wpAny_bind (kat_firsts vs _ t (wpAny_pure ?_)))
    have ha : (((f :: fr).map some).toArray.all fun x => x.isSome) = true := by simp
    have hm : (((f :: fr).map some).toArray.filterMap id) = (f :: fr).toArray := by simp
    rw [if_pos ha]
    refine wpAny_bind (wpAny_rule ?_)
    rw [hm, ot]
    exact wpAny_bind (wpAny_pure (wpAny_pure h))
theorem firsts_num {h : Heap} : ∀ {vs : List Value} {k : Value → List Int}, (∀ v ∈ vs, RowIs h v (k v) ∧ k v ≠ []) → ∃ fs, KatTups h vs fs ∧ fs.length = vs.length ∧ (∀ f ∈ fs, ∃ i, numV f = some i) ∧ ∀ v ∈ vs, ∀ a us, v = .ref a → h.IsTuple a us → ∃ f ∈ fs, us[0]? = some f
  | [], _, _ => ⟨[], KatTups.nil, rfl, fun f hf => (by cases hf), fun v hv => (by cases hv)⟩
  | v :: vs, k, hv => by
    obtain ⟨fs, f1, f2, f3, f4⟩ := firsts_num fun u hu => hv u (List.mem_cons_of_mem _ hu)
    obtain ⟨r, ne⟩ := hv v List.mem_cons_self
    obtain ⟨a, us, rfl, ⟨o, ho, hc, n, hd⟩, e⟩ := r.ex
    obtain ⟨us⟩ := us
    cases us with
    | nil => exact absurd (Option.some.inj e).symm ne
    | cons u us =>
      obtain ⟨i, l, _, e1, _⟩ := numsV_cons e
      refine ⟨u :: fs, KatTups.cons ho hc hd rfl f1, by rw [List.length_cons, List.length_cons, f2], fun f hf => ?_, fun v' hv' a' us' ev ht => ?_⟩
      · rcases List.mem_cons.mp hf with rfl | hf
        · exact ⟨i, e1⟩
        · exact f3 f hf
      · rcases List.mem_cons.mp hv' with rfl | hv'
        · cases ev
          obtain ⟨o', ho', _, n', hd'⟩ := ht
          rw [ho] at ho'
          cases ho'
          rw [hd] at hd'
          cases hd'
          exact ⟨u, List.mem_cons_self, rfl⟩
        · obtain ⟨f, hf, q⟩ := f4 v' hv' a' us' ev ht
          exact ⟨f, List.mem_cons_of_mem _ hf, q⟩
theorem swo_rows (k : Value → List Int) : SrtO.Swo fun v u => decide (k v < k u) := by
  refine ⟨fun x y h => ?_, fun x y z h1 h2 => ?_⟩
  · exact decide_eq_false fun h' => absurd (List.lt_trans (of_decide_eq_true h) h') (List.lt_irrefl _)
  · have a : ¬ k y < k x := of_decide_eq_false h1
    have b : ¬ k z < k y := of_decide_eq_false h2
    exact decide_eq_false fun c => absurd c (List.not_lt.mpr (List.le_trans (List.not_lt.mp a) (List.not_lt.mp b)))
theorem rows_sortable {a : Addr} {vs : List Value} {k : Value → List Int} (h0 : 0 < vs.length) (hk : ∀ v ∈ vs, RowIs s.heap v (k v) ∧ k v ≠ []) (ha : ∀ o, s.heap.get? a = some o → o.cls ≠ .type "tuple") : SrtO.SortableO prog w A s a vs fun v u => decide (k v < k u) := by
  intro h' keep
  have hk' : ∀ v ∈ vs, RowIs h' v (k v) ∧ k v ≠ [] := fun v hv => ⟨(hk v hv).1.keeps fun b o e c => keep b o (fun z => by subst z; exact ha o e c) e, (hk v hv).2⟩
  obtain ⟨fs, f1, f2, f3, f4⟩ := firsts_num hk'
  obtain ⟨b, b1, b2⟩ := kind_num (prog := prog) (w := w) (A := A) (s := { s with heap := h' }) f1 (by omega) f3
  refine ⟨tuples' b, b2, fun p q hp hq => ?_⟩
  obtain ⟨x, us, ep, tp, np⟩ := (hk' _ hp).1.ex
  obtain ⟨y, ws, eq, tq, nq⟩ := (hk' _ hq).1.ex
  show wpAny (model prog w) A (keyLt' (tuples' b) p.1 q.1) (fun r s' => s' = { s with heap := h' } ∧ r = decide (k p.1 < k q.1)) (fun _ _ => False) { s with heap := h' }
  rw [show k p.1 = k (.ref x) by rw [ep], show k q.1 = k (.ref y) by rw [eq]] 
  have np' : numsV us.toList = some (k (.ref x)) := by rw [← ep]; exact np
  have nq' : numsV ws.toList = some (k (.ref y)) := by rw [← eq]; exact nq
  have mp : Value.ref x ∈ vs := by rw [← ep]; exact hp
  have mq : Value.ref y ∈ vs := by rw [← eq]; exact hq
  obtain ⟨u0, hu0, u1⟩ := f4 _ mp x us rfl tp
  obtain ⟨w0, hw0, w1⟩ := f4 _ mq y ws rfl tq
  obtain ⟨o, ho, _, n, hd⟩ := tp
  obtain ⟨o', ho', _, n', hd'⟩ := tq
  rw [ep, eq]
  refine kat_lt ho hd ho' hd' (kat_num us.toList ws.toList _ _ 0 np' nq' (fun hb _ u l w m e1 e2 => ?_) ?_ ⟨rfl, rfl⟩)
  · have q1 : u = u0 := by
      have : us.toList[0]? = some u0 := by rw [Array.getElem?_toList]; exact u1
      rw [e1] at this
      exact Option.some.inj this
    have q2 : w = w0 := by
      have : ws.toList[0]? = some w0 := by rw [Array.getElem?_toList]; exact w1
      rw [e2] at this
      exact Option.some.inj this
    rw [q1, q2]
    exact b1 hb _ hu0 _ hw0
  · have l1 := numsV_len np'
    have l2 := numsV_len nq'
    rw [Array.length_toList] at l1 l2
    rw [l1, l2]
/-- sorted(l) of rows of numbers: by k, equal ones in their order -/
theorem sorted_rowsN {l : Addr} {vs : List Value} {k : Value → List Int} {Q : Value → Shared → Prop} (hl : s.heap.IsList l vs.toArray) (hz : vs.length ≤ sizeLine) (hk : ∀ v ∈ vs, RowIs s.heap v (k v) ∧ k v ≠ [])
    (h : ∀ out : List Value, SrtO.Srtd (fun v u => decide (k v < k u)) out → SrtO.Stb (fun v u => decide (k v < k u)) out vs → Q (.ref (s.heap.objs.size + 1)) { s with heap := sortedAll s.heap vs out.toArray }) :
    wpAny (model prog w) A (call (.builtin "sorted") [.ref l]) Q E s := by
  refine SrtO.sorted_ord (swo_rows k) hl hz (fun h2 h1 a ha kk => ?_) h
  refine rows_sortable (s := { s with heap := h1 }) (by omega) (fun v hv => ⟨(hk v hv).1.keeps fun b o e _ => (kk b o e).2, (hk v hv).2⟩) fun o e c => ?_
  have e' := e.symm.trans ha
  cases e'
  have c' : Value.type "list" = Value.type "tuple" := c
  exact absurd (Value.type.inj c') (by decide)
/-- mergeSort is stable -/
theorem stb_merge (k : Value → List Int) (vs : List Value) : SrtO.Srtd (fun v u => decide (k v < k u)) (vs.mergeSort fun v u => !decide (k u < k v)) ∧ SrtO.Stb (fun v u => decide (k v < k u)) (vs.mergeSort fun v u => !decide (k u < k v)) vs := by
  have tr : ∀ a b c : Value, (!decide (k b < k a)) = true → (!decide (k c < k b)) = true → (!decide (k c < k a)) = true := fun a b c h1 h2 => by
    simp only [Bool.not_eq_true', decide_eq_false_iff_not] at *
    exact List.not_lt.mpr (List.le_trans (List.not_lt.mp h1) (List.not_lt.mp h2))
  have to : ∀ a b : Value, ((!decide (k b < k a)) || !decide (k a < k b)) = true := fun a b => by
    by_cases h : k b < k a
    · rw [decide_eq_false (p := k a < k b) fun h' => absurd (List.lt_trans h h') (List.lt_irrefl _)]
      exact Bool.or_true _
    · rw [decide_eq_false h]
      rfl
  have pm := List.mergeSort_perm vs fun v u => !decide (k u < k v)
  refine ⟨?_, pm, fun x => ?_⟩
  · have := List.pairwise_mergeSort (le := fun v u => !decide (k u < k v)) tr to vs
    exact this.imp fun h => by simpa using h
  · have pw : (vs.filter (SrtO.eqv (fun v u => decide (k v < k u)) x)).Pairwise fun v u => (!decide (k u < k v)) = true := by
      rw [List.pairwise_filter]
      refine List.pairwise_of_forall fun a b ha hb => ?_
      obtain ⟨a1, a2⟩ := SrtO.eqv_iff.mp ha
      obtain ⟨b1, b2⟩ := SrtO.eqv_iff.mp hb
      exact tr a x b (by rw [a1]; rfl) (by rw [b2]; rfl)
    have sub := List.sublist_mergeSort tr to pw List.filter_sublist
    have s2 := sub.filter (SrtO.eqv (fun v u => decide (k v < k u)) x)
    rw [List.filter_filter] at s2
    simp only [Bool.and_self] at s2
    exact (s2.eq_of_length (((pm.filter _).length_eq).symm)).symm
theorem rows_out {k : Value → List Int} {out vs : List Value} (h1 : SrtO.Srtd (fun v u => decide (k v < k u)) out) (h2 : SrtO.Stb (fun v u => decide (k v < k u)) out vs) : out = vs.mergeSort fun v u => !decide (k u < k v) := by
  obtain ⟨m1, m2⟩ := stb_merge k vs
  exact SrtO.stb_uniq (swo_rows k) h1 m1 ⟨h2.perm.trans m2.perm.symm, fun x => (h2.cls x).trans (m2.cls x).symm⟩
end
end Py

namespace Py
open PySem PySem.Spec PyProof.Rows L2
section
variable {X : Cx} {Ct : CXT} {k : Nat} {g C : Addr} {gd : FuncData} {qs : List Str} {sp : Sp} {Ex0 : L2.St → XK} {m x : Str} {ap cp xp : Pos} {o b : Expr} {bs : List Expr} {to : TE} {tb : TA}
def tMethQ (K : PySem.W.Frag) (m : Str) (g : Addr) (sp : Sp) (Ex0 : L2.St → XK) (to : TE) (tb : TA) : TE := fun σ H Q =>
  to σ H fun v H1 => ∃ a C dx fs, v = .ref a ∧ H1 a = some (.ins C dx fs) ∧ Cls K C ∧ Meth K C m g ∧ fs.lookup m = none ∧ tb σ H1 fun vs H2 => sp (v :: vs) H2 Q (Ex0 σ)
theorem pe_methQ {pl : Sem Bool} (ho : PE X o to) (F : FnOk X.prog X.w X.K X.mg X.base Ct k g gd qs sp) (room : Room k X.A) (bnd : Binds X.K gd qs []) (pas : ∀ σ, PassesAt Ct X σ (Ex0 σ)) (hb : PA X (b :: bs) tb)
    (st : starEach (b :: bs) X.env = (false, eval b X.env) :: starEach bs X.env) (np : (backTo cp (starEach bs X.env)).any (·.1) = false)
    (way : eval (.Call (.Attribute o m ap) (b :: bs) [] cp) X.env = (do
      let u ← eval o X.env
      standAt ap.atName
      let (fn, one) ← holding [u] (getMethod u m pl)
      callWith cp fn one (backTo cp (starEach (b :: bs) X.env)) (backToKw cp (keywordEach [] X.env)))) :
    PE X (.Call (.Attribute o m ap) (b :: bs) [] cp) (tMethQ X.K m g sp Ex0 to tb) := by
  refine ⟨fun pins s σ H Q I hq => ?_⟩
  refine PySem.W.methodCall_KW (pl := pl) (thn (ho.run pins s σ H _ I hq) fun u s1 ⟨v, H1, I1, rv, a, C, dx, fs, hv, ha, hc, hm, hl, hk⟩ => ?_) way
  subst hv
  obtain rfl : u = Value.ref a := rv
  refine getmeth_ok I1 ha hc hm hl ?_
  refine PySem.W.callWith_K (first := [.ref a]) (h₀ := X.base) I.ok.mod.kin hm.kp ?_ st np
  exact thn (hb.run cp pins s1 σ H1 _ I1 hk) fun us s2 ⟨vs, H2, I2, rs, hz⟩ => ⟨I2.kIn, run_fnS (us := .ref a :: us) (vs := .ref a :: vs) F room bnd (pas σ) I2 (.cons rfl rs) hz⟩
theorem pe_methQ0 {pl : Sem Bool} (ho : PE X o to) (F : FnOk X.prog X.w X.K X.mg X.base Ct k g gd qs sp) (room : Room k X.A) (bnd : Binds X.K gd qs []) (pas : ∀ σ, PassesAt Ct X σ (Ex0 σ))
    (way : eval (.Call (.Attribute o m ap) [] [] cp) X.env = (do
      let u ← eval o X.env
      standAt ap.atName
      let (fn, one) ← holding [u] (getMethod u m pl)
      callWith cp fn one (backTo cp (starEach [] X.env)) (backToKw cp (keywordEach [] X.env)))) :
    PE X (.Call (.Attribute o m ap) [] [] cp) (tMethQ X.K m g sp Ex0 to tNil) := by
  refine ⟨fun pins s σ H Q I hq => ?_⟩
  refine PySem.W.methodCall_KW (pl := pl) (thn (ho.run pins s σ H _ I hq) fun u s1 ⟨v, H1, I1, rv, a, C, dx, fs, hv, ha, hc, hm, hl, hk⟩ => ?_) way
  subst hv
  obtain rfl : u = Value.ref a := rv
  refine getmeth_ok I1 ha hc hm hl ?_
  exact PySem.W.callWith_K0 (first := [.ref a]) I1.kIn hm.kp (run_fnS (us := [.ref a]) (vs := [.ref a]) F room bnd (pas σ) I1 (.cons rfl .nil) hk)
/-- C(..) -/
def tMakeQ (C : Addr) (sp : Sp) (Ex0 : L2.St → XK) (tb : TA) : TE := fun σ H Q => tb σ H fun vs H1 => ∀ a dx, H1 a = none → H1 dx = none → dx ≠ a →
  sp (.ref a :: vs) (upd (upd H1 dx (.own a)) a (.ins C dx [])) (fun v H2 => v = .non ∧ Q (.ref a) H2) (Ex0 σ)
theorem run_makeQ {pins : List (Addr × Obj)} {σ : L2.St} {H : Hp} {s : Shared} {Q : VK} {us : List Value} {vs : List V} (M : Mk X.K C g) (F : FnOk X.prog X.w X.K X.mg X.base Ct k g gd qs sp) (room : Room (k + 1) X.A) (bnd : Binds X.K gd qs [])
    {Ef : XK} (pas : PassesAt Ct X σ Ef) (I : Inv X pins σ H s) (rs : Vals vs us)
    (hq : ∀ a dx, H a = none → H dx = none → dx ≠ a → sp (.ref a :: vs) (upd (upd H dx (.own a)) a (.ins C dx [])) (fun v H2 => v = .non ∧ Q (.ref a) H2) Ef) :
    wpAny (model X.prog X.w) X.A (call (.ref C) us) (EP X pins σ Q) X.xe s := by
  obtain ⟨n, hn⟩ : ∃ n, n = s.heap.objs.size := ⟨_, rfl⟩
  have z := hq (n + 1) n (hn ▸ I.hok.fresh (Nat.le_succ _)) (hn ▸ I.hok.fresh (Nat.le_refl _)) (Nat.ne_of_lt (Nat.lt_succ_self _))
  have J := Inv.made (C := C) I
  subst hn
  have r2 : Vals (V.ref (s.heap.objs.size + 1) :: vs) (Value.ref (s.heap.objs.size + 1) :: us) := .cons rfl rs
  have ln : (Value.ref (s.heap.objs.size + 1) :: us).length = qs.length := by rw [← r2.length]; exact F.len _ _ _ _ z
  have bd := bnd _ (Value.ref (s.heap.objs.size + 1) :: us) J.kIn (by rw [List.append_nil]; exact ln)
  rw [List.append_nil] at bd
  refine wpAny_call (make_map (f := g) I.kIn M.makes M.init (beq_iff_eq.mp M.fn) ?_)
  refine codeAny_mono (F.run _ X.stack _ _ ⟨Value.ref (s.heap.objs.size + 1) :: us, []⟩ _ _ _ Ef (room.make C us []) (J.env0.make C us []) bd r2 z) fun r s' hr => ?_
  cases r with
  | error e => exact pas pins _ _ e s' J hr
  | ok fl =>
    cases fl with
    | next => exact hr.elim
    | brk => exact hr.elim
    | cont => exact hr.elim
    | ret u =>
      obtain ⟨v, H', J', rv, ev, hz⟩ := J.after hr
      subst ev
      exact ⟨rv, ⟨.ref (s.heap.objs.size + 1), H', J', rfl, hz⟩⟩
theorem pe_makeQ (M : Mk X.K C g) (F : FnOk X.prog X.w X.K X.mg X.base Ct k g gd qs sp) (room : Room (k + 1) X.A) (hg : Gl X x) (hm : X.mg x = some (.ref C)) (bnd : Binds X.K gd qs []) (pas : ∀ σ, PassesAt Ct X σ (Ex0 σ))
    (hb : PA X (b :: bs) tb) (hx : (x == ("__debug__" : Str)) = false) (st : starEach (b :: bs) X.env = (false, eval b X.env) :: starEach bs X.env) (np : (backTo cp (starEach bs X.env)).any (·.1) = false) :
    PE X (.Call (.Name x xp) (b :: bs) [] cp) (tMakeQ C sp Ex0 tb) := by
  refine ⟨fun pins s σ H Q I hq => ?_⟩
  refine wpAny_Call_Name_kw (ld_glob I hg hm ?_ hx)
  refine PySem.W.callWith_K (h₀ := X.base) I.ok.mod.kin M.kp ?_ st np
  exact thn (hb.run cp pins s σ H _ I hq) fun us s1 ⟨vs, H1, I1, rs, hz⟩ => ⟨I1.kIn, run_makeQ M F room bnd (pas σ) I1 rs hz⟩
theorem pe_makeQ0 (M : Mk X.K C g) (F : FnOk X.prog X.w X.K X.mg X.base Ct k g gd qs sp) (room : Room (k + 1) X.A) (hg : Gl X x) (hm : X.mg x = some (.ref C)) (bnd : Binds X.K gd qs []) (pas : ∀ σ, PassesAt Ct X σ (Ex0 σ))
    (hx : (x == ("__debug__" : Str)) = false) : PE X (.Call (.Name x xp) [] [] cp) (tMakeQ C sp Ex0 tNil) := by
  refine ⟨fun pins s σ H Q I hq => ?_⟩
  refine wpAny_Call_Name_kw (ld_glob I hg hm ?_ hx)
  exact PySem.W.callWith_K0 I.kIn M.kp (run_makeQ (us := []) M F room bnd (pas σ) I .nil hq)
end
end Py

namespace Py
open PySem PySem.Spec PyProof.Rows L2
def btOf (mx : Bool) (f : Nat → Int) : Nat → Nat → Bool := fun i j => if mx then decide (f i > f j) else decide (f i < f j)
theorem no_way {P : Program} {w : World} {outer : List PySem.Env} {H : Hp} {s s' : Shared} {e : Value} (h : L2.CX P w outer H s (fun _ _ _ => False) e s') : False := by
  obtain ⟨_, _, _, _, _, _, _, _, _, _, _, _, z⟩ := h
  exact z
section
variable {X : Cx} {k : Nat} {g : Addr} {gd : FuncData} {qs : List Str} {sp : Sp} {pins : List (Addr × Obj)} {σ : L2.St} {H : Hp} {s : Shared} {l q a : Addr} {xs : List V} {f : Nat → Int} {Q : VK}
theorem refs_same : ∀ {xs : List V} {us ws : List Value}, (∀ x ∈ xs, ∃ b, x = V.ref b) → Vals xs us → Vals xs ws → us = ws
  | [], _, _, _, .nil, .nil => rfl
  | x :: xs, _, _, hr, .cons r t, .cons r2 t2 => by
    obtain ⟨b, rfl⟩ := hr x (List.mem_cons_self ..)
    cases r
    cases r2
    rw [refs_same (fun y hy => hr y (List.mem_cons_of_mem _ hy)) t t2]
theorem vals_at : ∀ {xs : List V} {us : List Value} {i : Nat} {u : Value}, Vals xs us → us[i]? = some u → ∃ x, xs[i]? = some x ∧ RelV x u
  | _, _, _, _, .nil, e => by simp at e
  | x :: _, _, 0, u, .cons r _, e => by
    simp at e
    subst e
    exact ⟨x, rfl, r⟩
  | _ :: _, _, i + 1, u, .cons _ t, e => by
    obtain ⟨x, h1, h2⟩ := vals_at (i := i) t (by simpa using e)
    exact ⟨x, by simpa using h1, h2⟩
/-- two things of one's own, new and untracked, have changed -/
theorem Inv.moved2 {s' : Shared} {S I0 : Addr} {H' : Hp} {n0 : Nat} {G : Array GenState → Array GenState → Prop} (J : Inv X pins σ H' s) (hG : ∀ x y, G x y → y = x) (m : Moved [S, I0] G s s') (hS : H' S = none) (hI : H' I0 = none)
    (far : ∀ b ∈ [S, I0], (b ∈ X.ex ∨ X.s_0.heap.objs.size ≤ b) ∧ b ≠ X.env.locals ∧ (∀ x c, X.env.cells.lookup x = some c → c ≠ b) ∧ ∀ p ∈ X.pn ++ pins, p.1 ≠ b) : Inv X pins σ H' s' := by
  have keep : ∀ b o, b ≠ S → b ≠ I0 → s.heap.get? b = some o → s'.heap.get? b = some o := fun b o h1 h2 e => m.heap b o (fun z => by
    rcases List.mem_cons.mp z with z | z
    · exact h1 z
    · exact h2 (List.mem_singleton.mp z)) e
  refine J.call' (ch := [S, I0]) m.os ⟨fun b o e _ _ hx => ?_, fun b o e _ _ hx => ⟨o.slots, ?_⟩, fun _ _ _ n _ => n, fun b o e hx => ⟨o, ?_⟩, fun _ _ e => e, fun _ _ _ e => e, fun _ ps e => ⟨#[], by rw [e]; simp⟩⟩ ?_ ?_ far
  · exact m.heap b o hx e
  · exact m.heap b o hx e
  · exact m.heap b o hx e
  · intro b u e
    refine (J.hok b u e).stay (fun c o hc e2 => ?_) (fun _ h => h) (fun _ _ h => h)
    refine keep c o ?_ ?_ e2
    · rintro rfl
      rcases hc with rfl | hc
      · rw [hS] at e; cases e
      · rw [hS] at hc; cases hc
    · rintro rfl
      rcases hc with rfl | hc
      · rw [hI] at e; cases e
      · rw [hI] at hc; cases hc
  · rw [hG _ _ m.gens]
    exact J.bare
/-- the numbers of the keys, the thing that is found -/
structure KeyW (X : Cx) (sp : Sp) (H : Hp) (l q a g : Addr) (xs : List V) (f : Nat → Int) : Prop where
  l : H l = some (.lst xs)
  q : H q = some (.met g a)
  ne : xs ≠ []
  rf : ∀ x ∈ xs, ∃ b, x = V.ref b
  key : ∀ i v, xs[i]? = some v → ∀ H', (∀ b o, H b = some o → H' b = some o) → sp [.ref a, v] H' (fun u H'' => u = .int (f i) ∧ ∀ b o, H' b = some o → H'' b = some o) (fun _ _ _ => False)
theorem key_run {mx : Bool} {op : CmpOp} (hop : ∀ (i j : Int) (t u : Tok) (s : Shared) (Q : Value → Shared → Prop) (E : Value → Shared → Prop), Q (.bool (if mx then decide (i > j) else decide (i < j))) s → wpAny (model X.prog X.w) X.A.in1 (richCompare op (.int i t) (.int j u)) Q E s)
    (I : Inv X pins σ H s) (W : KeyW X sp H l q a g xs f) (F : FnOk X.prog X.w X.K X.mg X.base (L2.CX X.prog X.w) k g gd qs sp) (room : Room (k + 1) X.A) (bnd : Binds X.K gd qs []) {its : List Value} (rv : Vals xs its) (I0 S : Addr) (h1 : s.heap.objs.size ≤ I0) (h2 : s.heap.objs.size ≤ S) :
    KeyRun X.prog X.w X.A.in1 (.ref q) op S [I0] (fun x y => y = x) its.toArray.size (fun i v => its.toArray[i]? = some v) (fun i s => s.heap.IsListIter I0 l i ∧ s.heap.IsList l its.toArray)
      (fun s' => ∃ H', Inv X pins σ H' s' ∧ (∀ b o, H b = some o → H' b = some o) ∧ H' S = none ∧ H' I0 = none) (fun i v _ => ∃ t, v = .int (f i) t) (btOf mx f) := by
  have far : ∀ b, s.heap.objs.size ≤ b → (b ∈ X.ex ∨ X.s_0.heap.objs.size ≤ b) ∧ b ≠ X.env.locals ∧ (∀ x c, X.env.cells.lookup x = some c → c ≠ b) ∧ ∀ p ∈ X.pn ++ pins, p.1 ≠ b := fun b hb => by
    refine ⟨.inr (Nat.le_trans I.sz hb), fun z => ?_, fun x c hc z => ?_, fun p hp z => ?_⟩
    · have := I.lt
      rw [z] at hb
      exact absurd this (Nat.not_lt.mpr hb)
    · obtain ⟨v, o, ho, _⟩ := I.cell x c hc
      exact absurd (Heap.lt_size ho) (Nat.not_lt.mpr (z ▸ hb))
    · obtain ⟨e, _⟩ := I.pin p hp
      exact absurd (Heap.lt_size e) (Nat.not_lt.mpr (z ▸ hb))
  refine ⟨fun s1 s2 ⟨H', J, e, n1, n2⟩ m => ⟨H', Inv.moved2 (n0 := 0) J (fun _ _ h => h) m n1 n2 fun b hb => ?_, e, n1, n2⟩, fun _ _ _ _ h _ => h, fun i v s1 o Q E hi hv ⟨H', J, e, n1, n2⟩ st hS cont => ?_, fun i j ki kj s1 Q E _ hi hj hq => ?_⟩
  · rcases List.mem_cons.mp hb with rfl | hb
    · exact far _ h2
    · rw [List.mem_singleton.mp hb]
      exact far _ h1
  · have hv : its[i]? = some v := by simpa using hv
    obtain ⟨y, hy, ry⟩ := vals_at rv hv
    have z := W.key i y hy H' e
    have hl2 : ([Value.ref a, v] : List Value).length = qs.length := F.len _ _ _ _ z
    have bd := bnd s1 [Value.ref a, v] J.kIn (by rw [List.append_nil]; exact hl2)
    rw [List.append_nil] at bd
    refine wpAny_call (call_met J (e _ _ W.q) (codeAny_mono (F.run X.A.in1 X.stack s1 H' ⟨[.ref a, v], []⟩ [.ref a, v] [.ref a, y] _ _ room.in1 J.env0.in1 bd (.cons rfl (.cons ry .nil)) z) fun r s2 hr => ?_))
    cases r with
    | error ex => exact (no_way hr).elim
    | ok fl =>
      cases fl with
      | next => exact hr.elim
      | brk => exact hr.elim
      | cont => exact hr.elim
      | ret u =>
        obtain ⟨v2, H2, os2, bare2, un, hok2, rv2, rfl, e2⟩ := hr
        have J2 : Inv X pins σ H2 s2 := J.call' (ch := []) os2 un hok2 bare2 fun b z => by cases z
        obtain ⟨t, rfl⟩ := rv2
        have nfs : ∀ b, s.heap.objs.size ≤ b → b ∉ frs X.stack := fun b hb z => by
          rcases List.mem_cons.mp (I.stkSub b z) with z | z
          · exact (far b hb).2.1 z
          · exact I.nofs hb z
        have same : ∀ b o, s.heap.objs.size ≤ b → H' b = none → s1.heap.get? b = some o → s2.heap.get? b = some o := fun b o hb hn ho => un.keep b o ho hn (nfs b hb) (by simp)
        have none2 : ∀ b o, H' b = none → s1.heap.get? b = some o → H2 b = none := fun b o hn ho => un.free b o ho hn (by simp)
        obtain ⟨oI, hoI, hcI, hdI⟩ := st.1
        refine cont _ s2 ⟨H2, J2, fun b o hb => e2 b o (e b o hb), none2 S o n1 hS, none2 I0 oI n2 hoI⟩ ⟨⟨oI, same I0 oI h1 n2 hoI, hcI, hdI⟩, ?_⟩ (same S o h2 n1 hS) ⟨t, rfl⟩ fun _ _ h => h
        obtain ⟨_, its2, n, r3, e3⟩ := J2.hok l _ (e2 _ _ (e _ _ W.l))
        rw [refs_same W.rf rv r3]
        exact ⟨_, e3, rfl, n, rfl⟩
  · obtain ⟨t, rfl⟩ := hi
    obtain ⟨u, rfl⟩ := hj
    exact hop _ _ t u s1 Q E hq
theorem run_mxk {mx : Bool} (I : Inv X pins σ H s) (W : KeyW X sp H l q a g xs f) (F : FnOk X.prog X.w X.K X.mg X.base (L2.CX X.prog X.w) k g gd qs sp) (room : Room (k + 1) X.A) (bnd : Binds X.K gd qs [])
    (res : ∀ H' v, (∀ b o, H b = some o → H' b = some o) → xs[argBest (btOf mx f) (xs.length - 1)]? = some v → Q v H') :
    wpAny (model X.prog X.w) X.A (call (.builtin (if mx then "max" else "min")) [.ref l] [(Str.ofString "key", .ref q)]) (EP X pins σ Q) X.xe s := by
  obtain ⟨_, its, n, rv, el⟩ := I.hok l _ W.l
  have hl : s.heap.IsList l its.toArray := ⟨_, el, rfl, n, rfl⟩
  have hlen : xs.length = its.length := rv.length
  have npos : 0 < its.toArray.size := by
    have := W.ne
    cases xs with
    | nil => exact absurd rfl this
    | cons x t => rw [List.size_toArray, ← hlen]; exact Nat.succ_pos _
  have lt : l < s.heap.objs.size := Heap.lt_size el
  have ne : l ≠ s.heap.objs.size := Nat.ne_of_lt lt
  have fin : ∀ v s', its.toArray[argBest (btOf mx f) (its.toArray.size - 1)]? = some v → (∃ H', Inv X pins σ H' s' ∧ (∀ b o, H b = some o → H' b = some o) ∧ H' (s.heap.objs.size + 1) = none ∧ H' s.heap.objs.size = none) → EP X pins σ Q v s' := fun v s' hv ⟨H', J, e, _, _⟩ => by
    have hv : its[argBest (btOf mx f) (its.toArray.size - 1)]? = some v := by simpa using hv
    obtain ⟨y, hy, ry⟩ := vals_at rv hv
    refine ⟨y, H', J, ry, res H' y e ?_⟩
    rw [hlen]
    simpa using hy
  have I2 : Inv X pins σ H { s with heap := s.heap.push { cls := .type "list_iterator", data := .fields #[.ref l, .int 0 0] } } := I.kept (t' := s.toks) fun b o e => Heap.get?_push_of_some _ e
  have sz : (s.heap.push { cls := .type "list_iterator", data := .fields #[.ref l, .int 0 0] } : Heap).objs.size = s.heap.objs.size + 1 := Heap.size_push ..
  have st0 : (s.heap.push { cls := .type "list_iterator", data := .fields #[.ref l, .int 0 0] } : Heap).IsListIter s.heap.objs.size l 0 ∧ (s.heap.push { cls := .type "list_iterator", data := .fields #[.ref l, .int 0 0] } : Heap).IsList l its.toArray := ⟨⟨_, Heap.get?_push_size _ rfl, rfl, rfl⟩, _, Heap.get?_push_of_some _ el, rfl, n, rfl⟩
  have fp : ∀ b ∈ [s.heap.objs.size, l], b < (s.heap.push { cls := .type "list_iterator", data := .fields #[.ref l, .int 0 0] } : Heap).objs.size := fun b hb => by
    rw [sz]
    rcases List.mem_cons.mp hb with rfl | hb
    · exact Nat.lt_succ_self _
    · rw [List.mem_singleton.mp hb]
      exact Nat.lt_succ_of_lt lt
  have Wk := (Walks.list (prog := X.prog) (w := X.w) (A := X.A.in1) (by simp [room.hd]) s.heap.objs.size l ne its.toArray).toS
  have J0 : ∃ H', Inv X pins σ H' { s with heap := s.heap.push { cls := .type "list_iterator", data := .fields #[.ref l, .int 0 0] } } ∧ (∀ b o, H b = some o → H' b = some o) ∧ H' (s.heap.objs.size + 1) = none ∧ H' s.heap.objs.size = none := ⟨H, I2, fun _ _ h => h, I.hok.fresh (Nat.le_succ _), I.hok.fresh (Nat.le_refl _)⟩
  cases mx with
  | true =>
    refine call_max_walkK (wpAny_pyIter_list hl ⟨s.heap.objs.size, _, _, _, its.toArray.size, _, _, _, (fun i v _ => ∃ t, v = .int (f i) t), btOf true f, rfl, Wk, st0, fp, npos, ?_, J0, fin⟩)
    show KeyRun _ _ _ _ _ (s.heap.push _ : Heap).objs.size _ _ _ _ _ _ _ _
    rw [sz]
    exact key_run (mx := true) (fun i j t u s Q E h => richCompare_gives (op := .Gt) (typeIs_int s _ t) (typeIs_int s _ u) PySem.F.slot_int_gt PySem.F.entry_int_gt (PySem.F.args_int_gt_2 _ _) (gives_int_gt _ _ t u) (fun x => nomatch x) h) I W F room bnd rv _ _ (Nat.le_refl _) (Nat.le_succ _)
  | false =>
    refine call_min_walkK (wpAny_pyIter_list hl ⟨s.heap.objs.size, _, _, _, its.toArray.size, _, _, _, (fun i v _ => ∃ t, v = .int (f i) t), btOf false f, rfl, Wk, st0, fp, npos, ?_, J0, fin⟩)
    show KeyRun _ _ _ _ _ (s.heap.push _ : Heap).objs.size _ _ _ _ _ _ _ _
    rw [sz]
    exact key_run (mx := false) (fun i j t u s Q E h => richCompare_gives (op := .Lt) (typeIs_int s _ t) (typeIs_int s _ u) PySem.F.slot_int_lt PySem.F.entry_int_lt (PySem.F.args_int_lt_2 _ _) (gives_int_lt _ _ t u) (fun x => nomatch x) h) I W F room bnd rv _ _ (Nat.le_refl _) (Nat.le_succ _)
end
end Py

namespace Py
open PySem PySem.Spec PyProof.Rows L2

inductive D where
  | non | bl (b : Bool) | int (i : Int) | str (x : Str) | tup (xs : List D) | lst (xs : List D) | scr (ns : List Int) | exv (c : Str) (ys : List D) | dic | ftp (ns : List Int) | obj (c : Str) (ns : List Str) (ys : List D) | dct (ks : List Str) (ys : List D) | dkt (zs : List (NKey × Option Int))

/-- an exception that flies: its class, its field -/
structure XD where
  cls : Str
  fld : Option (Str × D)

inductive R (α : Type) where
  | ok (a : α) | exc (x : XD) | stuck

namespace R
def bind {α β : Type} (r : R α) (f : α → R β) : R β := match r with
  | .ok a => f a
  | .exc x => .exc x
  | .stuck => .stuck
instance : Monad R where
  pure := R.ok
  bind := R.bind
@[simp] theorem bind_ok {α β : Type} (a : α) (f : α → R β) : (R.ok a >>= f) = f a := Eq.trans rfl rfl
@[simp] theorem bind_exc {α β : Type} (x : XD) (f : α → R β) : ((R.exc x : R α) >>= f) = .exc x := Eq.trans rfl rfl
@[simp] theorem bind_stuck {α β : Type} (f : α → R β) : ((R.stuck : R α) >>= f) = .stuck := Eq.trans rfl rfl
@[simp] theorem pure_ok {α : Type} (a : α) : (pure a : R α) = .ok a := Eq.trans rfl rfl
theorem bind_assoc {α β γ : Type} (r : R α) (f : α → R β) (g : β → R γ) : ((r >>= f) >>= g) = (r >>= fun a => f a >>= g) := by
  cases r <;> rfl
end R

mutual
def D.lf : D → Bool
  | .tup xs => D.lfs xs
  | .lst _ => false
  | .exv _ ys => D.lfs ys
  | .dic => false
  | .obj _ _ _ => false
  | .dct _ _ => false
  | .dkt _ => false
  | _ => true
def D.lfs : List D → Bool
  | [] => true
  | d :: ds => D.lf d && D.lfs ds
end

/-- the names of fields -/
def fldNs : List Str := ["floor", "place", "pair", "gone", "kept", "shelf"]
/-- an own class -/
structure ObK (K : PySem.W.Frag) (c : Str) (C : Addr) : Prop where
  nm : PySem.W.nsIn K mainGlobals c = some (some (.ref C))
  cl : Cls K C
  na : ∀ f ∈ fldNs, NoAttr K C f
  ty : ∀ (H : Hp) (a dx : Addr) (fs : List (Str × V)), H a = some (.ins C dx fs) → TyOf K H (.ref a) (.ref C)
  kI : PySem.W.kitOne K (.ref C) (.type "int") = some false
  kB : PySem.W.kitOne K (.ref C) (.type "bool") = some false
  kS : PySem.W.kitOne K (.ref C) (.type "str") = some false
  kT : PySem.W.kitOne K (.ref C) (.type "tuple") = some false
  kL : PySem.W.kitOne K (.ref C) (.type "list") = some false
mutual
inductive Rep (K : PySem.W.Frag) (H : Hp) : D → V → Prop
  | non : Rep K H .non .non
  | bl (b : Bool) : Rep K H (.bl b) (.bl b)
  | int (i : Int) : Rep K H (.int i) (.int i)
  | str (x : Str) : Rep K H (.str x) (.str x)
  | tup {a : Addr} {vs : List V} {ds : List D} : H a = some (.tup vs) → Reps K H ds vs → Rep K H (.tup ds) (.ref a)
  | lst {a : Addr} {vs : List V} {ds : List D} : H a = some (.lst vs) → Reps K H ds vs → Rep K H (.lst ds) (.ref a)
  | scr {a : Addr} {ns : List Int} : ((∃ o, H a = some (.frz o (.lst (ns.map V.int)))) ∨ (∀ H' : Hp, SqL K H' a (ns.map V.int))) → Rep K H (.scr ns) (.ref a)
  | dic {a : Addr} : H a = some (.dK []) → Rep K H .dic (.ref a)
  | ftp {a : Addr} {o : Obj} {ns : List Int} : H a = some (.frz o (.tup (ns.map V.int))) → o.cls = .type "tuple" → o.dict = none → Rep K H (.ftp ns) (.ref a)
  | exv0 {a B C : Addr} {c : Str} : exFld c = some none → PySem.W.nsIn K mainGlobals c = some (some (.ref C)) → ExC K B C → H a = some (exk (.ref C) none a) → Rep K H (.exv c []) (.ref a)
  | exv1 {a B C dd : Addr} {c f : Str} {y : D} {v : V} : exFld c = some (some f) → PySem.W.nsIn K mainGlobals c = some (some (.ref C)) → ExC K B C → PySem.W.findIn K (.ref C) f = some none → H a = some (exk (.ref C) (some dd) a) → H dd = some (.xd [(f, v)]) → Rep K H y v → Rep K H (.exv c [y]) (.ref a)
  | obj {a C dx : Addr} {c : Str} {ns : List Str} {fs : List (Str × V)} {ys : List D} : H a = some (.ins C dx fs) → ObK K c C → fs.map (·.1) = ns → Reps K H ys (fs.map (·.2)) → Rep K H (.obj c ns ys) (.ref a)
  | dct {a : Addr} {ks : List Str} {kvs : List (Key × V)} {ys : List D} : H a = some (.dK kvs) → kvs.map (·.1) = ks.map Sum.inr → Reps K H ys (kvs.map (·.2)) → Rep K H (.dct ks ys) (.ref a)
  | dkt {a : Addr} {o : Obj} {xs : List KEnt} {zs : List (NKey × Option Int)} : H a = some (dko a o) → DkE a o xs → DkR H zs xs → Rep K H (.dkt zs) (.ref a)
inductive Reps (K : PySem.W.Frag) (H : Hp) : List D → List V → Prop
  | nil : Reps K H [] []
  | cons {d : D} {v : V} {ds : List D} {vs : List V} : Rep K H d v → Reps K H ds vs → Reps K H (d :: ds) (v :: vs)
end

abbrev Ex (H H' : Hp) : Prop := ∀ a o, H a = some o → H' a = some o
theorem Ex.refl (H : Hp) : Ex H H := fun _ _ h => h
theorem Ex.trans {H H1 H2 : Hp} (a : Ex H H1) (b : Ex H1 H2) : Ex H H2 := fun x o h => b x o (a x o h)
theorem Ex.new {H : Hp} {p : Addr} {o : HO} (h : H p = none) : Ex H (upd H p o) := fun a u e => by
  rw [upd_ne (ne_of_none e h)]
  exact e
/-- what Hs holds, and all that is new from H to H' -/
def ext (Hs H H' : Hp) : Hp := fun a => match H a with
  | some _ => Hs a
  | none => H' a

section
variable {K : PySem.W.Frag} {H H' H1 H2 Hs Ht : Hp}
mutual
theorem Rep.mono (e : Ex H H') : ∀ {d : D} {v : V}, Rep K H d v → Rep K H' d v
  | _, _, .non => .non
  | _, _, .bl b => .bl b
  | _, _, .int i => .int i
  | _, _, .str x => .str x
  | _, _, .tup h r => .tup (e _ _ h) (Reps.mono e r)
  | _, _, .lst h r => .lst (e _ _ h) (Reps.mono e r)
  | _, _, .scr h => .scr (h.imp (fun ⟨o, q⟩ => ⟨o, e _ _ q⟩) id)
  | _, _, .dic h => .dic (e _ _ h)
  | _, _, .ftp h c d => .ftp (e _ _ h) c d
  | _, _, .exv0 h1 h2 h3 h4 => .exv0 h1 h2 h3 (e _ _ h4)
  | _, _, .exv1 h1 h2 h3 h4 h5 h6 r => .exv1 h1 h2 h3 h4 (e _ _ h5) (e _ _ h6) (Rep.mono e r)
  | _, _, .obj h1 h2 h3 r => .obj (e _ _ h1) h2 h3 (Reps.mono e r)
  | _, _, .dct h1 h2 r => .dct (e _ _ h1) h2 (Reps.mono e r)
  | _, _, .dkt h1 h2 r => .dkt (e _ _ h1) h2 (r.mono fun b xs => e b _)
theorem Reps.mono (e : Ex H H') : ∀ {ds : List D} {vs : List V}, Reps K H ds vs → Reps K H' ds vs
  | _, _, .nil => .nil
  | _, _, .cons r t => .cons (Rep.mono e r) (Reps.mono e t)
end
open Classical in
/-- what may be changed -/
noncomputable def soft : HO → Bool
  | .lst _ => true
  | .ins _ _ _ => true
  | .own _ => true
  | .dK _ => true
  | .ext φ => decide (∃ a o es ep, o.data = .dict es ep ∧ HO.ext φ = dko a o)
  | _ => false
theorem soft_exk (c : Value) (d : Option Addr) (a : Addr) : soft (exk c d a) = false := by
  show @decide (∃ (b : Addr) (o : Obj) (es : Array DictEntry) (ep : Nat), o.data = .dict es ep ∧ exk c d a = dko b o) (Classical.propDecidable _) = false
  rw [decide_eq_false_iff_not]
  rintro ⟨b, o, es, ep, h1, h2⟩
  exact dko_exk h1 h2
theorem soft_dko {a : Addr} {o : Obj} {xs : List KEnt} (D : DkE a o xs) : soft (dko a o) = true := by
  obtain ⟨es, ep, h, _⟩ := D.dt
  show @decide (∃ (b : Addr) (u : Obj) (es : Array DictEntry) (ep : Nat), u.data = .dict es ep ∧ dko a o = dko b u) (Classical.propDecidable _) = true
  exact @decide_eq_true _ (Classical.propDecidable _) ⟨a, o, es, ep, h, rfl⟩
/-- a thing without lists needs no list -/
abbrev ExN (H H' : Hp) : Prop := ∀ a o, H a = some o → soft o = false → H' a = some o
mutual
theorem Rep.drop (e : ExN H H') : ∀ {d : D} {v : V}, Rep K H d v → d.lf = true → Rep K H' d v
  | _, _, .non, _ => .non
  | _, _, .bl b, _ => .bl b
  | _, _, .int i, _ => .int i
  | _, _, .str x, _ => .str x
  | _, _, .tup h r, l => .tup (e _ _ h rfl) (Reps.drop e r (by simpa [D.lf] using l))
  | _, _, .lst h r, l => by simp [D.lf] at l
  | _, _, .scr h, _ => .scr (h.imp (fun ⟨o, q⟩ => ⟨o, e _ _ q rfl⟩) id)
  | _, _, .dic h, l => by simp [D.lf] at l
  | _, _, .obj _ _ _ _, l => by simp [D.lf] at l
  | _, _, .dct _ _ _, l => by simp [D.lf] at l
  | _, _, .dkt _ _ _, l => by simp [D.lf] at l
  | _, _, .ftp h c d, _ => .ftp (e _ _ h rfl) c d
  | _, _, .exv0 h1 h2 h3 h4, _ => .exv0 h1 h2 h3 (e _ _ h4 (soft_exk ..))
  | _, _, .exv1 h1 h2 h3 h4 h5 h6 r, l => .exv1 h1 h2 h3 h4 (e _ _ h5 (soft_exk ..)) (e _ _ h6 rfl) (Rep.drop e r (by simpa [D.lf, D.lfs] using l))
theorem Reps.drop (e : ExN H H') : ∀ {ds : List D} {vs : List V}, Reps K H ds vs → D.lfs ds = true → Reps K H' ds vs
  | _, _, .nil, _ => .nil
  | _, _, .cons r t, l => by
    simp only [D.lfs, Bool.and_eq_true] at l
    exact .cons (Rep.drop e r l.1) (Reps.drop e t l.2)
end
theorem Rep.tupI {ds : List D} {v : V} (h : Rep K H (.tup ds) v) : ∃ a vs, v = .ref a ∧ H a = some (.tup vs) ∧ Reps K H ds vs := by
  cases h with
  | tup h r => exact ⟨_, _, rfl, h, r⟩
theorem Rep.lstI {ds : List D} {v : V} (h : Rep K H (.lst ds) v) : ∃ a vs, v = .ref a ∧ H a = some (.lst vs) ∧ Reps K H ds vs := by
  cases h with
  | lst h r => exact ⟨_, _, rfl, h, r⟩
theorem Rep.scrI {ns : List Int} {v : V} (h : Rep K H (.scr ns) v) : ∃ a, v = .ref a ∧ SqL K H a (ns.map V.int) := by
  cases h with
  | scr h =>
    refine ⟨_, rfl, ?_⟩
    rcases h with ⟨o, h⟩ | h
    · exact .inl (.inr ⟨o, h⟩)
    · exact h H
theorem Rep.dicI {v : V} (h : Rep K H .dic v) : ∃ a, v = .ref a ∧ H a = some (.dK []) := by
  cases h with
  | dic h => exact ⟨_, rfl, h⟩
theorem Rep.ftpI {ns : List Int} {v : V} (h : Rep K H (.ftp ns) v) : ∃ a o, v = .ref a ∧ H a = some (.frz o (.tup (ns.map V.int))) ∧ o.cls = .type "tuple" ∧ o.dict = none := by
  cases h with
  | ftp h c d => exact ⟨_, _, rfl, h, c, d⟩
theorem Rep.objI {c : Str} {ns : List Str} {ys : List D} {v : V} (h : Rep K H (.obj c ns ys) v) : ∃ a C dx fs, v = .ref a ∧ H a = some (.ins C dx fs) ∧ ObK K c C ∧ fs.map (·.1) = ns ∧ Reps K H ys (fs.map (·.2)) := by
  cases h with
  | obj h1 h2 h3 r => exact ⟨_, _, _, _, rfl, h1, h2, h3, r⟩
theorem Rep.dctI {ks : List Str} {ys : List D} {v : V} (h : Rep K H (.dct ks ys) v) : ∃ a kvs, v = .ref a ∧ H a = some (.dK kvs) ∧ kvs.map (·.1) = ks.map Sum.inr ∧ Reps K H ys (kvs.map (·.2)) := by
  cases h with
  | dct h1 h2 r => exact ⟨_, _, rfl, h1, h2, r⟩
theorem Rep.dktI {zs : List (NKey × Option Int)} {v : V} (h : Rep K H (.dkt zs) v) : ∃ a o xs, v = .ref a ∧ H a = some (dko a o) ∧ DkE a o xs ∧ DkR H zs xs := by
  cases h with
  | dkt h1 h2 r => exact ⟨_, _, _, rfl, h1, h2, r⟩
theorem Rep.intI {i : Int} {v : V} (h : Rep K H (.int i) v) : v = .int i := by cases h; rfl
theorem Rep.blI {b : Bool} {v : V} (h : Rep K H (.bl b) v) : v = .bl b := by cases h; rfl
theorem Rep.strI {x : Str} {v : V} (h : Rep K H (.str x) v) : v = .str x := by cases h; rfl
theorem Rep.nonI {v : V} (h : Rep K H .non v) : v = .non := by cases h; rfl
theorem Reps.length : ∀ {ds : List D} {vs : List V}, Reps K H ds vs → ds.length = vs.length
  | _, _, .nil => rfl
  | _, _, .cons _ t => congrArg (· + 1) (Reps.length t)
theorem Reps.get : ∀ {ds : List D} {vs : List V} {i : Nat} {d : D}, Reps K H ds vs → ds[i]? = some d → ∃ v, vs[i]? = some v ∧ Rep K H d v
  | _, _, _, _, .nil, e => by simp at e
  | _, _, 0, _, .cons r _, e => by simp at e; subst e; exact ⟨_, rfl, r⟩
  | _, _, i + 1, d, .cons _ t, e => by
    obtain ⟨u, h1, h2⟩ := Reps.get (i := i) (d := d) t (by simpa using e)
    exact ⟨u, by simpa using h1, h2⟩
theorem Reps.getV : ∀ {ds : List D} {vs : List V} {i : Nat} {v : V}, Reps K H ds vs → vs[i]? = some v → ∃ d, ds[i]? = some d ∧ Rep K H d v
  | _, _, _, _, .nil, e => by simp at e
  | _, _, 0, _, .cons r _, e => by simp at e; subst e; exact ⟨_, rfl, r⟩
  | _, _, i + 1, d, .cons _ t, e => by
    obtain ⟨u, h1, h2⟩ := Reps.getV (i := i) (v := d) t (by simpa using e)
    exact ⟨u, by simpa using h1, h2⟩
theorem Reps.append : ∀ {xs ys : List D} {us ws : List V}, Reps K H xs us → Reps K H ys ws → Reps K H (xs ++ ys) (us ++ ws)
  | _, _, _, _, .nil, s => s
  | _, _, _, _, .cons r t, s => .cons r (Reps.append t s)
theorem Reps.take : ∀ {xs : List D} {us : List V} (n : Nat), Reps K H xs us → Reps K H (xs.take n) (us.take n)
  | _, _, 0, _ => .nil
  | _, _, _ + 1, .nil => .nil
  | _, _, n + 1, .cons r t => .cons r (Reps.take n t)
theorem Reps.dropN : ∀ {xs : List D} {us : List V} (n : Nat), Reps K H xs us → Reps K H (xs.drop n) (us.drop n)
  | _, _, 0, r => r
  | _, _, _ + 1, .nil => .nil
  | _, _, n + 1, .cons r t => Reps.dropN n t
theorem Reps.set {d : D} {v : V} (r : Rep K H d v) : ∀ {xs : List D} {us : List V} (i : Nat), Reps K H xs us → Reps K H (xs.set i d) (us.set i v)
  | _, _, _, .nil => .nil
  | _, _, 0, .cons _ t => .cons r t
  | _, _, i + 1, .cons q t => .cons q (Reps.set r i t)
theorem Reps.ints : ∀ {ns : List Int}, Reps K H (ns.map D.int) (ns.map V.int)
  | [] => .nil
  | _ :: _ => .cons (.int _) Reps.ints
theorem Reps.intsI : ∀ {ns : List Int} {vs : List V}, Reps K H (ns.map D.int) vs → vs = ns.map V.int
  | [], _, .nil => rfl
  | _ :: _, _, .cons r t => by rw [Rep.intI r, Reps.intsI t]; rfl
theorem Reps.strs : ∀ {ns : List Str}, Reps K H (ns.map D.str) (ns.map V.str)
  | [] => .nil
  | _ :: _ => .cons (.str _) Reps.strs
theorem Reps.strsI : ∀ {ns : List Str} {vs : List V}, Reps K H (ns.map D.str) vs → vs = ns.map V.str
  | [], _, .nil => rfl
  | _ :: _, _, .cons r t => by rw [Rep.strI r, Reps.strsI t]; rfl
theorem Reps.blsI : ∀ {ns : List Bool} {vs : List V}, Reps K H (ns.map D.bl) vs → vs = ns.map V.bl
  | [], _, .nil => rfl
  | _ :: _, _, .cons r t => by rw [Rep.blI r, Reps.blsI t]; rfl

structure Le (Hs H Hi H' : Hp) : Prop where
  old : Ex Hs Hi
  ex : Ex H H'
  sub : Ex Hi H'
  new : ∀ a o, Hi a = some o → Hs a = some o ∨ H a = none
theorem Le.refl (e : Ex Hs H) : Le Hs H Hs H := ⟨Ex.refl _, Ex.refl _, e, fun _ _ h => .inl h⟩
theorem Le.trans {Hs H Hi H' Hj H'' : Hp} (a : Le Hs H Hi H') (b : Le Hi H' Hj H'') : Le Hs H Hj H'' :=
  ⟨a.old.trans b.old, a.ex.trans b.ex, b.sub, fun x o h => by
    rcases b.new x o h with q | q
    · exact a.new x o q
    · cases z : H x with
      | none => exact .inr rfl
      | some u => rw [a.ex x u z] at q; cases q⟩
theorem Le.new1 {p : Addr} {o : HO} (e : Ex Hs H) (n : H p = none) : Le Hs H (upd Hs p o) (upd H p o) := by
  have ns : Hs p = none := by
    cases z : Hs p with
    | none => rfl
    | some u => rw [e p u z] at n; cases n
  refine ⟨Ex.new ns, Ex.new n, fun a u h => ?_, fun a u h => ?_⟩
  · by_cases q : a = p
    · subst q
      rw [upd_same] at h ⊢
      exact h
    · rw [upd_ne q] at h ⊢
      exact e a u h
  · by_cases q : a = p
    · subst q
      exact .inr n
    · rw [upd_ne q] at h
      exact .inl h
/-- a new object that is not frozen -/
theorem Le.new0 {p : Addr} {o : HO} (e : Ex Hs H) (n : H p = none) : Le Hs H Hs (upd H p o) :=
  ⟨Ex.refl _, Ex.new n, fun a u h => by
    rw [upd_ne (ne_of_none (e a u h) n)]
    exact e a u h, fun _ _ h => .inl h⟩
theorem Le.free {p : Addr} {Hi H' : Hp} (l : Le Hs H Hi H') (n : H' p = none) : H p = none := by
  cases z : H p with
  | none => rfl
  | some u => rw [l.ex p u z] at n; cases n
end

/-- how an exception lies -/
def XRep (K : PySem.W.Frag) (mg : Str → Option Value) (Hi H : Hp) (x : XD) (c : Value) (d : Option Addr) : Prop :=
  mg x.cls = some c ∧ match x.fld with
    | none => d = none
    | some (f, y) => ∃ dd v, d = some dd ∧ Hi dd = some (.xd [(f, v)]) ∧ Rep K Hi y v

def Pst {α β : Type} (Rel : Hp → α → β → Prop) (K : PySem.W.Frag) (mg : Str → Option Value) (Hs H : Hp) (r : R α) (Q : β → Hp → Prop) (E : XK) : Prop := match r with
  | .ok d => ∀ v Hi H', Le Hs H Hi H' → Rel Hi d v → Q v H'
  | .exc x => ∀ c d Hi H', Le Hs H Hi H' → XRep K mg Hi H' x c d → E c d H'
  | .stuck => False
abbrev PstD (K : PySem.W.Frag) (mg : Str → Option Value) (Hs H : Hp) (r : R D) (Q : VK) (E : XK) : Prop := Pst (Rep K) K mg Hs H r Q E
abbrev PstL (K : PySem.W.Frag) (mg : Str → Option Value) (Hs H : Hp) (r : R (List D)) (Q : List V → Hp → Prop) (E : XK) : Prop := Pst (Reps K) K mg Hs H r Q E
abbrev RB : Hp → Bool → Bool → Prop := fun _ b c => b = c
abbrev PstB (K : PySem.W.Frag) (mg : Str → Option Value) (Hs H : Hp) (r : R Bool) (Q : Bool → Hp → Prop) (E : XK) : Prop := Pst RB K mg Hs H r Q E
section
variable {α β γ δ : Type} {Rel : Hp → α → β → Prop} {Rel2 : Hp → γ → δ → Prop} {K : PySem.W.Frag} {mg : Str → Option Value} {Hs H Hi H1 : Hp} {E : XK}
theorem Pst.step {r : R α} {Q : β → Hp → Prop} (l : Le Hs H Hi H1) (h : Pst Rel K mg Hs H r Q E) : Pst Rel K mg Hi H1 r Q E := by
  cases r with
  | ok d => exact fun v Hj H' c q => h v Hj H' (l.trans c) q
  | exc x => exact fun v d Hj H' c q => h v d Hj H' (l.trans c) q
  | stuck => exact h
/-- a result, then the rest -/
theorem Pst.bind {r : R α} {k : α → R γ} {Q : δ → Hp → Prop} {Q1 : β → Hp → Prop} (h : Pst Rel2 K mg Hs H (r >>= k) Q E)
    (f : ∀ d, r = .ok d → ∀ v Hi H1, Le Hs H Hi H1 → Rel Hi d v → Pst Rel2 K mg Hi H1 (k d) Q E → Q1 v H1) : Pst Rel K mg Hs H r Q1 E := by
  cases r with
  | ok d => exact fun v Hj H' c q => f d rfl v Hj H' c q (Pst.step (Rel := Rel2) c h)
  | exc x => exact h
  | stuck => exact h
theorem Pst.imp {r : R α} {Q Q1 : β → Hp → Prop} (h : Pst Rel K mg Hs H r Q E) (f : ∀ v H', Q v H' → Q1 v H') : Pst Rel K mg Hs H r Q1 E := by
  cases r with
  | ok d => exact fun v Hj H' c q => f v H' (h v Hj H' c q)
  | exc x => exact h
  | stuck => exact h
/-- the answer at once -/
theorem Pst.now {d : α} {v : β} {Q : β → Hp → Prop} (h : Pst Rel K mg Hs H (.ok d) Q E) (e : Ex Hs H) (r : Rel Hs d v) : Q v H :=
  h v Hs H (Le.refl e) r
end

abbrev Env := List (Option D)
def ERel (K : PySem.W.Frag) (Hs : Hp) (ρ : Env) (σ : L2.St) : Prop := ρ.length ≤ σ.length ∧ ∀ (i : Nat) (d : D), ρ[i]? = some (some d) → ∃ v, σ[i]? = some (some v) ∧ Rep K Hs d v
theorem ERel.mono {K : PySem.W.Frag} {Hs Ht : Hp} {ρ : Env} {σ : L2.St} (h : ERel K Hs ρ σ) (e : Ex Hs Ht) : ERel K Ht ρ σ := ⟨h.1, fun i d q =>
  let ⟨v, a, b⟩ := h.2 i d q
  ⟨v, a, b.mono e⟩⟩
def tD (K : PySem.W.Frag) (mg : Str → Option Value) (W : WX) (f : Env → R D) : TE := fun σ H Q =>
  ∃ (ρ : Env) (Hs : Hp), Ex Hs H ∧ ERel K Hs ρ σ ∧ PstD K mg Hs H (f ρ) Q (fun c d H' => W c d σ H')
def tDB (K : PySem.W.Frag) (mg : Str → Option Value) (W : WX) (f : Env → R Bool) : TT := fun σ H Q =>
  ∃ (ρ : Env) (Hs : Hp), Ex Hs H ∧ ERel K Hs ρ σ ∧ PstB K mg Hs H (f ρ) Q (fun c d H' => W c d σ H')
def tDL (K : PySem.W.Frag) (mg : Str → Option Value) (W : WX) (f : Env → R (List D)) : TA := fun σ H Q =>
  ∃ (ρ : Env) (Hs : Hp), Ex Hs H ∧ ERel K Hs ρ σ ∧ PstL K mg Hs H (f ρ) Q (fun c d H' => W c d σ H')
abbrev SE (X : Cx) (W : WX) (e : Expr) (f : Env → R D) : Prop := PE X e (tD X.K X.mg W f)
abbrev SB (X : Cx) (W : WX) (e : Expr) (f : Env → R Bool) : Prop := PT X e (tDB X.K X.mg W f)
abbrev SA (X : Cx) (W : WX) (es : List Expr) (f : Env → R (List D)) : Prop := PA X es (tDL X.K X.mg W f)
theorem PE.imp {X : Cx} {e : Expr} {t u : TE} (h : PE X e t) (f : ∀ σ H Q, u σ H Q → t σ H Q) : PE X e u := ⟨fun pins s σ H Q I q => h.run pins s σ H Q I (f σ H Q q)⟩
theorem PT.imp {X : Cx} {e : Expr} {t u : TT} (h : PT X e t) (f : ∀ σ H Q, u σ H Q → t σ H Q) : PT X e u := ⟨fun pins s σ H Q I q => h.run pins s σ H Q I (f σ H Q q)⟩
theorem PW.imp {X : Cx} {e : Expr} {t u : TT} (h : PW X e t) (f : ∀ σ H Q, u σ H Q → t σ H Q) : PW X e u := ⟨fun wh pins s σ H Q I q => h.run wh pins s σ H Q I (f σ H Q q)⟩
theorem PA.imp {X : Cx} {e : List Expr} {t u : TA} (h : PA X e t) (f : ∀ σ H Q, u σ H Q → t σ H Q) : PA X e u := ⟨fun pos pins s σ H Q I q => h.run pos pins s σ H Q I (f σ H Q q)⟩
end Py

namespace Py
open PySem PySem.Spec PyProof.Rows L2

mutual
def D.pd : D → PyData
  | .non => .none
  | .bl b => .bool b
  | .int i => .int i
  | .str x => .str x
  | .tup xs => .tuple (D.pds xs)
  | .lst xs => .list (D.pds xs)
  | .scr _ => .dict []
  | .exv _ _ => .dict []
  | .dic => .dict []
  | .ftp _ => .dict []
  | .obj _ _ _ => .dict []
  | .dct _ _ => .dict []
  | .dkt _ => .dict []
def D.pds : List D → List PyData
  | [] => []
  | d :: ds => D.pd d :: D.pds ds
end
mutual
/-- no script within -/
def D.ns : D → Bool
  | .tup xs => D.nss xs
  | .lst xs => D.nss xs
  | .scr _ => false
  | .exv _ _ => false
  | .dic => false
  | .ftp _ => false
  | .obj _ _ _ => false
  | .dct _ _ => false
  | .dkt _ => false
  | _ => true
def D.nss : List D → Bool
  | [] => true
  | d :: ds => D.ns d && D.nss ds
end
theorem D.pds_eq : ∀ ds : List D, D.pds ds = ds.map D.pd
  | [] => rfl
  | d :: ds => by simp [D.pds, D.pds_eq ds]
theorem D.nss_eq : ∀ ds : List D, D.nss ds = ds.all D.ns
  | [] => rfl
  | d :: ds => by simp [D.nss, D.nss_eq ds]
section
variable {K : PySem.W.Frag} {H : Hp}
mutual
theorem Rep.dp : ∀ {d : D} {v : V}, Rep K H d v → d.ns = true → Dp K H v d.pd
  | _, _, .non, _ => .non
  | _, _, .bl b, _ => .bl b
  | _, _, .int i, _ => .int i
  | _, _, .str x, _ => .str x
  | _, _, .tup h r, l => .tup (SqT.of h) (Reps.dp r (by simpa [D.ns] using l))
  | _, _, .lst h r, l => .lst (SqL.of h) (Reps.dp r (by simpa [D.ns] using l))
  | _, _, .scr h, l => by simp [D.ns] at l
  | _, _, .exv0 _ _ _ _, l => by simp [D.ns] at l
  | _, _, .dic _, l => by simp [D.ns] at l
  | _, _, .ftp _ _ _, l => by simp [D.ns] at l
  | _, _, .obj _ _ _ _, l => by simp [D.ns] at l
  | _, _, .dct _ _ _, l => by simp [D.ns] at l
  | _, _, .dkt _ _ _, l => by simp [D.ns] at l
  | _, _, .exv1 _ _ _ _ _ _ _, l => by simp [D.ns] at l
theorem Reps.dp : ∀ {ds : List D} {vs : List V}, Reps K H ds vs → D.nss ds = true → DpAll K H vs (D.pds ds)
  | _, _, .nil, _ => .nil
  | _, _, .cons r t, l => by
    simp only [D.nss, Bool.and_eq_true] at l
    exact .cons (Rep.dp r l.1) (Reps.dp t l.2)
end
end

section
variable {K : PySem.W.Frag} {Hs H : Hp} {ds : List D} {vs : List V} {p : Addr}
theorem fresh_s (e : Ex Hs H) (n : H p = none) : Hs p = none := by
  cases z : Hs p with
  | none => rfl
  | some u => rw [e p u z] at n; cases n
theorem mk_lst (e : Ex Hs H) (r : Reps K Hs ds vs) (n : H p = none) : Rep K (upd Hs p (.lst vs)) (.lst ds) (.ref p) :=
  .lst upd_same (r.mono (Ex.new (fresh_s e n)))
theorem mk_tup (e : Ex Hs H) (r : Reps K Hs ds vs) (n : H p = none) : Rep K (upd Hs p (.tup vs)) (.tup ds) (.ref p) :=
  .tup upd_same (r.mono (Ex.new (fresh_s e n)))
end

inductive Bop where
  | add | sub | mul | fdiv | mod | pow | shr | band
  deriving DecidableEq
def Bop.op : Bop → Operator
  | .add => .Add | .sub => .Sub | .mul => .Mult | .fdiv => .FloorDiv | .mod => .Mod | .pow => .Pow | .shr => .RShift | .band => .BitAnd
def divOk (j : Int) : Bool := decide (0 < j) && decide (j.natAbs.log2 < 9000)
def mulOk (i j : Int) : Bool := decide (i.natAbs.log2 + j.natAbs.log2 < 1000000)
def powOk (i j : Int) : Bool := decide (0 ≤ j) && decide (j ≤ 1000000) && decide (i.natAbs < 18446744073709551616)

def D.add : D → D → R D
  | .int a, .int b => .ok (.int (a + b))
  | .str a, .str b => if a.length + b.length ≤ 16777216 then .ok (.str (a ++ b)) else .stuck
  | .lst a, .lst b => if a.length + b.length ≤ 16777216 then .ok (.lst (a ++ b)) else .stuck
  | .tup a, .tup b => if a.length + b.length ≤ 16777216 then .ok (.tup (a ++ b)) else .stuck
  | _, _ => .stuck
def D.sub : D → D → R D
  | .int a, .int b => .ok (.int (a - b))
  | _, _ => .stuck
def strMul (x : Str) (n : Int) : Str := if n < 1 then Str.empty else if (n == 1 || x.length == 0) = true then x else ⟨(List.replicate n.toNat x.cps).foldl (· ++ ·) #[]⟩
def D.mul : D → D → R D
  | .int a, .int b => if mulOk a b then .ok (.int (a * b)) else .stuck
  | .lst xs, .int k => if 0 ≤ k ∧ k < 16777216 ∧ xs.length * k.toNat ≤ 16777216 then .ok (.lst (List.replicate k.toNat xs).flatten) else .stuck
  | .tup xs, .int k => if k = 1 then .ok (.tup xs) else if xs ≠ [] ∧ 2 ≤ k ∧ k ≤ 1000 ∧ xs.length ≤ 1000 then .ok (.tup (List.replicate k.toNat xs).flatten) else .stuck
  | .str x, .int k => if -1000000 ≤ k ∧ k ≤ 1000 ∧ x.length ≤ 1000 then .ok (.str (strMul x k)) else .stuck
  | _, _ => .stuck
def D.fdiv : D → D → R D
  | .int a, .int b => if divOk b then .ok (.int (a / b)) else .stuck
  | _, _ => .stuck
def D.mod : D → D → R D
  | .int a, .int b => if 0 < b then .ok (.int (a % b)) else .stuck
  | _, _ => .stuck
def D.pow : D → D → R D
  | .int a, .int b => if powOk a b then .ok (.int (a ^ b.toNat)) else .stuck
  | _, _ => .stuck
def D.shr : D → D → R D
  | .int a, .int b => if 0 ≤ b then .ok (.int (a / 2 ^ b.toNat)) else .stuck
  | _, _ => .stuck
def D.band : D → D → R D
  | .int a, .int b => .ok (.int (Builtin.bitAnd a b))
  | _, _ => .stuck
def Bop.f : Bop → D → D → R D
  | .add => D.add | .sub => D.sub | .mul => D.mul | .fdiv => D.fdiv | .mod => D.mod | .pow => D.pow | .shr => D.shr | .band => D.band

/-- a rule's wants: whatever the pure function answers -/
def rD (K : PySem.W.Frag) (mg : Str → Option Value) (g : D → D → R D) : R2 := fun x y H Q =>
  ∃ (Hs : Hp) (a b : D) (E : XK), Ex Hs H ∧ Rep K Hs a x ∧ Rep K Hs b y ∧ PstD K mg Hs H (g a b) Q E
theorem size_eq : (sizeLine : Nat) = 16777216 := sizeLine_eq
section
variable {X : Cx}
theorem bs_add : OpR X (binaryOp .Add) (rD X.K X.mg D.add) := by
  intro pins s σ H x y v u Q I rx ry h
  obtain ⟨Hs, a, b, E, he, ra, rb, hp⟩ := h
  cases a with
  | int i =>
    cases b with
    | int j =>
      rw [ra.intI] at rx
      rw [rb.intI] at ry
      exact op_add pins s σ H _ _ v u Q I rx ry ⟨i, j, rfl, rfl, hp.now he (.int _)⟩
    | _ => exact hp.elim
  | str i =>
    cases b with
    | str j =>
      rw [ra.strI] at rx
      rw [rb.strI] at ry
      have hp : PstD X.K X.mg Hs H (if i.length + j.length ≤ 16777216 then .ok (.str (i ++ j)) else .stuck) Q E := hp
      by_cases hz : i.length + j.length ≤ 16777216
      · rw [if_pos hz] at hp
        exact op_add_str pins s σ H _ _ v u Q I rx ry ⟨i, j, rfl, rfl, by rw [size_eq]; exact hz, hp.now he (.str _)⟩
      · rw [if_neg hz] at hp
        exact hp.elim
    | _ => exact hp.elim
  | lst i =>
    cases b with
    | lst j =>
      have hp : PstD X.K X.mg Hs H (if i.length + j.length ≤ 16777216 then .ok (.lst (i ++ j)) else .stuck) Q E := hp
      by_cases hz : i.length + j.length ≤ 16777216
      · rw [if_pos hz] at hp
        obtain ⟨p, vs, rfl, e1, r1⟩ := ra.lstI
        obtain ⟨q, ws, rfl, e2, r2⟩ := rb.lstI
        refine op_cat pins s σ H _ _ v u Q I rx ry ⟨p, q, vs, ws, rfl, rfl, he _ _ e1, he _ _ e2, by rw [size_eq, ← r1.length, ← r2.length]; exact hz, fun n hn => ?_⟩
        exact hp _ _ _ (Le.new1 he hn) (mk_lst he (r1.append r2) hn)
      · rw [if_neg hz] at hp
        exact hp.elim
    | _ => exact hp.elim
  | tup i =>
    cases b with
    | tup j =>
      have hp : PstD X.K X.mg Hs H (if i.length + j.length ≤ 16777216 then .ok (.tup (i ++ j)) else .stuck) Q E := hp
      by_cases hz : i.length + j.length ≤ 16777216
      · rw [if_pos hz] at hp
        obtain ⟨p, vs, rfl, e1, r1⟩ := ra.tupI
        obtain ⟨q, ws, rfl, e2, r2⟩ := rb.tupI
        refine op_catA pins s σ H _ _ v u Q I rx ry ⟨p, q, vs, ws, rfl, rfl, SqT.of (he _ _ e1), SqT.of (he _ _ e2), by rw [size_eq, ← r1.length, ← r2.length]; exact hz, fun h0 => ?_, fun h0 h1 => ?_, fun h0 h1 n hn => ?_⟩
        · subst h0
          cases r1
          exact hp.now he (.tup e2 r2)
        · subst h1
          cases r2
          rw [List.append_nil] at hp
          exact hp.now he (.tup e1 r1)
        · exact hp _ _ _ (Le.new1 he hn) (mk_tup he (r1.append r2) hn)
      · rw [if_neg hz] at hp
        exact hp.elim
    | _ => exact hp.elim
  | _ => exact hp.elim
theorem bs_int2 {op : Value → Value → Sem Value} {g : D → D → R D} {C : Int → Int → Prop} {f : Int → Int → Int} {c : Int → Int → Bool} (ho : OpR X op (rI C fun i j => .int (f i j)))
    (hg : ∀ a b, (∃ i j, a = .int i ∧ b = .int j ∧ g a b = if c i j = true then .ok (.int (f i j)) else .stuck) ∨ g a b = .stuck) (hc : ∀ i j, c i j = true → C i j) : OpR X op (rD X.K X.mg g) := by
  intro pins s σ H x y v u Q I rx ry h
  obtain ⟨Hs, a, b, E, he, ra, rb, hp⟩ := h
  rcases hg a b with ⟨i, j, rfl, rfl, e⟩ | e
  · rw [e] at hp
    rw [ra.intI] at rx
    rw [rb.intI] at ry
    by_cases hz : c i j = true
    · rw [if_pos hz] at hp
      exact ho pins s σ H _ _ v u Q I rx ry ⟨i, j, rfl, rfl, hc i j hz, hp.now he (.int _)⟩
    · rw [if_neg hz] at hp
      exact hp.elim
  · rw [e] at hp
    exact hp.elim
theorem bs_int0 {op : Value → Value → Sem Value} {g : D → D → R D} {f : Int → Int → Int} (ho : OpR X op (rI0 fun i j => .int (f i j)))
    (hg : ∀ a b, (∃ i j, a = .int i ∧ b = .int j ∧ g a b = .ok (.int (f i j))) ∨ g a b = .stuck) : OpR X op (rD X.K X.mg g) := by
  intro pins s σ H x y v u Q I rx ry h
  obtain ⟨Hs, a, b, E, he, ra, rb, hp⟩ := h
  rcases hg a b with ⟨i, j, rfl, rfl, e⟩ | e
  · rw [e] at hp
    rw [ra.intI] at rx
    rw [rb.intI] at ry
    exact ho pins s σ H _ _ v u Q I rx ry ⟨i, j, rfl, rfl, hp.now he (.int _)⟩
  · rw [e] at hp
    exact hp.elim
theorem bs_sub : OpR X (binaryOp .Sub) (rD X.K X.mg D.sub) := bs_int0 op_sub fun a b => by
  cases a <;> cases b <;> first | exact .inl ⟨_, _, rfl, rfl, rfl⟩ | exact .inr rfl
theorem bs_band : OpR X (binaryOp .BitAnd) (rD X.K X.mg D.band) := bs_int0 op_and fun a b => by
  cases a <;> cases b <;> first | exact .inl ⟨_, _, rfl, rfl, rfl⟩ | exact .inr rfl
theorem bs_fdiv : OpR X (binaryOp .FloorDiv) (rD X.K X.mg D.fdiv) := bs_int2 (c := fun _ j => divOk j) op_fdivW (fun a b => by
  cases a <;> cases b <;> first | exact .inl ⟨_, _, rfl, rfl, rfl⟩ | exact .inr rfl) fun i j h => by
  unfold divOk at h
  simp only [Bool.and_eq_true, decide_eq_true_eq] at h
  exact h
theorem bs_mod : OpR X (binaryOp .Mod) (rD X.K X.mg D.mod) := bs_int2 (c := fun _ j => decide (0 < j)) op_mod (fun a b => by
  cases a <;> cases b <;> first | exact .inl ⟨_, _, rfl, rfl, by simp [D.mod]⟩ | exact .inr rfl) fun i j h => of_decide_eq_true h
theorem bs_pow : OpR X (binaryOp .Pow) (rD X.K X.mg D.pow) := bs_int2 (c := powOk) op_pow (fun a b => by
  cases a <;> cases b <;> first | exact .inl ⟨_, _, rfl, rfl, rfl⟩ | exact .inr rfl) fun i j h => by
  unfold powOk at h
  simp only [Bool.and_eq_true, decide_eq_true_eq] at h
  exact ⟨h.1.1, h.1.2, h.2⟩
theorem bs_shr : OpR X (binaryOp .RShift) (rD X.K X.mg D.shr) := bs_int2 (c := fun _ j => decide (0 ≤ j)) op_shr (fun a b => by
  cases a <;> cases b <;> first | exact .inl ⟨_, _, rfl, rfl, by simp [D.shr]⟩ | exact .inr rfl) fun i j h => of_decide_eq_true h
theorem reps_rep {K : PySem.W.Frag} {H : Hp} {ds : List D} {vs : List V} (r : Reps K H ds vs) : ∀ k : Nat, Reps K H (List.replicate k ds).flatten (List.replicate k vs).flatten
  | 0 => .nil
  | k + 1 => by
    rw [List.replicate_succ, List.replicate_succ, List.flatten_cons, List.flatten_cons]
    exact r.append (reps_rep r k)
theorem rep_size {α : Type} (a : Array α) : ∀ (n : Nat) (acc : Array α), ((List.replicate n a).foldl (· ++ ·) acc).size = acc.size + n * a.size
  | 0, acc => by simp
  | n + 1, acc => by
    rw [List.replicate_succ, List.foldl_cons, rep_size a n, Array.size_append, Nat.succ_mul]
    omega
theorem bs_mul : OpR X (binaryOp .Mult) (rD X.K X.mg D.mul) := by
  intro pins s σ H x y v u Q I rx ry h
  obtain ⟨Hs, a, b, E, he, ra, rb, hp⟩ := h
  cases a with
  | int i =>
    cases b with
    | int j =>
      have hp : PstD X.K X.mg Hs H (if mulOk i j then .ok (.int (i * j)) else .stuck) Q E := hp
      by_cases hz : mulOk i j = true
      · rw [if_pos hz] at hp
        rw [ra.intI] at rx
        rw [rb.intI] at ry
        exact op_mulW pins s σ H _ _ v u Q I rx ry ⟨i, j, rfl, rfl, (by unfold mulOk at hz; unfold CMulW; exact of_decide_eq_true hz), hp.now he (.int _)⟩
      · rw [if_neg hz] at hp
        exact hp.elim
    | _ => exact hp.elim
  | lst i =>
    cases b with
    | int k =>
      have hp : PstD X.K X.mg Hs H (if 0 ≤ k ∧ k < 16777216 ∧ i.length * k.toNat ≤ 16777216 then .ok (.lst (List.replicate k.toNat i).flatten) else .stuck) Q E := hp
      by_cases hz : 0 ≤ k ∧ k < 16777216 ∧ i.length * k.toNat ≤ 16777216
      · rw [if_pos hz] at hp
        obtain ⟨p, vs, rfl, e1, r1⟩ := ra.lstI
        rw [rb.intI] at ry
        refine op_rep pins s σ H _ _ v u Q I rx ry ⟨p, k, vs, rfl, rfl, he _ _ e1, by omega, by omega, by rw [size_eq, ← r1.length]; exact hz.2.2, fun n hn => ?_⟩
        exact hp _ _ _ (Le.new1 he hn) (mk_lst he (reps_rep r1 _) hn)
      · rw [if_neg hz] at hp
        exact hp.elim
    | _ => exact hp.elim
  | tup i =>
    cases b with
    | int k =>
      have hp : PstD X.K X.mg Hs H (if k = 1 then .ok (.tup i) else if i ≠ [] ∧ 2 ≤ k ∧ k ≤ 1000 ∧ i.length ≤ 1000 then .ok (.tup (List.replicate k.toNat i).flatten) else .stuck) Q E := hp
      obtain ⟨p, vs, rfl, e1, r1⟩ := ra.tupI
      rw [rb.intI] at ry
      by_cases h1 : k = 1
      · rw [if_pos h1] at hp
        subst h1
        exact op_rep1 pins s σ H _ _ v u Q I rx ry ⟨p, vs, rfl, rfl, SqT.of (he _ _ e1), hp.now he ra⟩
      · rw [if_neg h1] at hp
        by_cases hz : i ≠ [] ∧ 2 ≤ k ∧ k ≤ 1000 ∧ i.length ≤ 1000
        · rw [if_pos hz] at hp
          refine op_repT pins s σ H _ _ v u Q I rx ry ⟨p, k, vs, rfl, rfl, SqT.of (he _ _ e1), fun z => hz.1 ?_, hz.2.1, hz.2.2.1, by rw [← r1.length]; exact hz.2.2.2, fun n hn => ?_⟩
          · subst z
            cases r1
            rfl
          · exact hp _ _ _ (Le.new1 he hn) (mk_tup he (reps_rep r1 _) hn)
        · rw [if_neg hz] at hp
          exact hp.elim
    | _ => exact hp.elim
  | str x =>
    cases b with
    | int k =>
      have hp : PstD X.K X.mg Hs H (if -1000000 ≤ k ∧ k ≤ 1000 ∧ x.length ≤ 1000 then .ok (.str (strMul x k)) else .stuck) Q E := hp
      by_cases hz : -1000000 ≤ k ∧ k ≤ 1000 ∧ x.length ≤ 1000
      · rw [if_pos hz] at hp
        rw [ra.strI] at rx
        rw [rb.intI] at ry
        obtain ⟨t, rfl⟩ := rx
        obtain ⟨t2, rfl⟩ := ry
        have q := hp.now he (.str _)
        refine PySem.P.mul_str (by rw [decide_eq_false (by omega), decide_eq_false (by omega)]; rfl) (fun h1 _ => ?_) (fun h1 _ => ?_) ?_
        · have h2 : ((x.length : Nat) : Int) ≤ (2 ^ 63 - 1) / k := by
            rw [Int.le_ediv_iff_mul_le (by omega)]
            have : ((x.length : Nat) : Int) * k ≤ 1000 * 1000 := Int.mul_le_mul (by omega) (by omega) (by omega) (by omega)
            omega
          omega
        · have : x.length * k.toNat ≤ 1000 * 1000 := Nat.mul_le_mul (by omega) (by omega)
          unfold Builtin.Str.tooLong
          rw [sizeLine_eq]
          exact decide_eq_false (by omega)
        · unfold strMul at q
          by_cases h1 : k < 1
          · rw [if_pos h1] at q ⊢
            exact ⟨by decide, .str _, H, I.tok _, ⟨_, rfl⟩, q⟩
          · rw [if_neg h1] at q ⊢
            by_cases h2 : (k == 1 || x.length == 0) = true
            · rw [if_pos h2] at q ⊢
              exact ⟨.str _, H, I, ⟨_, rfl⟩, q⟩
            · rw [if_neg h2] at q ⊢
              refine ⟨?_, .str _, H, I.tok _, ⟨_, rfl⟩, q⟩
              have : x.length * k.toNat ≤ 1000 * 1000 := Nat.mul_le_mul (by omega) (by omega)
              have e := rep_size x.cps k.toNat #[]
              unfold Str.length at this ⊢
              rw [e, sizeLine_eq]
              simp only [Array.size_empty]
              rw [Nat.mul_comm]
              omega
      · rw [if_neg hz] at hp
        exact hp.elim
    | _ => exact hp.elim
  | _ => exact hp.elim
theorem bs_all : ∀ b : Bop, OpR X (binaryOp b.op) (rD X.K X.mg b.f)
  | .add => bs_add | .sub => bs_sub | .mul => bs_mul | .fdiv => bs_fdiv | .mod => bs_mod | .pow => bs_pow | .shr => bs_shr | .band => bs_band
end

def D.deep (a : D) : Bool := a.ns && SeqAt.shaped a.pd
def D.eq : D → D → R D
  | .int i, .int j => .ok (.bl (decide (i = j)))
  | .bl i, .bl j => .ok (.bl (decide (i = j)))
  | .str i, .str j => .ok (.bl (decide (i = j)))
  | .dic, .dic => .ok (.bl true)
  | a, b => if a.deep && b.deep then .ok (.bl (PyData.eqv a.pd b.pd)) else .stuck
def D.neg : R D → R D
  | .ok (.bl b) => .ok (.bl (!b))
  | .exc x => .exc x
  | _ => .stuck
def D.ne (a b : D) : R D := D.neg (D.eq a b)
def D.nn : D → Bool
  | .non => false
  | _ => true
/-- rows of numbers, True and False among them -/
def numD : D → Option Int
  | .int i => some i
  | .bl b => some (b2z b)
  | _ => none
def numsD : List D → Option (List Int)
  | [] => some []
  | d :: ds => match numD d, numsD ds with
    | some i, some l => some (i :: l)
    | _, _ => none
def rowN : D → Option (List Int)
  | .tup ds => numsD ds
  | _ => none
def ltRows (a b : D) : R D := match rowN a, rowN b with
  | some ks, some ls => .ok (.bl (decide (ks < ls)))
  | _, _ => .stuck
def D.lt : D → D → R D
  | .int i, .int j => .ok (.bl (decide (i < j)))
  | a, b => if a.ns && b.ns && PySem.W.alike a.pd b.pd && decide (a.pd.depth ≤ 64) && a.nn then .ok (.bl (PySem.W.dataLt a.pd b.pd)) else ltRows a b
def D.cmpI (p : Int → Int → Bool) : D → D → R D
  | .int i, .int j => .ok (.bl (p i j))
  | _, _ => .stuck
def D.flat : D → Bool
  | .non => true | .bl _ => true | .int _ => true | .str _ => true | _ => false
def D.isin : D → D → R D
  | x, .tup ys => if x.flat && ys.all D.flat then .ok (.bl (ys.any fun y => PyData.eqv y.pd x.pd)) else if x.deep && (D.tup ys).deep then .ok (.bl (ys.any fun y => PyData.eqv y.pd x.pd)) else .stuck
  | x, .lst ys => if x.deep && (D.lst ys).deep then .ok (.bl (ys.any fun y => PyData.eqv y.pd x.pd)) else .stuck
  | .str x, .str y => if x.length = 1 then .ok (.bl (decide (x.cps.getD 0 0 ∈ y.cps.toList))) else .stuck
  | _, _ => .stuck
def D.notin (x y : D) : R D := D.neg (D.isin x y)
inductive Cop where
  | eq | ne | lt | le | gt | ge | isin | notin
  deriving DecidableEq
def Cop.op : Cop → CmpOp
  | .eq => .Eq | .ne => .NotEq | .lt => .Lt | .le => .LtE | .gt => .Gt | .ge => .GtE | .isin => .In | .notin => .NotIn
def Cop.f : Cop → D → D → R D
  | .eq => D.eq | .ne => D.ne | .lt => D.lt | .le => D.cmpI fun i j => decide (i ≤ j) | .gt => D.cmpI fun i j => decide (j < i) | .ge => D.cmpI fun i j => decide (j ≤ i)
  | .isin => D.isin | .notin => D.notin
section
variable {X : Cx}
theorem D.deep_ns {a : D} (h : a.deep = true) : a.ns = true ∧ SeqAt.shaped a.pd = true := by
  unfold D.deep at h
  simpa only [Bool.and_eq_true] using h
/-- an empty dict beside another one -/
theorem dic_beside {pins : List (Addr × Obj)} {σ : L2.St} {H : Hp} {s : Shared} {Q : VK} {E : XK} {a b : Addr} (hu : X.A.units < cLine) (I : Inv X pins σ H s) (ea : H a = some (.dK [])) (eb : H b = some (.dK [])) (q : Q (.bl true) H) :
    wpAny (model X.prog X.w) X.A (compareOp .Eq (.ref a) (.ref b)) (EP X pins σ Q) X.xe s := by
  have da := I.hok a _ ea
  have db := I.hok b _ eb
  obtain ⟨_, na, wa, pa, ta⟩ := (da : ObjOk X.prog X.w H s.heap a (.dK []))
  obtain ⟨_, nb, wb, pb, tb⟩ := (db : ObjOk X.prog X.w H s.heap b (.dK []))
  cases pa
  cases pb
  exact PySem.W.keq_eq (knd := mixKind X.prog X.w) (ka := []) (kb := []) (r := true) na nb ta tb hu (fun _ => .nil) ⟨.bl true, H, I, rfl, q⟩
theorem dic_other {pins : List (Addr × Obj)} {σ : L2.St} {H : Hp} {s : Shared} {Q : VK} {E : XK} {a b : Addr} (hu : X.A.units < cLine) (I : Inv X pins σ H s) (ea : H a = some (.dK [])) (eb : H b = some (.dK [])) (q : Q (.bl false) H) :
    wpAny (model X.prog X.w) X.A (compareOp .NotEq (.ref a) (.ref b)) (EP X pins σ Q) X.xe s := by
  have da := I.hok a _ ea
  have db := I.hok b _ eb
  obtain ⟨_, na, wa, pa, ta⟩ := (da : ObjOk X.prog X.w H s.heap a (.dK []))
  obtain ⟨_, nb, wb, pb, tb⟩ := (db : ObjOk X.prog X.w H s.heap b (.dK []))
  cases pa
  cases pb
  exact PySem.W.keq_ne (knd := mixKind X.prog X.w) (ka := []) (kb := []) (r := true) na nb ta tb hu (fun _ => .nil) ⟨.bl false, H, I, rfl, q⟩
theorem scalE {v : V} {u : Value} {pins : List (Addr × Obj)} {σ : L2.St} {H Hs : Hp} {s : Shared} {Q : VK} {E : XK} {a b : D} {x y : V} (hu : X.A.units + 64 < cLine) (I : Inv X pins σ H s) (he : Ex Hs H) (ra : Rep X.K Hs a x) (rb : Rep X.K Hs b y)
    {vv uu : Value} (rx : RelV x vv) (ry : RelV y uu) (hp : PstD X.K X.mg Hs H (D.eq a b) Q E) : wpAny (model X.prog X.w) X.A (compareOp .Eq vv uu) (EP X pins σ Q) X.xe s := by
  have gen : PstD X.K X.mg Hs H (if a.deep && b.deep then .ok (.bl (PyData.eqv a.pd b.pd)) else .stuck) Q E → wpAny (model X.prog X.w) X.A (compareOp .Eq vv uu) (EP X pins σ Q) X.xe s := fun hp => by
    by_cases hz : (a.deep && b.deep) = true
    · rw [if_pos hz] at hp
      rw [Bool.and_eq_true] at hz
      have h1 := D.deep_ns hz.1
      have h2 := D.deep_ns hz.2
      exact op_eqD hu pins s σ H x y vv uu Q I rx ry ⟨a.pd, b.pd, (ra.mono he).dp h1.1, (rb.mono he).dp h2.1, h1.2, h2.2, hp.now he (.bl _)⟩
    · rw [if_neg hz] at hp
      exact hp.elim
  cases a with
  | int i =>
    cases b with
    | int j =>
      rw [ra.intI] at rx
      rw [rb.intI] at ry
      have hq : Q (.bl (decide (i = j))) H := hp.now he (.bl _)
      refine op_eq pins s σ H _ _ vv uu Q I rx ry ⟨rfl, ?_⟩
      have : decide (V.int i = V.int j) = decide (i = j) := by simp
      rw [this]
      exact hq
    | _ => exact gen hp
  | bl i =>
    cases b with
    | bl j =>
      rw [ra.blI] at rx
      rw [rb.blI] at ry
      have hq : Q (.bl (decide (i = j))) H := hp.now he (.bl _)
      refine op_eq pins s σ H _ _ vv uu Q I rx ry ⟨rfl, ?_⟩
      have : decide (V.bl i = V.bl j) = decide (i = j) := by simp
      rw [this]
      exact hq
    | _ => exact gen hp
  | str i =>
    cases b with
    | str j =>
      rw [ra.strI] at rx
      rw [rb.strI] at ry
      have hq : Q (.bl (decide (i = j))) H := hp.now he (.bl _)
      refine op_eq pins s σ H _ _ vv uu Q I rx ry ⟨rfl, ?_⟩
      have : decide (V.str i = V.str j) = decide (i = j) := by simp
      rw [this]
      exact hq
    | _ => exact gen hp
  | dic =>
    cases b with
    | dic =>
      obtain ⟨p, rfl, h1⟩ := ra.dicI
      obtain ⟨p2, rfl, h2⟩ := rb.dicI
      obtain rfl : vv = Value.ref p := rx
      obtain rfl : uu = Value.ref p2 := ry
      exact dic_beside (E := E) (by omega) I (he _ _ h1) (he _ _ h2) (hp.now he (.bl _))
    | _ => exact gen hp
  | _ => exact gen hp
theorem bs_eq (hu : X.A.units + 64 < cLine) : OpR X (compareOp .Eq) (rD X.K X.mg D.eq) := by
  intro pins s σ H x y v u Q I rx ry h
  obtain ⟨Hs, a, b, E, he, ra, rb, hp⟩ := h
  exact scalE (v := x) (u := v) hu I he ra rb rx ry hp
theorem scalN {pins : List (Addr × Obj)} {σ : L2.St} {H Hs : Hp} {s : Shared} {Q : VK} {E : XK} {a b : D} {x y : V} (hu : X.A.units + 64 < cLine) (I : Inv X pins σ H s) (he : Ex Hs H) (ra : Rep X.K Hs a x) (rb : Rep X.K Hs b y)
    {vv uu : Value} (rx : RelV x vv) (ry : RelV y uu) (hp : PstD X.K X.mg Hs H (D.ne a b) Q E) : wpAny (model X.prog X.w) X.A (compareOp .NotEq vv uu) (EP X pins σ Q) X.xe s := by
  have gen : PstD X.K X.mg Hs H (D.neg (if a.deep && b.deep then .ok (.bl (PyData.eqv a.pd b.pd)) else .stuck)) Q E → wpAny (model X.prog X.w) X.A (compareOp .NotEq vv uu) (EP X pins σ Q) X.xe s := fun hp => by
    by_cases hz : (a.deep && b.deep) = true
    · rw [if_pos hz] at hp
      rw [Bool.and_eq_true] at hz
      have h1 := D.deep_ns hz.1
      have h2 := D.deep_ns hz.2
      exact op_neD hu pins s σ H x y vv uu Q I rx ry ⟨a.pd, b.pd, (ra.mono he).dp h1.1, (rb.mono he).dp h2.1, h1.2, h2.2, Pst.now (d := D.bl _) hp he (.bl _)⟩
    · rw [if_neg hz] at hp
      exact hp.elim
  cases a with
  | int i =>
    cases b with
    | int j =>
      rw [ra.intI] at rx
      rw [rb.intI] at ry
      have hq : Q (.bl (!decide (i = j))) H := Pst.now (d := D.bl _) hp he (.bl _)
      refine op_ne pins s σ H _ _ vv uu Q I rx ry ⟨rfl, ?_⟩
      have : decide (V.int i = V.int j) = decide (i = j) := by simp
      rw [this]
      exact hq
    | _ => exact gen hp
  | bl i =>
    cases b with
    | bl j =>
      rw [ra.blI] at rx
      rw [rb.blI] at ry
      have hq : Q (.bl (!decide (i = j))) H := Pst.now (d := D.bl _) hp he (.bl _)
      refine op_ne pins s σ H _ _ vv uu Q I rx ry ⟨rfl, ?_⟩
      have : decide (V.bl i = V.bl j) = decide (i = j) := by simp
      rw [this]
      exact hq
    | _ => exact gen hp
  | str i =>
    cases b with
    | str j =>
      rw [ra.strI] at rx
      rw [rb.strI] at ry
      have hq : Q (.bl (!decide (i = j))) H := Pst.now (d := D.bl _) hp he (.bl _)
      refine op_ne pins s σ H _ _ vv uu Q I rx ry ⟨rfl, ?_⟩
      have : decide (V.str i = V.str j) = decide (i = j) := by simp
      rw [this]
      exact hq
    | _ => exact gen hp
  | dic =>
    cases b with
    | dic =>
      obtain ⟨p, rfl, h1⟩ := ra.dicI
      obtain ⟨p2, rfl, h2⟩ := rb.dicI
      obtain rfl : vv = Value.ref p := rx
      obtain rfl : uu = Value.ref p2 := ry
      exact dic_other (E := E) (by omega) I (he _ _ h1) (he _ _ h2) (Pst.now (d := D.bl _) hp he (.bl _))
    | _ => exact gen hp
  | _ => exact gen hp
theorem bs_ne (hu : X.A.units + 64 < cLine) : OpR X (compareOp .NotEq) (rD X.K X.mg D.ne) := by
  intro pins s σ H x y v u Q I rx ry h
  obtain ⟨Hs, a, b, E, he, ra, rb, hp⟩ := h
  exact scalN hu I he ra rb rx ry hp
theorem numsD_V {K : PySem.W.Frag} {Hs : Hp} : ∀ {ds : List D} {vs : List V} {us : List Value} {ks : List Int}, Reps K Hs ds vs → Vals vs us → numsD ds = some ks → numsV us = some ks
  | _, _, _, ks, .nil, .nil, h => h
  | d :: ds, v :: vs, u :: us, ks, .cons r rs, .cons e es, h => by
    unfold numsD at h
    cases h1 : numD d with
    | none => rw [h1] at h; cases h
    | some i =>
      cases h2 : numsD ds with
      | none => rw [h1, h2] at h; cases h
      | some l =>
        rw [h1, h2] at h
        have ih := numsD_V rs es h2
        have hv : numV u = some i := by
          cases d with
          | int j =>
            rw [r.intI] at e
            obtain ⟨t, rfl⟩ := e
            exact h1
          | bl b =>
            rw [r.blI] at e
            have e : u = .bool b := e
            rw [e]
            exact h1
          | _ => cases h1
        unfold numsV
        rw [hv, ih]
        exact h
theorem rowN_V {pins : List (Addr × Obj)} {σ : L2.St} {H Hs : Hp} {s : Shared} {d : D} {v : V} {u : Value} {ks : List Int} (I : Inv X pins σ H s) (he : Ex Hs H) (r : Rep X.K Hs d v) (e : RelV v u) (h : rowN d = some ks) : RowIs s.heap u ks := by
  cases d with
  | tup ds =>
    obtain ⟨p, vs, rfl, q1, q2⟩ := r.tupI
    obtain rfl : u = Value.ref p := e
    obtain ⟨its, rv, pl, _⟩ := I.tuple (SqT.of (he _ _ q1))
    exact ⟨p, its.toArray, rfl, pl, numsD_V q2 rv h⟩
  | _ => cases h
theorem bs_lt (hu : X.A.units + 64 < cLine) : OpR X (compareOp .Lt) (rD X.K X.mg D.lt) := by
  intro pins s σ H x y v u Q I rx ry h
  obtain ⟨Hs, a, b, E, he, ra, rb, hp⟩ := h
  have gen : PstD X.K X.mg Hs H (if a.ns && b.ns && PySem.W.alike a.pd b.pd && decide (a.pd.depth ≤ 64) && a.nn then .ok (.bl (PySem.W.dataLt a.pd b.pd)) else ltRows a b) Q E → wpAny (model X.prog X.w) X.A (compareOp .Lt v u) (EP X pins σ Q) X.xe s := fun hp => by
    by_cases hz : (a.ns && b.ns && PySem.W.alike a.pd b.pd && decide (a.pd.depth ≤ 64) && a.nn) = true
    · rw [if_pos hz] at hp
      simp only [Bool.and_eq_true, decide_eq_true_eq] at hz
      obtain ⟨⟨⟨⟨h1, h2⟩, h3⟩, h4⟩, h5⟩ := hz
      obtain ⟨as, q1⟩ := Dp.reads I _ x v ((ra.mono he).dp h1) rx
      obtain ⟨bs, q2⟩ := Dp.reads I _ y u ((rb.mono he).dp h2) ry
      refine PySem.W.lt_data q1 q2 h3 ?_ (by have := Nat.min_le_left a.pd.depth b.pd.depth; omega) ⟨.bl _, H, I, rfl, hp.now he (.bl _)⟩
      cases a <;> first | (intro z; cases z; done) | (exact absurd h5 (by decide))
    · rw [if_neg hz] at hp
      unfold ltRows at hp
      cases h1 : rowN a with
      | none => rw [h1] at hp; exact hp.elim
      | some ks =>
        cases h2 : rowN b with
        | none => rw [h1, h2] at hp; exact hp.elim
        | some ls =>
          rw [h1, h2] at hp
          exact rl_rows (A := X.A) (rowN_V I he ra rx h1) (rowN_V I he rb ry h2) (by omega) X.prog X.w X.xe _ ⟨.bl _, H, I, rfl, Pst.now (d := D.bl _) hp he (.bl _)⟩
  cases a with
  | int i =>
    cases b with
    | int j =>
      rw [ra.intI] at rx
      rw [rb.intI] at ry
      exact op_lt pins s σ H _ _ v u Q I rx ry ⟨i, j, rfl, rfl, hp.now he (.bl _)⟩
    | _ => exact gen hp
  | _ => exact gen hp
theorem bs_cmpI {op : Value → Value → Sem Value} {p : Int → Int → Bool} (ho : OpR X op (rI0 fun i j => .bl (p i j))) : OpR X op (rD X.K X.mg (D.cmpI p)) := by
  intro pins s σ H x y v u Q I rx ry h
  obtain ⟨Hs, a, b, E, he, ra, rb, hp⟩ := h
  cases a with
  | int i =>
    cases b with
    | int j =>
      rw [ra.intI] at rx
      rw [rb.intI] at ry
      exact ho pins s σ H _ _ v u Q I rx ry ⟨i, j, rfl, rfl, hp.now he (.bl _)⟩
    | _ => exact hp.elim
  | _ => exact hp.elim
theorem flat_V {K : PySem.W.Frag} {H : Hp} {d : D} {v : V} (r : Rep K H d v) (h : d.flat = true) : flatV v = true := by
  cases r <;> first | rfl | cases h
theorem flat_eqV {K : PySem.W.Frag} {H : Hp} {a b : D} {x y : V} (ra : Rep K H a x) (rb : Rep K H b y) (ha : a.flat = true) (hb : b.flat = true) : eqV x y = PyData.eqv a.pd b.pd := by
  cases ra <;> first
    | (simp [D.flat] at ha; done)
    | (cases rb <;> first | (simp [D.flat] at hb; done) | simp [eqV, D.pd, PyData.eqv])
theorem flat_all {K : PySem.W.Frag} {H : Hp} : ∀ {ds : List D} {vs : List V}, Reps K H ds vs → ds.all D.flat = true → vs.all flatV = true
  | _, _, .nil, _ => rfl
  | _, _, .cons r t, h => by
    simp only [List.all_cons, Bool.and_eq_true] at h ⊢
    exact ⟨flat_V r h.1, flat_all t h.2⟩
theorem flat_in {K : PySem.W.Frag} {H : Hp} {d : D} {x : V} (r : Rep K H d x) (hd : d.flat = true) : ∀ {ds : List D} {vs : List V}, Reps K H ds vs → ds.all D.flat = true → inV x vs = ds.any fun y => PyData.eqv y.pd d.pd
  | _, _, .nil, _ => rfl
  | _, _, .cons r1 t, h => by
    simp only [List.all_cons, Bool.and_eq_true] at h
    have ih := flat_in r hd t h.2
    unfold inV at ih ⊢
    simp only [List.any_cons]
    rw [ih, flat_eqV r1 r h.1 hd]
theorem any_pds (x : D) : ∀ ys : List D, (D.pds ys).any (fun z => PyData.eqv z x.pd) = ys.any fun y => PyData.eqv y.pd x.pd
  | [] => rfl
  | y :: ys => by simp only [D.pds, List.any_cons, any_pds x ys]
def rInT (K : PySem.W.Frag) : R2 := fun x y H Q => ∃ d ds, Dp K H x d ∧ Dp K H y (.tuple ds) ∧ SeqAt.shaped d = true ∧ SeqAt.shaped (.tuple ds) = true ∧ Q (.bl (ds.any fun z => PyData.eqv z d)) H
def rNotInT (K : PySem.W.Frag) : R2 := fun x y H Q => ∃ d ds, Dp K H x d ∧ Dp K H y (.tuple ds) ∧ SeqAt.shaped d = true ∧ SeqAt.shaped (.tuple ds) = true ∧ Q (.bl (!ds.any fun z => PyData.eqv z d)) H
theorem op_inT (hu : X.A.units + 65 < cLine) : OpR X (compareOp .In) (rInT X.K) := by
  intro pins s σ H x y v u Q I rx ry h
  obtain ⟨d, ds, hd, he, sd, se, q⟩ := h
  obtain ⟨as, r1⟩ := Dp.reads I d x v hd rx
  obtain ⟨bs, r2⟩ := Dp.reads I (.tuple ds) y u he ry
  exact SeqAt.in_tuple_reads r2 r1 (SeqAt.canLay_of_shaped se) (SeqAt.canLay_of_shaped sd) (room_in_shaped sd hu) ⟨.bl _, H, I, rfl, q⟩
theorem op_notInT (hu : X.A.units + 65 < cLine) : OpR X (compareOp .NotIn) (rNotInT X.K) := by
  intro pins s σ H x y v u Q I rx ry h
  obtain ⟨d, ds, hd, he, sd, se, q⟩ := h
  obtain ⟨as, r1⟩ := Dp.reads I d x v hd rx
  obtain ⟨bs, r2⟩ := Dp.reads I (.tuple ds) y u he ry
  exact SeqAt.notIn_tuple_reads r2 r1 (SeqAt.canLay_of_shaped se) (SeqAt.canLay_of_shaped sd) (room_in_shaped sd hu) ⟨.bl _, H, I, rfl, q⟩
theorem bs_in (hu : X.A.units + 65 < cLine) : OpR X (compareOp .In) (rD X.K X.mg D.isin) := by
  intro pins s σ H x y v u Q I rx ry h
  obtain ⟨Hs, a, b, E, he, ra, rb, hp⟩ := h
  cases b with
  | tup ys =>
    have hp : PstD X.K X.mg Hs H (if a.flat && ys.all D.flat then .ok (.bl (ys.any fun y => PyData.eqv y.pd a.pd)) else if a.deep && (D.tup ys).deep then .ok (.bl (ys.any fun y => PyData.eqv y.pd a.pd)) else .stuck) Q E := by
      cases a <;> exact hp
    by_cases hz : (a.flat && ys.all D.flat) = true
    · rw [if_pos hz] at hp
      rw [Bool.and_eq_true] at hz
      obtain ⟨p, vs, rfl, e1, r1⟩ := rb.tupI
      refine op_in_seq pins s σ H _ _ v u Q I rx ry ⟨p, vs, rfl, .inr (SqT.of (he _ _ e1)), flat_V ra hz.1, flat_all r1 hz.2, ?_⟩
      rw [if_neg Bool.false_ne_true, flat_in ra hz.1 r1 hz.2]
      exact hp.now he (.bl _)
    · rw [if_neg hz] at hp
      by_cases hz : (a.deep && (D.tup ys).deep) = true
      · rw [if_pos hz] at hp
        rw [Bool.and_eq_true] at hz
        have h1 := D.deep_ns hz.1
        have h2 := D.deep_ns hz.2
        refine op_inT hu pins s σ H _ _ v u Q I rx ry ⟨a.pd, D.pds ys, (ra.mono he).dp h1.1, (rb.mono he).dp h2.1, h1.2, h2.2, ?_⟩
        rw [any_pds]
        exact hp.now he (.bl _)
      · rw [if_neg hz] at hp
        exact hp.elim
  | lst ys =>
    have hp : PstD X.K X.mg Hs H (if a.deep && (D.lst ys).deep then .ok (.bl (ys.any fun y => PyData.eqv y.pd a.pd)) else .stuck) Q E := by
      cases a <;> exact hp
    by_cases hz : (a.deep && (D.lst ys).deep) = true
    · rw [if_pos hz] at hp
      rw [Bool.and_eq_true] at hz
      have h1 := D.deep_ns hz.1
      have h2 := D.deep_ns hz.2
      refine op_inD hu pins s σ H _ _ v u Q I rx ry ⟨a.pd, D.pds ys, (ra.mono he).dp h1.1, (rb.mono he).dp h2.1, h1.2, h2.2, ?_⟩
      rw [any_pds]
      exact hp.now he (.bl _)
    · rw [if_neg hz] at hp
      exact hp.elim
  | str z =>
    cases a with
    | str c =>
      have hp : PstD X.K X.mg Hs H (if c.length = 1 then .ok (.bl (decide (c.cps.getD 0 0 ∈ z.cps.toList))) else .stuck) Q E := hp
      by_cases hz : c.length = 1
      · rw [if_pos hz] at hp
        rw [ra.strI] at rx
        rw [rb.strI] at ry
        obtain ⟨n, rfl⟩ : ∃ n, c = ⟨#[n]⟩ := by
          obtain ⟨⟨l⟩⟩ := c
          match l, hz with
          | [n], _ => exact ⟨n, rfl⟩
        exact op_in_sign pins s σ H _ _ v u Q I rx ry ⟨n, z, rfl, rfl, hp.now he (.bl _)⟩
      · rw [if_neg hz] at hp
        exact hp.elim
    | _ => exact hp.elim
  | _ => cases a <;> exact hp.elim
theorem bs_notin (hu : X.A.units + 65 < cLine) : OpR X (compareOp .NotIn) (rD X.K X.mg D.notin) := by
  intro pins s σ H x y v u Q I rx ry h
  obtain ⟨Hs, a, b, E, he, ra, rb, hp⟩ := h
  cases b with
  | tup ys =>
    have hp : PstD X.K X.mg Hs H (D.neg (if a.flat && ys.all D.flat then .ok (.bl (ys.any fun y => PyData.eqv y.pd a.pd)) else if a.deep && (D.tup ys).deep then .ok (.bl (ys.any fun y => PyData.eqv y.pd a.pd)) else .stuck)) Q E := by
      cases a <;> exact hp
    by_cases hz : (a.flat && ys.all D.flat) = true
    · rw [if_pos hz] at hp
      rw [Bool.and_eq_true] at hz
      obtain ⟨p, vs, rfl, e1, r1⟩ := rb.tupI
      refine op_notIn_seq pins s σ H _ _ v u Q I rx ry ⟨p, vs, rfl, .inr (SqT.of (he _ _ e1)), flat_V ra hz.1, flat_all r1 hz.2, ?_⟩
      rw [if_pos rfl, flat_in ra hz.1 r1 hz.2]
      exact Pst.now (d := D.bl _) hp he (.bl _)
    · rw [if_neg hz] at hp
      by_cases hz : (a.deep && (D.tup ys).deep) = true
      · rw [if_pos hz] at hp
        rw [Bool.and_eq_true] at hz
        have h1 := D.deep_ns hz.1
        have h2 := D.deep_ns hz.2
        refine op_notInT hu pins s σ H _ _ v u Q I rx ry ⟨a.pd, D.pds ys, (ra.mono he).dp h1.1, (rb.mono he).dp h2.1, h1.2, h2.2, ?_⟩
        rw [any_pds]
        exact Pst.now (d := D.bl _) hp he (.bl _)
      · rw [if_neg hz] at hp
        exact hp.elim
  | lst ys =>
    have hp : PstD X.K X.mg Hs H (D.neg (if a.deep && (D.lst ys).deep then .ok (.bl (ys.any fun y => PyData.eqv y.pd a.pd)) else .stuck)) Q E := by
      cases a <;> exact hp
    by_cases hz : (a.deep && (D.lst ys).deep) = true
    · rw [if_pos hz] at hp
      rw [Bool.and_eq_true] at hz
      have h1 := D.deep_ns hz.1
      have h2 := D.deep_ns hz.2
      refine op_notInD hu pins s σ H _ _ v u Q I rx ry ⟨a.pd, D.pds ys, (ra.mono he).dp h1.1, (rb.mono he).dp h2.1, h1.2, h2.2, ?_⟩
      rw [any_pds]
      exact Pst.now (d := D.bl _) hp he (.bl _)
    · rw [if_neg hz] at hp
      exact hp.elim
  | str z =>
    cases a with
    | str c =>
      have hp : PstD X.K X.mg Hs H (D.neg (if c.length = 1 then .ok (.bl (decide (c.cps.getD 0 0 ∈ z.cps.toList))) else .stuck)) Q E := hp
      by_cases hz : c.length = 1
      · rw [if_pos hz] at hp
        rw [ra.strI] at rx
        rw [rb.strI] at ry
        obtain ⟨n, rfl⟩ : ∃ n, c = ⟨#[n]⟩ := by
          obtain ⟨⟨l⟩⟩ := c
          match l, hz with
          | [n], _ => exact ⟨n, rfl⟩
        exact op_notIn_sign pins s σ H _ _ v u Q I rx ry ⟨n, z, rfl, rfl, Pst.now (d := D.bl _) hp he (.bl _)⟩
      · rw [if_neg hz] at hp
        exact hp.elim
    | _ => exact hp.elim
  | _ => cases a <;> exact hp.elim
theorem cs_all (hu : X.A.units + 65 < cLine) : ∀ c : Cop, OpR X (compareOp c.op) (rD X.K X.mg c.f)
  | .eq => bs_eq (by omega) | .ne => bs_ne (by omega) | .lt => bs_lt (by omega) | .le => bs_cmpI op_le | .gt => bs_cmpI op_gt | .ge => bs_cmpI op_ge | .isin => bs_in hu | .notin => bs_notin hu
end
end Py

namespace Py
open PySem PySem.Spec PyProof.Rows L2

def rL (K : PySem.W.Frag) (mg : Str → Option Value) (g : List D → R D) : List V → Hp → VK → Prop := fun vs H Q =>
  ∃ (Hs : Hp) (ds : List D) (E : XK), Ex Hs H ∧ Reps K Hs ds vs ∧ PstD K mg Hs H (g ds) Q E

/-- the ints that a list is -/
def asInts : List D → Option (List Int)
  | [] => some []
  | .int i :: r => (asInts r).map (i :: ·)
  | _ :: _ => none
theorem asInts_some : ∀ {ds : List D} {ns : List Int}, asInts ds = some ns → ds = ns.map D.int
  | [], ns, h => by simp [asInts] at h; subst h; rfl
  | .int i :: r, ns, h => by
    simp only [asInts] at h
    cases e : asInts r with
    | none => rw [e] at h; cases h
    | some l =>
      rw [e] at h
      have h' : i :: l = ns := by simpa using h
      subst h'
      rw [asInts_some e]
      rfl
  | .non :: r, ns, h => by simp [asInts] at h
  | .bl _ :: r, ns, h => by simp [asInts] at h
  | .str _ :: r, ns, h => by simp [asInts] at h
  | .tup _ :: r, ns, h => by simp [asInts] at h
  | .lst _ :: r, ns, h => by simp [asInts] at h
  | .scr _ :: r, ns, h => by simp [asInts] at h
  | .dic :: r, ns, h => by simp [asInts] at h
  | .ftp _ :: r, ns, h => by simp [asInts] at h
  | .obj _ _ _ :: r, ns, h => by simp [asInts] at h
  | .dct _ _ :: r, ns, h => by simp [asInts] at h
  | .dkt _ :: r, ns, h => by simp [asInts] at h
@[simp] theorem asInts_map : ∀ ns : List Int, asInts (ns.map D.int) = some ns
  | [] => rfl
  | n :: ns => by simp [asInts, asInts_map ns]
def asBls : List D → Option (List Bool)
  | [] => some []
  | .bl i :: r => (asBls r).map (i :: ·)
  | _ :: _ => none
theorem asBls_some : ∀ {ds : List D} {ns : List Bool}, asBls ds = some ns → ds = ns.map D.bl
  | [], ns, h => by simp [asBls] at h; subst h; rfl
  | .bl i :: r, ns, h => by
    simp only [asBls] at h
    cases e : asBls r with
    | none => rw [e] at h; cases h
    | some l =>
      rw [e] at h
      have h' : i :: l = ns := by simpa using h
      subst h'
      rw [asBls_some e]
      rfl
  | .non :: r, ns, h => by simp [asBls] at h
  | .int _ :: r, ns, h => by simp [asBls] at h
  | .str _ :: r, ns, h => by simp [asBls] at h
  | .tup _ :: r, ns, h => by simp [asBls] at h
  | .lst _ :: r, ns, h => by simp [asBls] at h
  | .scr _ :: r, ns, h => by simp [asBls] at h
  | .dic :: r, ns, h => by simp [asBls] at h
  | .ftp _ :: r, ns, h => by simp [asBls] at h
  | .obj _ _ _ :: r, ns, h => by simp [asBls] at h
  | .dct _ _ :: r, ns, h => by simp [asBls] at h
  | .dkt _ :: r, ns, h => by simp [asBls] at h
@[simp] theorem asBls_map : ∀ ns : List Bool, asBls (ns.map D.bl) = some ns
  | [] => rfl
  | n :: ns => by simp [asBls, asBls_map ns]

def D.len : D → R D
  | .str x => if x.length ≤ 16777216 then .ok (.int x.length) else .stuck
  | .lst xs => .ok (.int xs.length)
  | .tup xs => .ok (.int xs.length)
  | .scr xs => .ok (.int xs.length)
  | .ftp xs => .ok (.int xs.length)
  | _ => .stuck
def D.abs : D → R D
  | .int i => .ok (.int (if i < 0 then -i else i))
  | _ => .stuck
def D.max2 : D → D → R D
  | .int i, .int j => .ok (.int (if j > i then j else i))
  | _, _ => .stuck
def D.min2 : D → D → R D
  | .int i, .int j => .ok (.int (if j < i then j else i))
  | _, _ => .stuck
def D.seq : D → Option (List D)
  | .lst xs => some xs
  | .tup xs => some xs
  | _ => none
def D.minL (d : D) : R D := match d.seq.bind asInts with
  | some (n :: ns) => .ok (.int (ns.foldl min n))
  | _ => .stuck
def D.maxL (d : D) : R D := match d.seq.bind asInts with
  | some (n :: ns) => .ok (.int (ns.foldl max n))
  | _ => .stuck
/-- min(xs, default=None), xs a list -/
def D.minD : D → R D
  | .lst xs => match asInts xs with
    | some (n :: ns) => .ok (.int (ns.foldl min n))
    | some [] => .ok .non
    | none => .stuck
  | _ => .stuck
def D.listOf : D → R D
  | .lst xs => .ok (.lst xs)
  | .tup xs => .ok (.lst xs)
  | .scr ns => .ok (.lst (ns.map D.int))
  | _ => .stuck
def D.tupOf : D → R D
  | .lst xs => .ok (.tup xs)
  | .tup xs => .ok (.tup xs)
  | .scr ns => .ok (.tup (ns.map D.int))
  | _ => .stuck
def D.allL : D → R D
  | .lst xs => match asBls xs with
    | some bs => .ok (.bl (bs.all id))
    | none => .stuck
  | _ => .stuck
def D.anyL : D → R D
  | .lst xs => match asBls xs with
    | some bs => .ok (.bl (bs.any id))
    | none => .stuck
  | _ => .stuck
def D.intOf : D → R D
  | .int i => .ok (.int i)
  | .bl b => .ok (.int (if b then 1 else 0))
  | .str x => match PySem.intText? x with
    | some n => if x.length ≤ 640 then .ok (.int n) else .stuck
    | none => .stuck
  | _ => .stuck
def D.isTup : D → Bool
  | .tup (_ :: _) => true
  | _ => false
def D.noTup : D → Bool
  | .tup _ => false
  | .non => false
  | _ => true
def sortOk (ds : List D) : Bool := ds.all D.ns && (ds.all fun a => ds.all fun b => PySem.W.alike a.pd b.pd) && (ds.all fun a => decide (a.pd.depth ≤ 60)) && (ds.all D.isTup || ds.all D.noTup)
def leD (a b : D) : Bool := PySem.W.dataLe false D.pd a b
def keyN (d : D) : List Int := (rowN d).getD []
def rowsOk (xs : List D) : Bool := xs.all fun d => match rowN d with
  | some (_ :: _) => true
  | _ => false
def leN (a b : D) : Bool := !decide (keyN b < keyN a)
def D.sorted : D → R D
  | .lst xs => if sortOk xs then .ok (.lst (xs.mergeSort leD)) else if rowsOk xs then .ok (.lst (xs.mergeSort leN)) else .stuck
  | _ => .stuck

section
variable {X : Cx}
theorem one_in {K : PySem.W.Frag} {Hs : Hp} {ds : List D} {vs : List V} {g : List D → R D} {f : D → R D} (hg : ∀ l, (∃ d, l = [d] ∧ g l = f d) ∨ g l = .stuck) (r : Reps K Hs ds vs) {mg : Str → Option Value} {H : Hp} {Q : VK} {E : XK}
    (h : PstD K mg Hs H (g ds) Q E) : ∃ d v, ds = [d] ∧ vs = [v] ∧ Rep K Hs d v ∧ PstD K mg Hs H (f d) Q E := by
  rcases hg ds with ⟨d, rfl, e⟩ | e
  · cases r with
    | cons r t =>
      cases t
      exact ⟨d, _, rfl, rfl, r, by rw [← e]; exact h⟩
  · rw [e] at h
    exact h.elim
def f1 (f : D → R D) : List D → R D
  | [d] => f d
  | _ => .stuck
def f2 (f : D → D → R D) : List D → R D
  | [d, e] => f d e
  | _ => .stuck
theorem f1_in (f : D → R D) (l : List D) : (∃ d, l = [d] ∧ f1 f l = f d) ∨ f1 f l = .stuck := by
  match l with
  | [] => exact .inr rfl
  | [d] => exact .inl ⟨d, rfl, rfl⟩
  | _ :: _ :: _ => exact .inr rfl
theorem two_in {K : PySem.W.Frag} {Hs : Hp} {ds : List D} {vs : List V} {f : D → D → R D} (r : Reps K Hs ds vs) {mg : Str → Option Value} {H : Hp} {Q : VK} {E : XK}
    (h : PstD K mg Hs H (f2 f ds) Q E) : ∃ d e v u, ds = [d, e] ∧ vs = [v, u] ∧ Rep K Hs d v ∧ Rep K Hs e u ∧ PstD K mg Hs H (f d e) Q E := by
  match ds, r, h with
  | [d, e], .cons r (.cons t .nil), h => exact ⟨d, e, _, _, rfl, rfl, r, t, h⟩
  | [], _, h => exact h.elim
  | [_], _, h => exact h.elim
  | _ :: _ :: _ :: _, _, h => exact h.elim
theorem cs_len : CallR X (.builtin "len") (rL X.K X.mg (f1 D.len)) := by
  intro pins s σ H xs us Q I r h
  obtain ⟨Hs, ds, E, he, rr, hp⟩ := h
  obtain ⟨d, v, rfl, rfl, rd, hp⟩ := one_in (f1_in _) rr hp
  cases d with
  | str x =>
    rw [rd.strI] at r
    have hp : PstD X.K X.mg Hs H (if x.length ≤ 16777216 then .ok (.int x.length) else .stuck) Q E := hp
    by_cases hz : x.length ≤ 16777216
    · rw [if_pos hz] at hp
      exact call_len pins s σ H _ us Q I r ⟨.str x, x.length, rfl, ⟨by rw [size_eq]; exact hz, rfl⟩, hp.now he (.int _)⟩
    · rw [if_neg hz] at hp
      exact hp.elim
  | lst xs =>
    obtain ⟨p, vs, rfl, e1, r1⟩ := rd.lstI
    exact call_len pins s σ H _ us Q I r ⟨.ref p, xs.length, rfl, .inl ⟨vs, SqL.of (he _ _ e1), r1.length⟩, hp.now he (.int _)⟩
  | tup xs =>
    obtain ⟨p, vs, rfl, e1, r1⟩ := rd.tupI
    exact call_len pins s σ H _ us Q I r ⟨.ref p, xs.length, rfl, .inr ⟨vs, SqT.of (he _ _ e1), r1.length⟩, hp.now he (.int _)⟩
  | scr ns =>
    obtain ⟨p, rfl, q⟩ := (rd.mono he).scrI
    exact call_len pins s σ H _ us Q I r ⟨.ref p, ns.length, rfl, .inl ⟨_, q, by rw [List.length_map]⟩, hp.now he (.int _)⟩
  | ftp ns =>
    obtain ⟨p, o, rfl, q, _⟩ := rd.ftpI
    exact call_len pins s σ H _ us Q I r ⟨.ref p, ns.length, rfl, .inr ⟨_, .inl (.inr ⟨o, he _ _ q⟩), by rw [List.length_map]⟩, hp.now he (.int _)⟩
  | _ => exact hp.elim
theorem cs_abs : CallR X (.builtin "abs") (rL X.K X.mg (f1 D.abs)) := by
  intro pins s σ H xs us Q I r h
  obtain ⟨Hs, ds, E, he, rr, hp⟩ := h
  obtain ⟨d, v, rfl, rfl, rd, hp⟩ := one_in (f1_in _) rr hp
  cases d with
  | int i =>
    rw [rd.intI] at r
    exact call_abs pins s σ H _ us Q I r ⟨i, rfl, hp.now he (.int _)⟩
  | _ => exact hp.elim
theorem cs_max2 (hc : X.calm = true) : CallR X (.builtin "max") (rL X.K X.mg (f2 D.max2)) := by
  intro pins s σ H xs us Q I r h
  obtain ⟨Hs, ds, E, he, rr, hp⟩ := h
  obtain ⟨d, e, v, u, rfl, rfl, rd, re, hp⟩ := two_in rr hp
  cases d with
  | int i =>
    cases e with
    | int j =>
      rw [rd.intI, re.intI] at r
      exact call_max2 hc pins s σ H _ us Q I r ⟨i, j, rfl, hp.now he (.int _)⟩
    | _ => exact hp.elim
  | _ => exact hp.elim
theorem cs_min2 (hc : X.calm = true) : CallR X (.builtin "min") (rL X.K X.mg (f2 D.min2)) := by
  intro pins s σ H xs us Q I r h
  obtain ⟨Hs, ds, E, he, rr, hp⟩ := h
  obtain ⟨d, e, v, u, rfl, rfl, rd, re, hp⟩ := two_in rr hp
  cases d with
  | int i =>
    cases e with
    | int j =>
      rw [rd.intI, re.intI] at r
      exact call_min2 hc pins s σ H _ us Q I r ⟨i, j, rfl, hp.now he (.int _)⟩
    | _ => exact hp.elim
  | _ => exact hp.elim
theorem dp_ints {K : PySem.W.Frag} {H : Hp} : ∀ ns : List Int, DpAll K H (ns.map V.int) (ns.map PyData.int)
  | [] => .nil
  | n :: ns => .cons (.int n) (dp_ints ns)
theorem alike_ints' (ns : List Int) : PySem.W.AlikeAll (ns.map PyData.int) := by
  refine ⟨fun x hx y hy => ?_, fun x hx => ?_⟩
  · obtain ⟨i, _, rfl⟩ := List.mem_map.mp hx
    obtain ⟨j, _, rfl⟩ := List.mem_map.mp hy
    simp [PySem.W.alike]
  · obtain ⟨i, _, rfl⟩ := List.mem_map.mp hx
    intro z
    cases z
theorem reads_int {h : Heap} {v : Value} {n : Int} {bs : List Addr} (r : Reads h v (.int n) bs) : ∃ t, v = .int n t := by
  cases r
  exact ⟨_, rfl⟩
theorem cs_minL (hc : X.calm = true) (hu : X.A.units + 65 < cLine) : CallR X (.builtin "min") (rL X.K X.mg (f1 D.minL)) := by
  intro pins s σ H xs us Q I r h
  obtain ⟨Hs, ds, E, he, rr, hp⟩ := h
  obtain ⟨d, v, rfl, rfl, rd, hp⟩ := one_in (f1_in _) rr hp
  have fin : ∀ (n : Int) (ns : List Int) (v : Value) (h' : Heap) (tk : Nat) (bs : List Addr), PstD X.K X.mg Hs H (.ok (.int (ns.foldl min n))) Q E → Reads h' v (PySem.W.minD (.int n) (ns.map .int)) bs → (∀ b o, s.heap.get? b = some o → h'.get? b = some o) →
      EP X pins σ Q v { s with heap := h', toks := tk } := fun n ns v h' tk bs hp rv k => by
    rw [PySem.W.minD_ints] at rv
    obtain ⟨t, rfl⟩ := reads_int rv
    exact ⟨.int _, H, I.kept (t' := tk) k, ⟨t, rfl⟩, hp.now he (.int _)⟩
  cases d with
  | lst xs =>
    cases q : asInts xs with
    | none => simp [D.minL, D.seq, q] at hp; exact hp.elim
    | some l =>
      cases l with
      | nil => simp [D.minL, D.seq, q] at hp; exact hp.elim
      | cons n ns =>
        have hq : PstD X.K X.mg Hs H (.ok (.int (ns.foldl min n))) Q E := by simpa [D.minL, D.seq, q] using hp
        obtain ⟨p, vs, rfl, e1, r1⟩ := rd.lstI
        have e := asInts_some q
        subst e
        have ev := r1.intsI
        subst ev
        rw [Vals.ref1 r]
        obtain ⟨its, rv, hl, hz⟩ := I.list (SqL.of (he _ _ e1))
        obtain ⟨as, q1⟩ := Dp.readsAll I _ _ _ (dp_ints (K := X.K) (H := H) (n :: ns)) rv
        exact PySem.W.min_list_data (as := as) (x := .int n) (xs := ns.map .int) (I.ok.hd hc) hl.isList (by simpa using q1) (alike_ints' (n :: ns)) (by rw [show PyData.depthAll (PyData.int n :: ns.map PyData.int) = 0 from PySem.W.depth_ints (n :: ns)]; omega) fun i v h' tk bs _ rv k => fin n ns v h' tk bs hq rv k
  | tup xs =>
    cases q : asInts xs with
    | none => simp [D.minL, D.seq, q] at hp; exact hp.elim
    | some l =>
      cases l with
      | nil => simp [D.minL, D.seq, q] at hp; exact hp.elim
      | cons n ns =>
        have hq : PstD X.K X.mg Hs H (.ok (.int (ns.foldl min n))) Q E := by simpa [D.minL, D.seq, q] using hp
        obtain ⟨p, vs, rfl, e1, r1⟩ := rd.tupI
        have e := asInts_some q
        subst e
        have ev := r1.intsI
        subst ev
        rw [Vals.ref1 r]
        obtain ⟨its, rv, hl, hz⟩ := I.tuple (SqT.of (he _ _ e1))
        obtain ⟨as, q1⟩ := Dp.readsAll I _ _ _ (dp_ints (K := X.K) (H := H) (n :: ns)) rv
        exact PySem.W.min_tuple_data (as := as) (x := .int n) (xs := ns.map .int) (I.ok.hd hc) (show s.heap.IsTuple p its.toArray from hl) (by simpa using q1) (alike_ints' (n :: ns)) (by rw [show PyData.depthAll (PyData.int n :: ns.map PyData.int) = 0 from PySem.W.depth_ints (n :: ns)]; omega) fun i v h' tk bs _ rv k => fin n ns v h' tk bs hq rv k
  | _ => exact hp.elim
theorem cs_maxL (hc : X.calm = true) (hu : X.A.units + 65 < cLine) : CallR X (.builtin "max") (rL X.K X.mg (f1 D.maxL)) := by
  intro pins s σ H xs us Q I r h
  obtain ⟨Hs, ds, E, he, rr, hp⟩ := h
  obtain ⟨d, v, rfl, rfl, rd, hp⟩ := one_in (f1_in _) rr hp
  have fin : ∀ (n : Int) (ns : List Int) (v : Value) (h' : Heap) (tk : Nat) (bs : List Addr), PstD X.K X.mg Hs H (.ok (.int (ns.foldl max n))) Q E → Reads h' v (PySem.W.maxD (.int n) (ns.map .int)) bs → (∀ b o, s.heap.get? b = some o → h'.get? b = some o) →
      EP X pins σ Q v { s with heap := h', toks := tk } := fun n ns v h' tk bs hp rv k => by
    rw [PySem.W.maxD_ints] at rv
    obtain ⟨t, rfl⟩ := reads_int rv
    exact ⟨.int _, H, I.kept (t' := tk) k, ⟨t, rfl⟩, hp.now he (.int _)⟩
  cases d with
  | lst xs =>
    cases q : asInts xs with
    | none => simp [D.maxL, D.seq, q] at hp; exact hp.elim
    | some l =>
      cases l with
      | nil => simp [D.maxL, D.seq, q] at hp; exact hp.elim
      | cons n ns =>
        have hq : PstD X.K X.mg Hs H (.ok (.int (ns.foldl max n))) Q E := by simpa [D.maxL, D.seq, q] using hp
        obtain ⟨p, vs, rfl, e1, r1⟩ := rd.lstI
        have e := asInts_some q
        subst e
        have ev := r1.intsI
        subst ev
        rw [Vals.ref1 r]
        obtain ⟨its, rv, hl, hz⟩ := I.list (SqL.of (he _ _ e1))
        obtain ⟨as, q1⟩ := Dp.readsAll I _ _ _ (dp_ints (K := X.K) (H := H) (n :: ns)) rv
        exact PySem.W.max_list_data (as := as) (x := .int n) (xs := ns.map .int) (I.ok.hd hc) hl.isList (by simpa using q1) (alike_ints' (n :: ns)) (by rw [show PyData.depthAll (PyData.int n :: ns.map PyData.int) = 0 from PySem.W.depth_ints (n :: ns)]; omega) fun i v h' tk bs _ rv k => fin n ns v h' tk bs hq rv k
  | tup xs =>
    cases q : asInts xs with
    | none => simp [D.maxL, D.seq, q] at hp; exact hp.elim
    | some l =>
      cases l with
      | nil => simp [D.maxL, D.seq, q] at hp; exact hp.elim
      | cons n ns =>
        have hq : PstD X.K X.mg Hs H (.ok (.int (ns.foldl max n))) Q E := by simpa [D.maxL, D.seq, q] using hp
        obtain ⟨p, vs, rfl, e1, r1⟩ := rd.tupI
        have e := asInts_some q
        subst e
        have ev := r1.intsI
        subst ev
        rw [Vals.ref1 r]
        obtain ⟨its, rv, hl, hz⟩ := I.tuple (SqT.of (he _ _ e1))
        obtain ⟨as, q1⟩ := Dp.readsAll I _ _ _ (dp_ints (K := X.K) (H := H) (n :: ns)) rv
        exact PySem.W.max_tuple_data (as := as) (x := .int n) (xs := ns.map .int) (I.ok.hd hc) (show s.heap.IsTuple p its.toArray from hl) (by simpa using q1) (alike_ints' (n :: ns)) (by rw [show PyData.depthAll (PyData.int n :: ns.map PyData.int) = 0 from PySem.W.depth_ints (n :: ns)]; omega) fun i v h' tk bs _ rv k => fin n ns v h' tk bs hq rv k
  | _ => exact hp.elim
theorem cs_list : CallR X (.type "list") (rL X.K X.mg (f1 D.listOf)) := by
  intro pins s σ H xs us Q I r h
  obtain ⟨Hs, ds, E, he, rr, hp⟩ := h
  obtain ⟨d, v, rfl, rfl, rd, hp⟩ := one_in (f1_in _) rr hp
  cases d with
  | lst xs =>
    obtain ⟨p, vs, rfl, e1, r1⟩ := rd.lstI
    exact call_list_of pins s σ H _ us Q I r ⟨p, vs, rfl, .inl (SqL.of (he _ _ e1)), fun l hl => hp _ _ _ (Le.new1 he hl) (mk_lst he r1 hl)⟩
  | tup xs =>
    obtain ⟨p, vs, rfl, e1, r1⟩ := rd.tupI
    exact call_list_of pins s σ H _ us Q I r ⟨p, vs, rfl, .inr (SqT.of (he _ _ e1)), fun l hl => hp _ _ _ (Le.new1 he hl) (mk_lst he r1 hl)⟩
  | scr ns =>
    obtain ⟨p, rfl, q⟩ := (rd.mono he).scrI
    exact call_list_of pins s σ H _ us Q I r ⟨p, _, rfl, .inl q, fun l hl => hp _ _ _ (Le.new1 he hl) (mk_lst he Reps.ints hl)⟩
  | _ => exact hp.elim
theorem cs_tuple : CallR X (.type "tuple") (rL X.K X.mg (f1 D.tupOf)) := by
  intro pins s σ H xs us Q I r h
  obtain ⟨Hs, ds, E, he, rr, hp⟩ := h
  obtain ⟨d, v, rfl, rfl, rd, hp⟩ := one_in (f1_in _) rr hp
  cases d with
  | lst xs =>
    obtain ⟨p, vs, rfl, e1, r1⟩ := rd.lstI
    exact call_tuple_of pins s σ H _ us Q I r ⟨p, vs, rfl, .inl ⟨SqL.of (he _ _ e1), fun l hl => hp _ _ _ (Le.new1 he hl) (mk_tup he r1 hl)⟩⟩
  | tup xs =>
    obtain ⟨p, vs, rfl, e1, r1⟩ := rd.tupI
    exact call_tuple_of pins s σ H _ us Q I r ⟨p, vs, rfl, .inr ⟨SqT.of (he _ _ e1), hp.now he (.tup e1 r1)⟩⟩
  | scr ns =>
    obtain ⟨p, rfl, q⟩ := (rd.mono he).scrI
    exact call_tuple_of pins s σ H _ us Q I r ⟨p, _, rfl, .inl ⟨q, fun l hl => hp _ _ _ (Le.new1 he hl) (mk_tup he Reps.ints hl)⟩⟩
  | _ => exact hp.elim
theorem cs_allL (hc : X.calm = true) : CallR X (.builtin "all") (rL X.K X.mg (f1 D.allL)) := by
  intro pins s σ H xs us Q I r h
  obtain ⟨Hs, ds, E, he, rr, hp⟩ := h
  obtain ⟨d, v, rfl, rfl, rd, hp⟩ := one_in (f1_in _) rr hp
  cases d with
  | lst xs =>
    cases q : asBls xs with
    | none => simp [D.allL, q] at hp; exact hp.elim
    | some l =>
      have hq : PstD X.K X.mg Hs H (.ok (.bl (l.all id))) Q E := by simpa [D.allL, q] using hp
      obtain ⟨p, vs, rfl, e1, r1⟩ := rd.lstI
      have e := asBls_some q
      subst e
      have ev := r1.blsI
      subst ev
      exact cr_all hc pins s σ H _ us Q I r ⟨p, l, rfl, SqL.of (he _ _ e1), hq.now he (.bl _)⟩
  | _ => exact hp.elim
theorem cs_anyL (hc : X.calm = true) : CallR X (.builtin "any") (rL X.K X.mg (f1 D.anyL)) := by
  intro pins s σ H xs us Q I r h
  obtain ⟨Hs, ds, E, he, rr, hp⟩ := h
  obtain ⟨d, v, rfl, rfl, rd, hp⟩ := one_in (f1_in _) rr hp
  cases d with
  | lst xs =>
    cases q : asBls xs with
    | none => simp [D.anyL, q] at hp; exact hp.elim
    | some l =>
      have hq : PstD X.K X.mg Hs H (.ok (.bl (l.any id))) Q E := by simpa [D.anyL, q] using hp
      obtain ⟨p, vs, rfl, e1, r1⟩ := rd.lstI
      have e := asBls_some q
      subst e
      have ev := r1.blsI
      subst ev
      exact cr_any hc pins s σ H _ us Q I r ⟨p, l, rfl, SqL.of (he _ _ e1), hq.now he (.bl _)⟩
  | _ => exact hp.elim
theorem cs_int : CallR X (.type "int") (rL X.K X.mg (f1 D.intOf)) := by
  intro pins s σ H xs us Q I r h
  obtain ⟨Hs, ds, E, he, rr, hp⟩ := h
  obtain ⟨d, v, rfl, rfl, rd, hp⟩ := one_in (f1_in _) rr hp
  cases d with
  | int i =>
    rw [rd.intI] at r
    exact call_int1 pins s σ H _ us Q I r (.inl ⟨i, rfl, hp.now he (.int _)⟩)
  | bl b =>
    rw [rd.blI] at r
    exact call_int1 pins s σ H _ us Q I r (.inr ⟨b, rfl, hp.now he (.int _)⟩)
  | str x =>
    rw [rd.strI] at r
    have hp : PstD X.K X.mg Hs H (match PySem.intText? x with | some n => if x.length ≤ 640 then .ok (.int n) else .stuck | none => .stuck) Q E := hp
    cases e : PySem.intText? x with
    | none => rw [e] at hp; exact hp.elim
    | some n =>
      rw [e] at hp
      have hp : PstD X.K X.mg Hs H (if x.length ≤ 640 then .ok (.int n) else .stuck) Q E := hp
      by_cases hz : x.length ≤ 640
      · rw [if_pos hz] at hp
        exact call_int_str pins s σ H _ us Q I r ⟨x, n, rfl, e, hz, hp.now he (.int _)⟩
      · rw [if_neg hz] at hp
        exact hp.elim
  | _ => exact hp.elim

def RZ (v : Value) (p : D × V) : Prop := RelV p.2 v
theorem each_zip {K : PySem.W.Frag} {Hs : Hp} : ∀ {ds : List D} {vs : List V} {us : List Value}, Reps K Hs ds vs → Vals vs us → PySem.W.EachIs RZ us (ds.zip vs)
  | _, _, _, .nil, .nil => .nil
  | _, _, _, .cons _ t, .cons r u => .cons r (each_zip t u)
theorem each_reads {pins : List (Addr × Obj)} {σ : L2.St} {H Hs : Hp} {s : Shared} (I : Inv X pins σ H s) (he : Ex Hs H) : ∀ {ds : List D} {vs : List V} {us : List Value}, Reps X.K Hs ds vs → Vals vs us → D.nss ds = true →
    PySem.W.EachIs (fun v (p : D × V) => ∃ as, Reads s.heap v p.1.pd as) us (ds.zip vs)
  | _, _, _, .nil, .nil, _ => .nil
  | _, _, _, .cons r t, .cons q u, h => by
    simp only [D.nss, Bool.and_eq_true] at h
    exact .cons (Dp.reads I _ _ _ ((r.mono he).dp h.1) q) (each_reads I he t u h.2)
theorem vals_of_each : ∀ {us : List Value} {ps : List (D × V)}, PySem.W.EachIs RZ us ps → Vals (ps.map (·.2)) us
  | _, _, .nil => .nil
  | _, _, .cons r t => .cons r (vals_of_each t)
theorem reps_of_mem {K : PySem.W.Frag} {Hs : Hp} : ∀ {ps : List (D × V)}, (∀ p ∈ ps, Rep K Hs p.1 p.2) → Reps K Hs (ps.map (·.1)) (ps.map (·.2))
  | [], _ => .nil
  | p :: ps, h => .cons (h p (by simp)) (reps_of_mem fun q hq => h q (by simp [hq]))
theorem reps_mem {K : PySem.W.Frag} {Hs : Hp} : ∀ {ds : List D} {vs : List V}, Reps K Hs ds vs → ∀ p ∈ ds.zip vs, Rep K Hs p.1 p.2
  | _, _, .nil, p, h => by simp at h
  | _, _, .cons r t, p, h => by
    rcases List.mem_cons.mp h with e | h
    · subst e; exact r
    · exact reps_mem t p h
theorem zip_fst {K : PySem.W.Frag} {Hs : Hp} : ∀ {ds : List D} {vs : List V}, Reps K Hs ds vs → (ds.zip vs).map (·.1) = ds
  | _, _, .nil => rfl
  | _, _, .cons r t => by simp [zip_fst t]
theorem sortOk_al {ds : List D} (h : sortOk ds = true) : PySem.W.AllAlike (ds.map D.pd) ∧ PySem.W.Sortable (ds.map D.pd) ∧ (∀ d ∈ ds, d.pd.depth ≤ 60) ∧ D.nss ds = true := by
  unfold sortOk at h
  simp only [Bool.and_eq_true, List.all_eq_true, decide_eq_true_eq, Bool.or_eq_true] at h
  obtain ⟨⟨⟨h1, h2⟩, h3⟩, h4⟩ := h
  refine ⟨fun d hd d' hd' => ?_, ?_, h3, by rw [D.nss_eq, List.all_eq_true]; exact h1⟩
  · obtain ⟨a, ha, rfl⟩ := List.mem_map.mp hd
    obtain ⟨b, hb, rfl⟩ := List.mem_map.mp hd'
    exact h2 a ha b hb
  · rcases h4 with h4 | h4
    · refine .inl fun d hd => ?_
      obtain ⟨a, ha, rfl⟩ := List.mem_map.mp hd
      have := h4 a ha
      match a, this with
      | .tup (x :: r), _ => exact ⟨x.pd, D.pds r, rfl⟩
    · refine .inr fun d hd => ?_
      obtain ⟨a, ha, rfl⟩ := List.mem_map.mp hd
      have := h4 a ha
      cases a <;> first
        | (simp [D.noTup] at this; done)
        | exact ⟨fun z => by simp [D.pd] at z, fun xs z => by simp [D.pd] at z⟩
theorem trip {K : PySem.W.Frag} {Hs : Hp} : ∀ {ds : List D} {vs : List V} {us : List Value}, Reps K Hs ds vs → Vals vs us → ∃ zs : List ((D × V) × Value), (zs.map (·.1.1) = ds ∧ zs.map (·.1.2) = vs ∧ zs.map (·.2) = us) ∧ ∀ p ∈ zs, Rep K Hs p.1.1 p.1.2 ∧ RelV p.1.2 p.2
  | _, _, _, .nil, .nil => ⟨[], ⟨rfl, rfl, rfl⟩, fun p hp => by cases hp⟩
  | d :: _, v :: _, u :: _, .cons r rs, .cons e es => by
    obtain ⟨zs, ⟨rfl, rfl, rfl⟩, h⟩ := trip rs es
    refine ⟨((d, v), u) :: zs, ⟨rfl, rfl, rfl⟩, fun p hp => ?_⟩
    rcases List.mem_cons.mp hp with rfl | hp
    · exact ⟨r, e⟩
    · exact h p hp
theorem trip_back {K : PySem.W.Frag} {Hs : Hp} : ∀ {zs : List ((D × V) × Value)}, (∀ p ∈ zs, Rep K Hs p.1.1 p.1.2 ∧ RelV p.1.2 p.2) → Reps K Hs (zs.map (·.1.1)) (zs.map (·.1.2)) ∧ Vals (zs.map (·.1.2)) (zs.map (·.2))
  | [], _ => ⟨.nil, .nil⟩
  | p :: zs, h => by
    obtain ⟨a, b⟩ := h p List.mem_cons_self
    obtain ⟨c, d⟩ := trip_back fun q hq => h q (List.mem_cons_of_mem _ hq)
    exact ⟨.cons a c, .cons b d⟩
theorem cs_sorted (hu : X.A.units + 65 < cLine) : CallR X (.builtin "sorted") (rL X.K X.mg (f1 D.sorted)) := by
  intro pins s σ H xs us Q I r h
  obtain ⟨Hs, ds, E, he, rr, hp⟩ := h
  obtain ⟨d, v, rfl, rfl, rd, hp⟩ := one_in (f1_in _) rr hp
  cases d with
  | lst xs =>
    have hp : PstD X.K X.mg Hs H (if sortOk xs then .ok (.lst (xs.mergeSort leD)) else if rowsOk xs then .ok (.lst (xs.mergeSort leN)) else .stuck) Q E := hp
    by_cases hz : sortOk xs = true
    · rw [if_pos hz] at hp
      obtain ⟨p, vs, rfl, e1, r1⟩ := rd.lstI
      rw [Vals.ref1 r]
      obtain ⟨its, rv, hl, hlen⟩ := I.list (SqL.of (he _ _ e1))
      obtain ⟨o1, o2, o3, o4⟩ := sortOk_al hz
      have em : (xs.zip vs).map (fun p => p.1.pd) = xs.map D.pd := by
        rw [← zip_fst r1, List.map_map, zip_fst r1]
        rfl
      refine PySem.W.sorted_data (R := RZ) (enc := fun p : D × V => p.1.pd) hl.isList (each_zip r1 rv) (each_reads I he r1 rv o4) (by rw [em]; exact o1) (by rw [em]; exact o2) (by
        rw [List.length_zip, r1.length]
        omega) (fun b hb => ?_) fun out hlo ho => ?_
      · have : b.1 ∈ xs := by
          rw [← zip_fst r1]
          exact List.mem_map.mpr ⟨b, hb, rfl⟩
        have := o3 _ this
        omega
      · obtain ⟨ep, he'⟩ := PyProof.Rows.sortedAll_at s.heap its (List.toArray out)
        have hv := vals_of_each ho
        have hr : Reps X.K Hs (((xs.zip vs).mergeSort (PySem.W.dataLe false fun p : D × V => p.1.pd)).map (·.1)) (((xs.zip vs).mergeSort (PySem.W.dataLe false fun p : D × V => p.1.pd)).map (·.2)) :=
          reps_of_mem fun p hp => reps_mem r1 p ((List.mergeSort_perm _ _).mem_iff.mp hp)
        have es : ((xs.zip vs).mergeSort (PySem.W.dataLe false fun p : D × V => p.1.pd)).map (·.1) = xs.mergeSort leD := by
          rw [List.map_mergeSort (r := PySem.W.dataLe false fun p : D × V => p.1.pd) (s := leD) (f := fun p : D × V => p.1) (fun a _ b _ => rfl), zip_fst r1]
        rw [es] at hr
        have hn := I.hok.fresh (a := s.heap.objs.size + 1) (Nat.le_succ _)
        refine ⟨.ref _, upd H (s.heap.objs.size + 1) (.lst (((xs.zip vs).mergeSort (PySem.W.dataLe false fun p : D × V => p.1.pd)).map (·.2))), I.laid (t' := s.toks) (fun _ _ => PyProof.Rows.sortedAll_old) (Nat.le_succ _) ⟨?_, out, ep, hv, ?_⟩, rfl, hp _ _ _ (Le.new1 he hn) (mk_lst he hr hn)⟩
        · rw [List.length_map, (List.mergeSort_perm _ _).length_eq, List.length_zip, r1.length]
          omega
        · simpa using he'
    · rw [if_neg hz] at hp
      by_cases hr : rowsOk xs = true
      · rw [if_pos hr] at hp
        obtain ⟨p, vs, rfl, e1, r1⟩ := rd.lstI
        rw [Vals.ref1 r]
        obtain ⟨its, rv, hl, hlen⟩ := I.list (SqL.of (he _ _ e1))
        obtain ⟨zs, ⟨z1, z2, z3⟩, z4⟩ := trip r1 rv
        have hk : ∀ q ∈ zs, RowIs s.heap q.2 (keyN q.1.1) ∧ keyN q.1.1 ≠ [] := fun q hq => by
          obtain ⟨a, b⟩ := z4 q hq
          have hm : q.1.1 ∈ xs := by rw [← z1]; exact List.mem_map.mpr ⟨q, hq, rfl⟩
          have hm := List.all_eq_true.mp hr _ hm
          unfold keyN
          cases e : rowN q.1.1 with
          | none => rw [e] at hm; cases hm
          | some ks =>
            cases ks with
            | nil => rw [e] at hm; cases hm
            | cons k ks => exact ⟨rowN_V I he a b e, by simp⟩
        have hk2 : ∀ u ∈ its, RowIs s.heap u (keyV s.heap u) ∧ keyV s.heap u ≠ [] := fun u hu => by
          rw [← z3] at hu
          obtain ⟨q, hq, rfl⟩ := List.mem_map.mp hu
          obtain ⟨a, b⟩ := hk q hq
          rw [a.key]
          exact ⟨a, b⟩
        refine sorted_rowsN (k := keyV s.heap) hl.isList (by rw [← rv.length]; exact hlen) hk2 fun out o1 o2 => ?_
        obtain ⟨ep, he'⟩ := PyProof.Rows.sortedAll_at s.heap its (List.toArray out)
        have oe := rows_out o1 o2
        have em : (zs.mergeSort fun p q => leN p.1.1 q.1.1).map (·.2) = out := by
          rw [oe, ← z3]
          exact List.map_mergeSort (f := fun p : (D × V) × Value => p.2) (fun a ha b hb => by
            show (!decide (keyN b.1.1 < keyN a.1.1)) = (!decide (keyV s.heap b.2 < keyV s.heap a.2))
            rw [(hk a ha).1.key, (hk b hb).1.key])
        have em2 : (zs.mergeSort fun p q => leN p.1.1 q.1.1).map (·.1.1) = xs.mergeSort leN := by
          rw [← z1]
          exact List.map_mergeSort (f := fun p : (D × V) × Value => p.1.1) fun _ _ _ _ => rfl
        obtain ⟨hR, hV⟩ := trip_back (K := X.K) (Hs := Hs) (zs := zs.mergeSort fun p q => leN p.1.1 q.1.1) fun q hq => z4 q ((List.mergeSort_perm _ _).mem_iff.mp hq)
        rw [em2] at hR
        rw [em] at hV
        have hn := I.hok.fresh (a := s.heap.objs.size + 1) (Nat.le_succ _)
        refine ⟨.ref _, upd H (s.heap.objs.size + 1) (.lst ((zs.mergeSort fun p q => leN p.1.1 q.1.1).map (·.1.2))), I.laid (t' := s.toks) (fun _ _ => PyProof.Rows.sortedAll_old) (Nat.le_succ _) ⟨?_, out, ep, hV, ?_⟩, rfl, hp _ _ _ (Le.new1 he hn) (mk_lst he hR hn)⟩
        · rw [List.length_map, (List.mergeSort_perm _ _).length_eq, ← List.length_map (f := fun p : (D × V) × Value => p.1.2), z2]
          exact hlen
        · simpa using he'
      · rw [if_neg hr] at hp
        exact hp.elim
  | _ => exact hp.elim
end
end Py

namespace Py
open PySem PySem.Spec PyProof.Rows L2

/-- the texts that a list is -/
def asStrs : List D → Option (List Str)
  | [] => some []
  | .str x :: r => (asStrs r).map (x :: ·)
  | _ :: _ => none
theorem asStrs_some : ∀ {ds : List D} {xs : List Str}, asStrs ds = some xs → ds = xs.map D.str
  | [], xs, h => by simp [asStrs] at h; subst h; rfl
  | .str x :: r, xs, h => by
    simp only [asStrs] at h
    cases e : asStrs r with
    | none => rw [e] at h; cases h
    | some l =>
      rw [e] at h
      have h' : x :: l = xs := by simpa using h
      subst h'
      rw [asStrs_some e]
      rfl
  | .non :: r, _, h => by simp [asStrs] at h
  | .bl _ :: r, _, h => by simp [asStrs] at h
  | .int _ :: r, _, h => by simp [asStrs] at h
  | .tup _ :: r, _, h => by simp [asStrs] at h
  | .lst _ :: r, _, h => by simp [asStrs] at h
  | .scr _ :: r, _, h => by simp [asStrs] at h
  | .dic :: r, _, h => by simp [asStrs] at h
  | .ftp _ :: r, _, h => by simp [asStrs] at h
  | .exv _ _ :: r, _, h => by simp [asStrs] at h
  | .obj _ _ _ :: r, _, h => by simp [asStrs] at h
  | .dct _ _ :: r, _, h => by simp [asStrs] at h
  | .dkt _ :: r, _, h => by simp [asStrs] at h
@[simp] theorem asStrs_map : ∀ xs : List Str, asStrs (xs.map D.str) = some xs
  | [] => rfl
  | n :: ns => by simp [asStrs, asStrs_map ns]
/-- str(x) -/
def D.strOf : D → R D
  | .int i => if i.natAbs.log2 < 1920 then .ok (.str (Str.ofString (toString i))) else .stuck
  | .str x => .ok (.str x)
  | .non => .ok (.str (Str.ofString "None"))
  | _ => .stuck
/-- the methods of texts with one argument -/
inductive Sm where
  | split | part | join | index
  deriving DecidableEq
def Sm.name : Sm → Str
  | .split => "split" | .part => "partition" | .join => "join" | .index => "index"
def joinD (a : Str) (ys : List D) : R D := match asStrs ys with
  | some zs => if (zs.map (·.length)).sum + zs.length * a.length ≤ 16777216 then .ok (.str (Txt.join a zs)) else .stuck
  | none => .stuck
def D.sm : Sm → D → D → R D
  | .split, .str a, .str b => if (b.length == 0) = false ∧ a.length + 2 ≤ 16777216 then .ok (.lst ((Txt.split a b).map D.str)) else .stuck
  | .part, .str a, .str b => if (b.length == 0) = false ∧ a.length ≤ 16777216 then .ok (.tup [.str (Txt.partition a b).1, .str (Txt.partition a b).2.1, .str (Txt.partition a b).2.2]) else .stuck
  | .join, .str a, .lst ys => joinD a ys
  | .join, .str a, .tup ys => joinD a ys
  | .index, .str a, .str b => match Builtin.Str.occurrences a b 0 a.length 1 with
    | i :: _ => .ok (.int (i : Nat))
    | [] => .stuck
  | _, _, _ => .stuck
def D.isS : D → Bool
  | .str _ => true
  | _ => false
/-- one part more of an f-string -/
def D.fmtOf (acc : Str) : D → R Str
  | .str y => if y.length ≤ 16777216 ∧ (acc ++ y).length ≤ 16777216 then .ok (acc ++ y) else .stuck
  | .int i => if i.natAbs.log2 < 1920 ∧ (acc ++ Str.ofString (toString i)).length ≤ 16777216 then .ok (acc ++ Str.ofString (toString i)) else .stuck
  | _ => .stuck
section
variable {X : Cx}
theorem cs_str : CallR X (.type "str") (rL X.K X.mg (f1 D.strOf)) := by
  intro pins s σ H xs us Q I r h
  obtain ⟨Hs, ds, E, he, rr, hp⟩ := h
  obtain ⟨d, v, rfl, rfl, rd, hp⟩ := one_in (f1_in _) rr hp
  cases d with
  | int i =>
    rw [rd.intI] at r
    have hp : PstD X.K X.mg Hs H (if i.natAbs.log2 < 1920 then .ok (.str (Str.ofString (toString i))) else .stuck) Q E := hp
    by_cases hz : i.natAbs.log2 < 1920
    · rw [if_pos hz] at hp
      exact call_str_int pins s σ H _ us Q I r ⟨i, rfl, hz, hp.now he (.str _)⟩
    · rw [if_neg hz] at hp
      exact hp.elim
  | str x =>
    rw [rd.strI] at r
    exact SkE.call_str_str pins s σ H _ us Q I r ⟨x, rfl, hp.now he (.str _)⟩
  | non =>
    rw [rd.nonI] at r
    cases r with
    | cons r0 t0 =>
      cases t0
      cases r0
      exact PySem.P.str_of_none ⟨.str _, H, I.tok _, ⟨_, rfl⟩, hp.now he (.str _)⟩
  | _ => exact hp.elim
def rSm (X : Cx) (m : Sm) : V → List V → Hp → VK → Prop := fun x xs H Q => ∃ (Hs : Hp) (a b : D) (y : V) (E : XK), Ex Hs H ∧ Rep X.K Hs a x ∧ xs = [y] ∧ Rep X.K Hs b y ∧ PstD X.K X.mg Hs H (D.sm m a b) Q E
theorem strs_rep {K : PySem.W.Frag} {Hs : Hp} {ys : List D} {zs : List Str} {vs : List V} (h : asStrs ys = some zs) (r : Reps K Hs ys vs) : vs = zs.map V.str := by
  rw [asStrs_some h] at r
  exact r.strsI
theorem mk_strs {K : PySem.W.Frag} {Hs H : Hp} {p : Addr} (he : Ex Hs H) (xs : List Str) (hn : H p = none) : Rep K (upd Hs p (.lst (xs.map V.str))) (.lst (xs.map D.str)) (.ref p) := mk_lst he Reps.strs hn
theorem ms_split : MtR X "str.split" (rSm X .split) := by
  intro pins s σ H x xs v us Q I rx rs h
  obtain ⟨Hs, a, b, y, E, he, ra, rfl, rb, hp⟩ := h
  cases a with
  | str a =>
    cases b with
    | str b =>
      have hp : PstD X.K X.mg Hs H (if (b.length == 0) = false ∧ a.length + 2 ≤ 16777216 then .ok (.lst ((Txt.split a b).map D.str)) else .stuck) Q E := hp
      by_cases hz : (b.length == 0) = false ∧ a.length + 2 ≤ 16777216
      · rw [if_pos hz] at hp
        exact mt_split pins s σ H _ _ v us Q I rx rs ⟨a, b, ra.strI, by rw [rb.strI], hz.1, by rw [size_eq]; exact hz.2, fun p hn => hp _ _ _ (Le.new1 he hn) (mk_strs he _ hn)⟩
      · rw [if_neg hz] at hp
        exact hp.elim
    | _ => exact hp.elim
  | _ => cases b <;> exact hp.elim
theorem ms_part : MtR X "str.partition" (rSm X .part) := by
  intro pins s σ H x xs v us Q I rx rs h
  obtain ⟨Hs, a, b, y, E, he, ra, rfl, rb, hp⟩ := h
  cases a with
  | str a =>
    cases b with
    | str b =>
      have hp : PstD X.K X.mg Hs H (if (b.length == 0) = false ∧ a.length ≤ 16777216 then .ok (.tup [.str (Txt.partition a b).1, .str (Txt.partition a b).2.1, .str (Txt.partition a b).2.2]) else .stuck) Q E := hp
      by_cases hz : (b.length == 0) = false ∧ a.length ≤ 16777216
      · rw [if_pos hz] at hp
        exact mt_partition pins s σ H _ _ v us Q I rx rs ⟨a, b, ra.strI, by rw [rb.strI], hz.1, by rw [size_eq]; exact hz.2, fun p hn => hp _ _ _ (Le.new1 he hn) (mk_tup he (.cons (.str _) (.cons (.str _) (.cons (.str _) .nil))) hn)⟩
      · rw [if_neg hz] at hp
        exact hp.elim
    | _ => exact hp.elim
  | _ => cases b <;> exact hp.elim
theorem join_in {Hs H : Hp} {a : Str} {ys : List D} {vs : List V} {Q : VK} {E : XK} (r : Reps X.K Hs ys vs) (hp : PstD X.K X.mg Hs H (joinD a ys) Q E) : ∃ zs, vs = zs.map V.str ∧ (zs.map (·.length)).sum + zs.length * a.length ≤ 16777216 ∧ PstD X.K X.mg Hs H (.ok (.str (Txt.join a zs))) Q E := by
  unfold joinD at hp
  cases e : asStrs ys with
  | none => rw [e] at hp; exact hp.elim
  | some zs =>
    rw [e] at hp
    have hp : PstD X.K X.mg Hs H (if (zs.map (·.length)).sum + zs.length * a.length ≤ 16777216 then .ok (.str (Txt.join a zs)) else .stuck) Q E := hp
    by_cases hz : (zs.map (·.length)).sum + zs.length * a.length ≤ 16777216
    · rw [if_pos hz] at hp
      exact ⟨zs, strs_rep e r, hz, hp⟩
    · rw [if_neg hz] at hp
      exact hp.elim
theorem ms_join : MtR X "str.join" (rSm X .join) := by
  intro pins s σ H x xs v us Q I rx rs h
  obtain ⟨Hs, a, b, y, E, he, ra, rfl, rb, hp⟩ := h
  cases a with
  | str a =>
    cases b with
    | lst ys =>
      obtain ⟨p, vs, rfl, e1, r1⟩ := rb.lstI
      obtain ⟨zs, rfl, hz, hp⟩ := join_in r1 hp
      exact mt_join pins s σ H _ _ v us Q I rx rs ⟨a, p, zs, ra.strI, rfl, .inl (SqL.of (he _ _ e1)), hz, hp.now he (.str _)⟩
    | tup ys =>
      obtain ⟨p, vs, rfl, e1, r1⟩ := rb.tupI
      obtain ⟨zs, rfl, hz, hp⟩ := join_in r1 hp
      exact mt_join pins s σ H _ _ v us Q I rx rs ⟨a, p, zs, ra.strI, rfl, .inr (SqT.of (he _ _ e1)), hz, hp.now he (.str _)⟩
    | _ => exact hp.elim
  | _ => cases b <;> exact hp.elim
theorem ms_index : MtR X "str.index" (rSm X .index) := by
  intro pins s σ H x xs v us Q I rx rs h
  obtain ⟨Hs, a, b, y, E, he, ra, rfl, rb, hp⟩ := h
  cases a with
  | str a =>
    cases b with
    | str b =>
      have hp : PstD X.K X.mg Hs H (match Builtin.Str.occurrences a b 0 a.length 1 with | i :: _ => .ok (.int (i : Nat)) | [] => .stuck) Q E := hp
      cases e : Builtin.Str.occurrences a b 0 a.length 1 with
      | nil => rw [e] at hp; exact hp.elim
      | cons i rest =>
        rw [e] at hp
        exact mt_sindex pins s σ H _ _ v us Q I rx rs ⟨a, b, i, rest, ra.strI, by rw [rb.strI], e, hp.now he (.int _)⟩
    | _ => exact hp.elim
  | _ => cases b <;> exact hp.elim
/-- no call of a bare name ahead of the dot -/
def baseOk : Expr → Bool
  | .Call (.Name _ _) [] [] _ => false
  | _ => true
theorem base_of {o : Expr} {n : Str} {env : PySem.Env} (h : baseOk o = true) : attributeBase o n env (eval o env) = eval o env := by
  unfold attributeBase
  split
  · simp [baseOk] at h
  · rfl
theorem pe_sm (m : Sm) {W : WX} {o b : Expr} {fa fb : Env → R D} {ap pos : Pos} (ha : SE X W o fa) (hb : SE X W b fb) (ho : baseOk o = true) (hl : (ap.endLine == pos.line) = true) (hst : starEach [b] X.env = [(false, eval b X.env)]) : SE X W (.Call (.Attribute o m.name ap) [b] [] pos) (fun ρ => do
    let x ← fa ρ
    if x.isS then do
      let y ← fb ρ
      D.sm m x y
    else .stuck) := by
  have fin : ∀ (σ : L2.St) (H : Hp) (Q : VK), tD X.K X.mg W (fun ρ => do
      let x ← fa ρ
      if x.isS then do
        let y ← fb ρ
        D.sm m x y
      else .stuck) σ H Q → tM1 (rSm X m) (tD X.K X.mg W fa) (tD X.K X.mg W fb) σ H Q := fun σ H Q ⟨ρ, Hs, he, hr, hp⟩ =>
    ⟨ρ, Hs, he, hr, hp.bind fun d _ v Hi H1 l rv hp1 => by
      cases d with
      | str a =>
        exact ⟨⟨a, rv.strI⟩, ρ, Hi, l.sub, hr.mono l.old, hp1.bind fun y _ v2 Hj H2 l2 rv2 hp2 => ⟨Hj, .str a, y, v2, _, l2.sub, rv.mono l2.old, rfl, rv2, hp2⟩⟩
      | _ => exact hp1.elim⟩
  cases m with
  | split => exact PE.imp (pe_m1 F.slot_str_split F.type_str_split ms_split ha hb hst (base_of ho) hl) fin
  | part => exact PE.imp (pe_m1 F.slot_str_partition F.type_str_partition ms_part ha hb hst (base_of ho) hl) fin
  | join => exact PE.imp (pe_m1 F.slot_str_join F.type_str_join ms_join ha hb hst (base_of ho) hl) fin
  | index => exact PE.imp (pe_m1 F.slot_str_index F.type_str_index ms_index ha hb hst (base_of ho) hl) fin
end
section
variable {X : Cx} {W : WX}
/-- one part, then the rest -/
theorem fmt_part {fa : Env → R D} {k : Str → Env → R D} {ts : List TE} {acc : Str} {σ : L2.St} {H : Hp} {Q : VK} (h : tD X.K X.mg W (fun ρ => do
    let x ← fa ρ
    let y ← D.fmtOf acc x
    k y ρ) σ H Q) (hk : ∀ y σ H, tD X.K X.mg W (k y) σ H Q → tJs ts y σ H fun out H1 => Q (.str out) H1) : tJs (tFmt (tD X.K X.mg W fa) :: ts) acc σ H fun out H1 => Q (.str out) H1 := by
  obtain ⟨ρ, Hs, he, hr, hp⟩ := h
  refine ⟨ρ, Hs, he, hr, hp.bind fun d _ v Hi H1 l rv hp1 => ?_⟩
  cases d with
  | str y =>
    have hp1 : PstD X.K X.mg Hi H1 ((if y.length ≤ 16777216 ∧ (acc ++ y).length ≤ 16777216 then R.ok (acc ++ y) else .stuck) >>= fun y => k y ρ) Q _ := hp1
    by_cases hz : y.length ≤ 16777216 ∧ (acc ++ y).length ≤ 16777216
    · rw [if_pos hz, R.bind_ok] at hp1
      exact .inl ⟨y, rv.strI, by rw [size_eq]; exact hz.1, y, rfl, by rw [size_eq]; exact hz.2, hk _ _ _ ⟨ρ, Hi, l.sub, hr.mono l.old, hp1⟩⟩
    · rw [if_neg hz, R.bind_stuck] at hp1
      exact hp1.elim
  | int i =>
    have hp1 : PstD X.K X.mg Hi H1 ((if i.natAbs.log2 < 1920 ∧ (acc ++ Str.ofString (toString i)).length ≤ 16777216 then R.ok (acc ++ Str.ofString (toString i)) else .stuck) >>= fun y => k y ρ) Q _ := hp1
    by_cases hz : i.natAbs.log2 < 1920 ∧ (acc ++ Str.ofString (toString i)).length ≤ 16777216
    · rw [if_pos hz, R.bind_ok] at hp1
      exact .inr ⟨i, rv.intI, hz.1, Str.ofString (toString i), rfl, by rw [size_eq]; exact hz.2, hk _ _ _ ⟨ρ, Hi, l.sub, hr.mono l.old, hp1⟩⟩
    · rw [if_neg hz, R.bind_stuck] at hp1
      exact hp1.elim
  | _ => exact hp1.elim
/-- a written part, then the rest -/
theorem fix_part {x : Str} {k : Str → Env → R D} {ts : List TE} {acc : Str} {σ : L2.St} {H : Hp} {Q : VK} (h : tD X.K X.mg W (fun ρ => do
    let y ← D.fmtOf acc (.str x)
    k y ρ) σ H Q) (hk : ∀ y σ H, tD X.K X.mg W (k y) σ H Q → tJs ts y σ H fun out H1 => Q (.str out) H1) : tJs (tD X.K X.mg W (fun _ => .ok (.str x)) :: ts) acc σ H fun out H1 => Q (.str out) H1 := by
  obtain ⟨ρ, Hs, he, hr, hp⟩ := h
  have hp : PstD X.K X.mg Hs H ((if x.length ≤ 16777216 ∧ (acc ++ x).length ≤ 16777216 then R.ok (acc ++ x) else .stuck) >>= fun y => k y ρ) Q _ := hp
  by_cases hz : x.length ≤ 16777216 ∧ (acc ++ x).length ≤ 16777216
  · rw [if_pos hz, R.bind_ok] at hp
    refine ⟨ρ, Hs, he, hr, fun v Hi H' l r => ⟨x, r.strI, by rw [size_eq]; exact hz.2, hk _ _ _ ⟨ρ, Hi, l.sub, hr.mono l.old, Pst.step (Rel := Rep X.K) l hp⟩⟩⟩
  · rw [if_neg hz, R.bind_stuck] at hp
    exact hp.elim
end
end Py

namespace Py
open PySem PySem.Spec PyProof.Rows L2

/-- d[k] -/
def D.dix : D → D → R D
  | .dct ks ys, .str x => match (ks.zip ys).lookup x with
    | some d => .ok d
    | none => .stuck
  | .dkt zs, .tup [.int p, .tup [.int x, .int y]] => match dkGet zs (p, x, y) with
    | some (some i) => .ok (.int i)
    | some none => .ok .non
    | none => .stuck
  | _, _ => .stuck
/-- k in d -/
def D.din (no : Bool) : D → D → R D
  | .str x, .dct ks _ => .ok (.bl (if no then !ks.contains x else ks.contains x))
  | _, _ => .stuck
/-- a table of the module: d[k], d.get(k) -/
def kixD (tb : List (Str × Str)) : D → R D
  | .str x => match tb.lookup x with
    | some v => .ok (.str v)
    | none => .stuck
  | _ => .stuck
def kgetD (tb : List (Str × Str)) : D → R D
  | .str x => match tb.lookup x with
    | some v => .ok (.str v)
    | none => .ok .non
  | _ => .stuck
/-- {"a": "x", ..} -/
def ddlD (t : List (Str × Str)) : R D := if t.length ≤ 15 ∧ t ≠ [] ∧ (t.map (·.1)).Nodup then .ok (.dct (t.map (·.1)) (t.map fun p => .str p.2)) else .stuck
def D.isDc : D → Bool
  | .dct _ _ => true
  | _ => false
/-- d.get(k, x) -/
def D.dgt : D → D → D → R D
  | .dct ks ys, .str x, z => match (ks.zip ys).lookup x with
    | some d => .ok d
    | none => .ok z
  | _, _, _ => .stuck
/-- the module's dict at d is this table -/
structure KTab (K : PySem.W.Frag) (w : World) (d : Addr) (tb : List (Str × Str)) : Prop where
  kd : ∃ es n, KDict K w d es n
  val : ∀ z, ∃ r, PySem.W.nsIn K d z = some r ∧ match tb.lookup z with
    | some v => ∃ t, r = some (.str v t)
    | none => r = none
/-- d[k] = v -/
def putS (x : Str) (d : D) (ks : List Str) (ys : List D) : List Str × List D :=
  if ks.contains x then (ks, (ks.zip ys).map fun p => if p.1 = x then d else p.2) else (ks ++ [x], ys ++ [d])
section
variable {K : PySem.W.Frag} {Hs : Hp}
theorem dct_lk {x : Str} {d : D} : ∀ {ks : List Str} {kvs : List (Key × V)} {ys : List D}, kvs.map (·.1) = ks.map Sum.inr → Reps K Hs ys (kvs.map (·.2)) → (ks.zip ys).lookup x = some d → ∃ v, valV kvs (Sum.inr x) = some v ∧ Rep K Hs d v
  | [], [], _, _, _, h => by simp at h
  | [], _ :: _, _, e, _, _ => by cases e
  | _ :: _, [], _, e, _, _ => by cases e
  | k :: ks, (k', v) :: kvs, y :: ys, e, .cons r t, h => by
    rw [List.map_cons, List.map_cons] at e
    obtain ⟨e1, e2⟩ := List.cons.inj e
    have e1 : k' = Sum.inr k := e1
    subst e1
    rw [List.zip_cons_cons, List.lookup_cons] at h
    by_cases c : x = k
    · subst c
      rw [beq_self_eq_true] at h
      cases h
      exact ⟨v, valV_pos rfl, r⟩
    · rw [show (x == k) = false from beq_false_of_ne c] at h
      obtain ⟨u, h1, h2⟩ := dct_lk e2 t h
      exact ⟨u, by rw [valV_neg (by simpa using fun z => c z.symm)]; exact h1, h2⟩
theorem dct_has {x : Str} : ∀ {ks : List Str} {kvs : List (Key × V)}, kvs.map (·.1) = ks.map Sum.inr → (valV kvs (Sum.inr x)).isSome = ks.contains x
  | [], [], _ => rfl
  | [], _ :: _, e => by cases e
  | _ :: _, [], e => by cases e
  | k :: ks, (k', v) :: kvs, e => by
    rw [List.map_cons, List.map_cons] at e
    obtain ⟨e1, e2⟩ := List.cons.inj e
    have e1 : k' = Sum.inr k := e1
    subst e1
    rw [List.contains_cons]
    by_cases c : x = k
    · subst c
      rw [valV_pos rfl, beq_self_eq_true]
      rfl
    · rw [valV_neg (by simpa using fun z => c z.symm), dct_has e2, show (x == k) = false from beq_false_of_ne c, Bool.false_or]
theorem any_has {x : Str} : ∀ {ks : List Str} {kvs : List (Key × V)}, kvs.map (·.1) = ks.map Sum.inr → (kvs.any fun kv => decide (kv.1 = (Sum.inr x : Key))) = ks.contains x
  | [], [], _ => rfl
  | [], _ :: _, e => by cases e
  | _ :: _, [], e => by cases e
  | k :: ks, (k', v) :: kvs, e => by
    rw [List.map_cons, List.map_cons] at e
    obtain ⟨e1, e2⟩ := List.cons.inj e
    have e1 : k' = Sum.inr k := e1
    subst e1
    rw [List.contains_cons, List.any_cons, any_has e2]
    congr 1
    by_cases c : x = k
    · subst c
      simp
    · rw [show (x == k) = false from beq_false_of_ne c]
      simpa using fun z => c z.symm
theorem map_put {x : Str} {d : D} {v : V} (rd : Rep K Hs d v) : ∀ {ks : List Str} {kvs : List (Key × V)} {ys : List D}, kvs.map (·.1) = ks.map Sum.inr → Reps K Hs ys (kvs.map (·.2)) →
    Reps K Hs ((ks.zip ys).map fun p => if p.1 = x then d else p.2) ((kvs.map fun kv => if kv.1 = (Sum.inr x : Key) then (kv.1, v) else kv).map (·.2)) ∧ (kvs.map fun kv => if kv.1 = (Sum.inr x : Key) then (kv.1, v) else kv).map (·.1) = ks.map Sum.inr
  | [], [], [], _, .nil => ⟨.nil, rfl⟩
  | [], _ :: _, _, e, _ => by cases e
  | _ :: _, [], _, e, _ => by cases e
  | k :: ks, (k', u) :: kvs, y :: ys, e, .cons r t => by
    rw [List.map_cons, List.map_cons] at e
    obtain ⟨e1, e2⟩ := List.cons.inj e
    have e1 : k' = Sum.inr k := e1
    subst e1
    obtain ⟨a, b⟩ := map_put rd e2 t
    rw [List.zip_cons_cons, List.map_cons, List.map_cons, List.map_cons, List.map_cons, List.map_cons, b]
    by_cases c : k = x
    · subst c
      simp only [if_true]
      exact ⟨.cons rd a, trivial⟩
    · simp only [if_neg c, Sum.inr.injEq]
      exact ⟨.cons r a, trivial⟩
theorem put_rep {x : Str} {d : D} {v : V} (rd : Rep K Hs d v) {ks : List Str} {kvs : List (Key × V)} {ys : List D} (e : kvs.map (·.1) = ks.map Sum.inr) (r : Reps K Hs ys (kvs.map (·.2))) :
    (putK kvs (Sum.inr x) v).map (·.1) = (putS x d ks ys).1.map Sum.inr ∧ Reps K Hs (putS x d ks ys).2 ((putK kvs (Sum.inr x) v).map (·.2)) := by
  unfold putK putS
  rw [any_has e]
  by_cases c : ks.contains x = true
  · rw [if_pos c, if_pos c]
    obtain ⟨a, b⟩ := map_put (x := x) rd e r
    exact ⟨b, a⟩
  · rw [if_neg c, if_neg c]
    have h1 : (kvs ++ [((Sum.inr x : Key), v)]).map Prod.fst = (ks ++ [x]).map Sum.inr := by
      rw [List.map_append, List.map_append, e]
      rfl
    have h2 : Reps K Hs (ys ++ [d]) ((kvs ++ [((Sum.inr x : Key), v)]).map Prod.snd) := by
      rw [List.map_append]
      exact r.append (.cons rd .nil)
    exact ⟨h1, h2⟩
end
end Py

namespace Py
open PySem PySem.Spec PyProof.Rows L2

def tupI : D → Option (List Int)
  | .tup xs => asInts xs
  | _ => none
def keysOf : List D → Option (List (List Int))
  | [] => some []
  | d :: ds => (tupI d).bind fun k => (keysOf ds).map (k :: ·)
def ktup (k : List Int) : D := .tup (k.map .int)
def dd : List (List Int) → List (List Int)
  | [] => []
  | k :: ks => if k ∈ ks then dd ks else k :: dd ks
theorem mem_dd : ∀ {ks : List (List Int)} {k : List Int}, k ∈ dd ks ↔ k ∈ ks
  | [], k => Iff.rfl
  | x :: ks, k => by
    unfold dd
    by_cases h : x ∈ ks
    · rw [if_pos h, mem_dd, List.mem_cons]
      exact ⟨.inr, fun z => z.elim (fun e => e ▸ h) id⟩
    · rw [if_neg h, List.mem_cons, List.mem_cons, mem_dd]
theorem nodup_dd : ∀ ks : List (List Int), (dd ks).Nodup
  | [] => .nil
  | x :: ks => by
    unfold dd
    by_cases h : x ∈ ks
    · rw [if_pos h]; exact nodup_dd ks
    · rw [if_neg h]
      exact List.nodup_cons.mpr ⟨fun z => h (mem_dd.mp z), nodup_dd ks⟩
def sortK (ks : List (List Int)) : List (List Int) := (dd ks).mergeSort fun a b => decide (a ≤ b)
/-- sorted(t), t a tuple of rows of numbers -/
def D.srt : D → R D
  | .tup xs => match keysOf xs with
    | some ks => if decide (ks.length ≤ 1000) && ks.all (fun k => !k.isEmpty && decide (k.length ≤ 100)) then .ok (.lst ((ks.mergeSort fun a b => decide (a ≤ b)).map ktup)) else .stuck
    | none => .stuck
  | _ => .stuck
/-- how many numbers there are, each once -/
def metI (ns : List Int) : List Int := ns.foldl (fun σ k => if σ.any (· == k) then σ else σ ++ [k]) []
def sortI (ns : List Int) : List Int := (metI ns).mergeSort fun a b => decide (a ≤ b)
def ssetK (xs : List D) (r : R D) : R D := match keysOf xs with
  | some ks => if decide (ks.length < 64) && ks.all (fun k => !k.isEmpty) then .ok (.lst ((sortK ks).map ktup)) else .stuck
  | none => r
def ssetI (xs : List D) : R D := match asInts xs with
  | some ns => if ns.length < 64 then .ok (.lst ((sortI ns).map .int)) else .stuck
  | none => .stuck
/-- long, but few unlike ones -/
def bigK (ks : List (List Int)) : Bool := (decide (64 ≤ ks.length) && decide (ks.length ≤ 4000)) && (decide ((dd ks).length ≤ 62) && ks.all fun k => !k.isEmpty)
def ssetB (xs : List D) (r : R D) : R D := match keysOf xs with
  | some ks => if bigK ks then .ok (.lst ((sortK ks).map ktup)) else r
  | none => r
theorem ssetB_small {xs : List D} {ks : List (List Int)} (r : R D) (e : keysOf xs = some ks) (h : ks.length < 64) : ssetB xs r = r := by
  unfold ssetB
  rw [e]
  have : bigK ks = false := by
    unfold bigK
    rw [decide_eq_false (by omega), Bool.false_and, Bool.false_and]
  simp only [this, Bool.false_eq_true, if_false]
def D.sset : D → R D
  | .lst xs => ssetB xs (ssetK xs (ssetI xs))
  | .tup xs => ssetK xs .stuck
  | _ => .stuck
def D.lset : D → R D
  | .lst xs => match asInts xs with
    | some ns => if ns.length ≤ 4000 then .ok (.int (metI ns).length) else .stuck
    | none => .stuck
  | _ => .stuck

inductive Cst where
  | non | bl (b : Bool) | int (i : Int) | str (x : Str) | tab (t : List (Str × Str))
  deriving DecidableEq
def Cst.noT : Cst → Bool
  | .tab _ => false
  | _ => true
def Cst.d : Cst → D
  | .non => .non | .bl b => .bl b | .int i => .int i | .str x => .str x | .tab _ => .non
def Cst.v : Cst → V
  | .non => .non | .bl b => .bl b | .int i => .int i | .str x => .str x | .tab _ => .non
def Cst.is : Cst → Const → Bool
  | .non, .none => true
  | .bl b, .bool c => b == c
  | .int i, .int j => decide (i = j)
  | .str x, .str y => decide (x = y)
  | _, _ => false
inductive Bi where
  | len | abs | max2 | min2 | minL | maxL | list | tuple | all | any | int | sorted | str
  deriving DecidableEq
def Bi.name : Bi → Str
  | .len => "len" | .abs => "abs" | .max2 => "max" | .min2 => "min" | .minL => "min" | .maxL => "max" | .list => "list" | .tuple => "tuple" | .all => "all" | .any => "any" | .int => "int" | .sorted => "sorted" | .str => "str"
def Bi.f : Bi → List D → R D
  | .len => f1 D.len | .abs => f1 D.abs | .max2 => f2 D.max2 | .min2 => f2 D.min2 | .minL => f1 D.minL | .maxL => f1 D.maxL | .list => f1 D.listOf | .tuple => f1 D.tupOf
  | .all => f1 D.allL | .any => f1 D.anyL | .int => f1 D.intOf | .sorted => f1 D.sorted | .str => f1 D.strOf
/-- the types that isinstance is asked for -/
inductive Ty where
  | int | bool | str | tuple | list
  deriving DecidableEq
def Ty.name : Ty → String
  | .int => "int" | .bool => "bool" | .str => "str" | .tuple => "tuple" | .list => "list"
def D.isTy : D → Ty → Bool
  | .int _, .int => true | .bl _, .int => true | .bl _, .bool => true | .str _, .str => true | .tup _, .tuple => true | .ftp _, .tuple => true | .lst _, .list => true | .scr _, .list => true
  | _, _ => false
inductive Tgt where
  | nm (i : Nat) | tp (is : List Nat)
mutual
inductive E where
  | var (i : Nat)
  | cst (c : Cst)
  | glo (x : Str) (c : Cst)
  | bin (o : Bop) (a b : E)
  | neg (a : E)
  | cmp (o : Cop) (a b : E)
  | isn (no : Bool) (a : E)
  | isb (no : Bool) (a : E) (b : Bool)
  | chain (o1 o2 : Cop) (a b c : E)
  | and (es : Es)
  | or (es : Es)
  | not (a : E)
  | tup (es : Es)
  | lst (es : Es)
  | ix (a b : E)
  | sl (a : E) (lo hi : Es)
  | call (k : Nat) (es : Es)
  | bi (b : Bi) (es : Es)
  | isi (a : E) (t : Ty)
  | minD (a : E)
  | lrange1 (a : E)
  | lrange2 (a b : E)
  | sset (a : E)
  | srt (a : E)
  | slk (a k : E)
  | idx (a b : E)
  | ftup (a : E)
  | tix (a b : E)
  | lc (t : Tgt) (it : It) (ifs : Es) (e : E)
  | isx (a : E) (c : Str)
  | fld (a : E) (f : Str)
  | isxs (a : E) (cs : List Str)
  | dic0
  | lset (a : E)
  | fat (a : E) (f : Str)
  | meth (m : Str) (k : Nat) (cs : List Str) (a : E) (es : Es)
  | mxk (mx : Bool) (m : Str) (k : Nat) (cs : List Str) (a b : E)
  | sm (m : Sm) (a b : E)
  | fs (es : Es)
  | dix (a b : E)
  | ddl (t : List (Str × Str))
  | dgt (a b c : E)
  | din (no : Bool) (a b : E)
  | kix (x : Str) (t : List (Str × Str)) (a : E)
  | kget (x : Str) (t : List (Str × Str)) (a : E)
inductive Es where
  | nil
  | cons (e : E) (es : Es)
inductive It where
  | val (a : E)
  | range (es : Es)
  | zip (a b : E)
  | range3 (es : Es)
end

def D.truth : D → R Bool
  | .non => .ok false
  | .bl b => .ok b
  | .int i => .ok (i != 0)
  | .str x => if x.length ≤ 16777216 then .ok ((x.length : Int) != 0) else .stuck
  | .lst xs => .ok (!xs.isEmpty)
  | .tup xs => .ok (!xs.isEmpty)
  | .scr xs => .ok (!xs.isEmpty)
  | .exv _ _ => .stuck
  | .dic => .stuck
  | .ftp _ => .stuck
  | .obj _ _ _ => .stuck
  | .dct _ _ => .stuck
  | .dkt _ => .stuck
def D.ix : D → D → R D
  | .lst xs, .int i => match atI xs i with
    | some d => .ok d
    | none => .stuck
  | .tup xs, .int i => match atI xs i with
    | some d => .ok d
    | none => .stuck
  | .scr ns, .int i => match atI ns i with
    | some n => .ok (.int n)
    | none => .stuck
  | .ftp ns, .int i => match atI ns i with
    | some n => .ok (.int n)
    | none => .stuck
  | .str x, .int i => if x.length ≤ 16777216 then (match atI x.cps.toList i with
    | some c => .ok (.str ⟨#[c]⟩)
    | none => .stuck) else .stuck
  | _, _ => .stuck
def cutA {α : Type} (xs : List α) (lo hi : Option Int) : List α := (xs.drop (HT.sIx xs.length 0 lo)).take (HT.sIx xs.length xs.length hi - HT.sIx xs.length 0 lo)
def D.sl (d : D) (lo hi : Option Int) : R D := match d with
  | .lst xs => .ok (.lst (cutA xs lo hi))
  | .tup xs => .ok (.tup (cutA xs lo hi))
  | .scr ns => .ok (.lst ((cutA ns lo hi).map D.int))
  | .str x => if x.length ≤ 16777216 then .ok (.str (cutS x lo hi)) else .stuck
  | _ => .stuck
def pickS {α : Type} (xs : List α) (k : Int) : List α := (sliceRange (sliceBounds none none (some k) xs.length).1 (sliceBounds none none (some k) xs.length).2.1 (sliceBounds none none (some k) xs.length).2.2).filterMap (xs[·]?)
def D.slk : D → D → R D
  | .lst xs, .int k => if k = 0 then .stuck else .ok (.lst (pickS xs k))
  | .scr ns, .int k => if k = 0 then .stuck else .ok (.lst ((pickS ns k).map D.int))
  | .tup xs, .int k => if k = -1 then .ok (.tup xs.reverse) else .stuck
  | _, _ => .stuck
def D.isL : D → Bool
  | .lst _ => true
  | _ => false
def D.idx : D → D → R D
  | .lst xs, y => if y.flat && xs.all D.flat then (match xs.findIdx? fun x => PyData.eqv x.pd y.pd with
    | some j => .ok (.int (j : Nat))
    | none => .stuck) else .stuck
  | _, _ => .stuck
def D.ftup : D → R D
  | .lst xs => match asInts xs with
    | some ns => .ok (.ftp ns)
    | none => .stuck
  | _ => .stuck
def D.tix : D → D → R D
  | .ftp ns, .int k => match ns.findIdx? fun x => x == k with
    | some j => .ok (.int (j : Nat))
    | none => .stuck
  | _, _ => .stuck
def D.isF : D → Bool
  | .ftp _ => true
  | _ => false
def D.negI : D → R D
  | .int i => .ok (.int (-i))
  | _ => .stuck
def D.isNon : D → Bool
  | .non => true
  | _ => false
def D.isb (no b : Bool) : D → R D
  | .bl a => .ok (.bl (if no then !decide (a = b) else decide (a = b)))
  | _ => .stuck
def exName (c : Str) : Bool := decide (c = "ValueError") || decide (c = "PurseError") || (exFld c).isSome
def D.isx (c : Str) : D → R D
  | .exv k _ => if c = "ValueError" ∨ c = "PurseError" then .ok (.bl true) else if (exFld c).isSome then .ok (.bl (decide (k = c))) else .stuck
  | .non => if exName c then .ok (.bl false) else .stuck
  | _ => .stuck
def D.isxs (cs : List Str) : D → R D
  | .exv k _ => if (cs.all fun c => (exFld c).isSome) then .ok (.bl (cs.any fun c => decide (k = c))) else .stuck
  | _ => .stuck
def D.fld (f : Str) : D → R D
  | .exv k [y] => if exFld k = some (some f) then .ok y else .stuck
  | _ => .stuck
def D.fat (f : Str) : D → R D
  | .obj _ ns ys => match (ns.zip ys).lookup f with
    | some d => .ok d
    | none => .stuck
  | _ => .stuck
/-- the class is one of these, no field has the name -/
def D.isOb (m : Str) (cs : List Str) : D → Bool
  | .obj c ns _ => cs.contains c && !ns.contains m
  | _ => false
/-- the numbers that a function gives for each thing -/
def keysM (g : D → R D) : List D → R (List Int)
  | [] => .ok []
  | x :: xs => match g x with
    | .ok (.int i) => match keysM g xs with
      | .ok l => .ok (i :: l)
      | _ => .stuck
    | _ => .stuck
def D.isTupl : D → Bool
  | .tup _ => true
  | _ => false
/-- the first of the greatest, of the least -/
def D.mxk (mx : Bool) (g : D → R D) : D → R D
  | .lst xs => if xs.all D.isTupl then (match keysM g xs with
    | .ok is => match xs[argBest (btOf mx fun i => is.getD i 0) (xs.length - 1)]? with
      | some d => .ok d
      | none => .stuck
    | _ => .stuck) else .stuck
  | _ => .stuck
def D.asI : D → R (Option Int)
  | .int i => .ok (some i)
  | _ => .stuck
def D.asB : D → R Bool
  | .bl b => .ok b
  | _ => .stuck
def rangeD (lo hi : Int) : R (List D) :=
  if -4611686018427387904 ≤ lo ∧ lo < 4611686018427387904 ∧ -4611686018427387904 ≤ hi ∧ hi < 4611686018427387904 then .ok ((List.range (hi - lo).toNat).map fun i => .int (lo + (i : Nat))) else .stuck
def D.rangeOf : List D → R (List D)
  | [.int n] => rangeD 0 n
  | [.int a, .int b] => rangeD a b
  | _ => .stuck
def D.range3 : List D → R (List D)
  | [.int i, .int j, .int c] => if c ≠ 0 ∧ c.natAbs < 1073741824 ∧ Builtin.Range.small i j c = true ∧ 0 ≤ Builtin.Range.rangeSize i j c then .ok ((List.range (Builtin.Range.rangeSize i j c).toNat).map fun k => .int (i + (k : Nat) * c)) else .stuck
  | _ => .stuck
def D.items : D → R (List D)
  | .lst xs => .ok xs
  | .tup xs => .ok xs
  | .scr ns => .ok (ns.map D.int)
  | .str x => .ok (x.cps.toList.map fun c => D.str ⟨#[c]⟩)
  | .dkt zs => .ok (zs.map fun z => .tup [.int z.1.1, .tup [.int z.1.2.1, .int z.1.2.2]])
  | _ => .stuck
def D.zipOf : D → D → R (List D)
  | .lst xs, .lst ys => .ok (xs.zipWith (fun x y => .tup [x, y]) ys)
  | .tup xs, .lst ys => .ok (xs.zipWith (fun x y => .tup [x, y]) ys)
  | .str x, .lst ys => .ok ((x.cps.toList.map fun c => D.str ⟨#[c]⟩).zipWith (fun x y => .tup [x, y]) ys)
  | _, _ => .stuck
def setAll : List Nat → List D → Env → Option Env
  | [], [], ρ => some ρ
  | i :: is, d :: ds, ρ => setAll is ds (ρ.set i (some d))
  | _, _, _ => none
def Tgt.bind : Tgt → D → Env → R Env
  | .nm i, d, ρ => .ok (ρ.set i (some d))
  | .tp is, d, ρ => match d with
    | .tup ds => match setAll is ds ρ with
      | some ρ' => .ok ρ'
      | none => .stuck
    | _ => .stuck
def Tgt.ixs : Tgt → List Nat
  | .nm i => [i]
  | .tp is => is
def R.nox {α : Type} : R α → R α
  | .ok a => .ok a
  | _ => .stuck
@[simp] theorem R.nox_ok {α : Type} (a : α) : (R.ok a).nox = .ok a := Eq.trans rfl rfl
def lcGo (f : D → R (Option D)) : List D → R (List D)
  | [] => .ok []
  | x :: xs => do
    let o ← (f x).nox
    let l ← lcGo f xs
    match o with
    | some d => .ok (d :: l)
    | none => .ok l
abbrev Fns := List (Nat × (List D → R D))
def Es.len : Es → Nat
  | .nil => 0
  | .cons _ es => es.len + 1
mutual
def ev (Φ : Fns) : E → Env → R D
  | .var i, ρ => match ρ[i]? with
    | some (some d) => .ok d
    | _ => .stuck
  | .cst c, _ => .ok c.d
  | .glo _ c, _ => .ok c.d
  | .bin o a b, ρ => do
    let x ← ev Φ a ρ
    let y ← ev Φ b ρ
    o.f x y
  | .neg a, ρ => do
    let x ← ev Φ a ρ
    D.negI x
  | .cmp o a b, ρ => do
    let x ← ev Φ a ρ
    let y ← ev Φ b ρ
    o.f x y
  | .isn no a, ρ => do
    let x ← ev Φ a ρ
    .ok (.bl (if no then !x.isNon else x.isNon))
  | .isb no a b, ρ => do
    let x ← ev Φ a ρ
    D.isb no b x
  | .chain o1 o2 a b c, ρ => do
    let x ← ev Φ a ρ
    let y ← ev Φ b ρ
    let r ← o1.f x y
    let k ← D.asB r
    if k then do
      let z ← ev Φ c ρ
      o2.f y z
    else .ok (.bl false)
  | .and es, ρ => evAnd Φ es ρ
  | .or es, ρ => evOr Φ es ρ
  | .not a, ρ => do
    let x ← ev Φ a ρ
    let k ← D.truth x
    .ok (.bl (!k))
  | .tup es, ρ => do
    let xs ← evs Φ es ρ
    .ok (.tup xs)
  | .lst es, ρ => do
    let xs ← evs Φ es ρ
    .ok (.lst xs)
  | .ix a b, ρ => do
    let x ← ev Φ a ρ
    let y ← ev Φ b ρ
    D.ix x y
  | .sl a lo hi, ρ => do
    let x ← ev Φ a ρ
    let l ← evPart Φ lo ρ
    let h ← evPart Φ hi ρ
    D.sl x l h
  | .call k es, ρ => do
    let xs ← evs Φ es ρ
    match Φ[k]? with
    | some (n, g) => if xs.length = n then g xs else .stuck
    | none => .stuck
  | .bi b es, ρ => do
    let xs ← evs Φ es ρ
    b.f xs
  | .isi a t, ρ => do
    let x ← ev Φ a ρ
    .ok (.bl (x.isTy t))
  | .minD a, ρ => do
    let x ← ev Φ a ρ
    D.minD x
  | .lrange1 a, ρ => do
    let x ← ev Φ a ρ
    let l ← D.rangeOf [x]
    if l.length ≤ 16777216 then .ok (.lst l) else .stuck
  | .lrange2 a b, ρ => do
    let x ← ev Φ a ρ
    let y ← ev Φ b ρ
    let l ← D.rangeOf [x, y]
    if l.length ≤ 16777216 then .ok (.lst l) else .stuck
  | .sset a, ρ => do
    let x ← ev Φ a ρ
    D.sset x
  | .srt a, ρ => do
    let x ← ev Φ a ρ
    D.srt x
  | .slk a k, ρ => do
    let x ← ev Φ a ρ
    let y ← ev Φ k ρ
    D.slk x y
  | .idx a b, ρ => do
    let x ← ev Φ a ρ
    if x.isL then do
      let y ← ev Φ b ρ
      D.idx x y
    else .stuck
  | .ftup a, ρ => do
    let x ← ev Φ a ρ
    D.ftup x
  | .tix a b, ρ => do
    let x ← ev Φ a ρ
    if x.isF then do
      let y ← ev Φ b ρ
      D.tix x y
    else .stuck
  | .lc t it ifs e, ρ => do
    let xs ← evIt Φ it ρ
    if xs.length ≤ 16777215 then do
      let l ← lcGo (fun x => do
        let ρ' ← t.bind x ρ
        let k ← evTests Φ ifs ρ'
        if k then do
          let y ← ev Φ e ρ'
          .ok (some y)
        else .ok none) xs
      .ok (.lst l)
    else .stuck
  | .isx a c, ρ => do
    let x ← ev Φ a ρ
    D.isx c x
  | .fld a f, ρ => do
    let x ← ev Φ a ρ
    D.fld f x
  | .isxs a cs, ρ => do
    let x ← ev Φ a ρ
    D.isxs cs x
  | .dic0, _ => .ok .dic
  | .lset a, ρ => do
    let x ← ev Φ a ρ
    D.lset x
  | .fat a f, ρ => do
    let x ← ev Φ a ρ
    D.fat f x
  | .meth m k cs a es, ρ => do
    let x ← ev Φ a ρ
    if x.isOb m cs then do
      let xs ← evs Φ es ρ
      match Φ[k]? with
      | some (n, g) => if xs.length + 1 = n then g (x :: xs) else .stuck
      | none => .stuck
    else .stuck
  | .mxk mx m k cs a b, ρ => do
    let x ← ev Φ a ρ
    let y ← ev Φ b ρ
    if y.isOb m cs then (match Φ[k]? with
      | some (n, g) => if n = 2 then D.mxk mx (fun d => g [y, d]) x else .stuck
      | none => .stuck) else .stuck
  | .sm m a b, ρ => do
    let x ← ev Φ a ρ
    if x.isS then do
      let y ← ev Φ b ρ
      D.sm m x y
    else .stuck
  | .fs es, ρ => evFs Φ es Str.empty ρ
  | .dix a b, ρ => do
    let x ← ev Φ a ρ
    let y ← ev Φ b ρ
    D.dix x y
  | .ddl t, _ => ddlD t
  | .dgt a b c, ρ => do
    let x ← ev Φ a ρ
    if x.isDc then do
      let y ← ev Φ b ρ
      let z ← ev Φ c ρ
      D.dgt x y z
    else .stuck
  | .din no a b, ρ => do
    let x ← ev Φ a ρ
    let y ← ev Φ b ρ
    D.din no x y
  | .kix _ t a, ρ => do
    let x ← ev Φ a ρ
    kixD t x
  | .kget _ t a, ρ => do
    let x ← ev Φ a ρ
    kgetD t x
def evFs (Φ : Fns) : Es → Str → Env → R D
  | .nil, acc, _ => .ok (.str acc)
  | .cons e es, acc, ρ => do
    let x ← ev Φ e ρ
    let y ← D.fmtOf acc x
    evFs Φ es y ρ
def evs (Φ : Fns) : Es → Env → R (List D)
  | .nil, _ => .ok []
  | .cons e es, ρ => do
    let x ← ev Φ e ρ
    let xs ← evs Φ es ρ
    .ok (x :: xs)
def evAnd (Φ : Fns) : Es → Env → R D
  | .nil, _ => .stuck
  | .cons e es, ρ => match es with
    | .nil => ev Φ e ρ
    | .cons _ _ => do
      let x ← ev Φ e ρ
      let k ← D.truth x
      if k then evAnd Φ es ρ else .ok x
def evOr (Φ : Fns) : Es → Env → R D
  | .nil, _ => .stuck
  | .cons e es, ρ => match es with
    | .nil => ev Φ e ρ
    | .cons _ _ => do
      let x ← ev Φ e ρ
      let k ← D.truth x
      if k then .ok x else evOr Φ es ρ
def evPart (Φ : Fns) : Es → Env → R (Option Int)
  | .nil, _ => .ok none
  | .cons e _, ρ => do
    let x ← ev Φ e ρ
    D.asI x
def evTests (Φ : Fns) : Es → Env → R Bool
  | .nil, _ => .ok true
  | .cons e _, ρ => do
    let x ← ev Φ e ρ
    D.truth x
def evIt (Φ : Fns) : It → Env → R (List D)
  | .val a, ρ => do
    let x ← ev Φ a ρ
    D.items x
  | .range es, ρ => do
    let xs ← evs Φ es ρ
    D.rangeOf xs
  | .zip a b, ρ => do
    let x ← ev Φ a ρ
    let y ← ev Φ b ρ
    D.zipOf x y
  | .range3 es, ρ => do
    let xs ← evs Φ es ρ
    D.range3 xs
end
end Py

namespace Py
open PySem PySem.Spec PyProof.Rows L2

def spOf (K : PySem.W.Frag) (mg : Str → Option Value) (n : Nat) (g : List D → R D) : Sp := fun vs H Q E =>
  ∃ (Hs : Hp) (ds : List D), Ex Hs H ∧ Reps K Hs ds vs ∧ ds.length = n ∧ PstD K mg Hs H (g ds) Q E
def D.isDct : D → Bool
  | .dct _ _ => true
  | .dic => true
  | _ => false
/-- things that somebody has for his own: by their addresses -/
inductive FRs (K : PySem.W.Frag) (Hs H : Hp) : List D → List V → List Addr → Prop
  | nil : FRs K Hs H [] [] []
  | rep {d : D} {v : V} {ds : List D} {vs : List V} {A : List Addr} : d.isDct = false → Rep K Hs d v → FRs K Hs H ds vs A → FRs K Hs H (d :: ds) (v :: vs) A
  | dct {q : Addr} {ks : List Str} {ys : List D} {kvs : List (Key × V)} {ds : List D} {vs : List V} {A : List Addr} : H q = some (.dK kvs) → kvs.map (·.1) = ks.map Sum.inr → Reps K Hs ys (kvs.map (·.2)) → q ∉ A → FRs K Hs H ds vs A → FRs K Hs H (.dct ks ys :: ds) (.ref q :: vs) (q :: A)
inductive OwnR (K : PySem.W.Frag) (Hs H : Hp) : D → V → List Addr → Prop
  | non : OwnR K Hs H .non .non []
  | lst {p : Addr} {ds : List D} {vs : List V} : H p = some (.lst vs) → Reps K Hs ds vs → OwnR K Hs H (.lst ds) (.ref p) [p]
  | obj {p C dx : Addr} {c : Str} {ns : List Str} {fs : List (Str × V)} {ys : List D} {A : List Addr} : H p = some (.ins C dx fs) → ObK K c C → fs.map (·.1) = ns → FRs K Hs H ys (fs.map (·.2)) A → OwnR K Hs H (.obj c ns ys) (.ref p) (p :: A)
  | val {d : D} {v : V} : d.lf = true → Rep K Hs d v → OwnR K Hs H d v []
  | dkt {p : Addr} {o : Obj} {xs : List KEnt} {zs : List (NKey × Option Int)} : H p = some (dko p o) → DkE p o xs → DkR Hs zs xs → OwnR K Hs H (.dkt zs) (.ref p) [p]
/-- several, apart from one another: their values, their addresses -/
inductive Owns (K : PySem.W.Frag) (Hs H : Hp) : List D → List V → List (List Addr) → Prop
  | nil : Owns K Hs H [] [] []
  | cons {d : D} {v : V} {ds : List D} {vs : List V} {A : List Addr} {As : List (List Addr)} : OwnR K Hs H d v A → Owns K Hs H ds vs As → Owns K Hs H (d :: ds) (v :: vs) (A :: As)
/-- the heap but for some addresses -/
def without (H : Hp) (A : List Addr) : Hp := fun a => if a ∈ A then none else H a
inductive MR where
  | ok (d : D) (os : List D) | exc (x : XD) (os : List D) | stuck
def decM : R D → MR
  | .ok (.tup (.bl true :: d :: os)) => .ok d os
  | .ok (.tup (.bl false :: .tup [.str c] :: os)) => .exc ⟨c, none⟩ os
  | .ok (.tup (.bl false :: .tup [.str c, .str f, y] :: os)) => .exc ⟨c, some (f, y)⟩ os
  | _ => .stuck
def PstM (K : PySem.W.Frag) (mg : Str → Option Value) (Hs H : Hp) (As : List Addr) (us : List V) (r : MR) (Q : VK) (E : XK) : Prop := match r with
  | .ok d os => ∀ v Hi H' Bs, Le Hs (without H As) Hi H' → Rep K Hi d v → Owns K Hi H' os us Bs → (∀ a ∈ Bs.flatten, Hi a = none ∧ (a ∈ As ∨ H a = none)) → Bs.flatten.Nodup → Q v H'
  | .exc x os => ∀ c d Hi H' Bs, Le Hs (without H As) Hi H' → XRep K mg Hi H' x c d → Owns K Hi H' os us Bs → (∀ a ∈ Bs.flatten, Hi a = none ∧ (a ∈ As ∨ H a = none)) → Bs.flatten.Nodup → E c d H'
  | .stuck => False
/-- the arguments: those that are things of the caller's own are marked -/
inductive ArgsR (K : PySem.W.Frag) (Hs H : Hp) : List Bool → List D → List V → List (List Addr) → Prop
  | nil : ArgsR K Hs H [] [] [] []
  | own {bs : List Bool} {d : D} {v : V} {ds : List D} {vs : List V} {A : List Addr} {As : List (List Addr)} : OwnR K Hs H d v A → ArgsR K Hs H bs ds vs As → ArgsR K Hs H (true :: bs) (d :: ds) (v :: vs) (A :: As)
  | val {bs : List Bool} {d : D} {v : V} {ds : List D} {vs : List V} {As : List (List Addr)} : Rep K Hs d v → ArgsR K Hs H bs ds vs As → ArgsR K Hs H (false :: bs) (d :: ds) (v :: vs) As
def pick {α : Type} : List Bool → List α → List α
  | true :: bs, v :: vs => v :: pick bs vs
  | false :: bs, _ :: vs => pick bs vs
  | _, _ => []
def spM (K : PySem.W.Frag) (mg : Str → Option Value) (bs : List Bool) (g : List D → R D) : Sp := fun vs H Q E =>
  ∃ (Hs : Hp) (ds : List D) (As : List (List Addr)), Ex Hs H ∧ ArgsR K Hs H bs ds vs As ∧ (∀ a ∈ As.flatten, Hs a = none) ∧ As.flatten.Nodup ∧ PstM K mg Hs H As.flatten (pick bs vs) (decM (g ds)) Q E
/-- a def that may be called: a function, a method of some classes (__init__ by the class); own: which parameters it changes -/
structure Cal where
  name : Str
  f : Addr
  fd : FuncData
  ps : List Str
  g : List D → R D
  cls : List Str
  own : List Bool
def Cal.sp (c : Cal) (K : PySem.W.Frag) (mg : Str → Option Value) : Sp := if c.own = [] then spOf K mg c.ps.length c.g else spM K mg c.own c.g
structure Cal.Ok (c : Cal) (P : Program) (w : World) (K : PySem.W.Frag) (mg : Str → Option Value) (base : Heap) (k : Nat) : Prop where
  ok : FnOk P w K mg base (L2.CX P w) k c.f c.fd c.ps (c.sp K mg)
  gl : c.cls = [] → mg c.name = some (.ref c.f)
  kp : PySem.W.keepIn K (.ref c.f) = true
  bd : Binds K c.fd c.ps []
  mt : c.name ≠ "__init__" → ∀ x ∈ c.cls, ∃ C, PySem.W.nsIn K mainGlobals x = some (some (.ref C)) ∧ BMeth K C c.name c.f
  ini : c.name = "__init__" → ∀ x ∈ c.cls, ∃ C, mg x = some (.ref C) ∧ ObK K x C ∧ L2.Mk K C c.f
theorem Cal.Ok.fn {c : Cal} {P : Program} {w : World} {K : PySem.W.Frag} {mg : Str → Option Value} {base : Heap} {k : Nat} (h : c.Ok P w K mg base k) (h0 : c.own = []) : FnOk P w K mg base (L2.CX P w) k c.f c.fd c.ps (spOf K mg c.ps.length c.g) := by
  have := h.ok
  unfold Cal.sp at this
  rw [if_pos h0] at this
  exact this
theorem Cal.Ok.fm {c : Cal} {P : Program} {w : World} {K : PySem.W.Frag} {mg : Str → Option Value} {base : Heap} {k : Nat} (h : c.Ok P w K mg base k) (h0 : c.own ≠ []) : FnOk P w K mg base (L2.CX P w) k c.f c.fd c.ps (spM K mg c.own c.g) := by
  have := h.ok
  unfold Cal.sp at this
  rw [if_neg h0] at this
  exact this
/-- what the checker knows: the slots' names, the module's constants, the built-ins' names that are free, the callees' names and numbers of parameters -/
structure Cfg where
  N : List Str
  gl : List (Str × Cst)
  bl : List Str
  cn : List (Str × Nat)
  ex : Bool
  np : Nat
  km : List (List Str × List Bool)
  mx : Bool
  exn : List Str
def GlP (K : PySem.W.Frag) (w : World) (mg : Str → Option Value) (p : Str × Cst) : Prop := match p.2 with
  | .tab t => ∃ d, mg p.1 = some (.ref d) ∧ KTab K w d t
  | c => ∃ u, mg p.1 = some u ∧ RelV c.v u
structure XOk (X : Cx) (C : Cfg) (cs : List Cal) (k : Nat) : Prop where
  calm : X.calm = true
  names : X.N = C.N
  nd : C.N.Nodup
  room : Room k X.A
  fns : ∀ c ∈ cs, c.Ok X.prog X.w X.K X.mg X.base k
  cn : C.cn = cs.map fun c => (c.name, c.ps.length)
  free : ∀ x ∈ C.bl, X.mg x = none
  glob : ∀ p ∈ C.gl, GlP X.K X.w X.mg p
  exs : C.ex = true → (∃ B, ExAll X.prog X.w X.K X.mg X.base B) ∧ 2 ≤ k ∧ ∀ c ∈ C.exn, X.mg c ≠ none
  km : C.km = cs.map fun c => (c.cls, c.own)
  mxs : C.mx = true → ∃ j, k = j + 1 ∧ ∀ c ∈ cs, c.Ok X.prog X.w X.K X.mg X.base j
def fnsOf (cs : List Cal) : Fns := cs.map fun c => (c.ps.length, c.g)

def xName : Expr → Option Str
  | .Name x _ => some x
  | _ => none
def xConst : Expr → Option Const
  | .Constant c _ _ => some c
  | _ => none
def xBin : Expr → Option (Expr × Operator × Expr)
  | .BinOp a o b _ => some (a, o, b)
  | _ => none
def xUn : Expr → Option (UnaryOp × Expr)
  | .UnaryOp o a _ => some (o, a)
  | _ => none
def xCmp : Expr → Option (Expr × CmpOp × Expr)
  | .Compare a [o] [b] _ => some (a, o, b)
  | _ => none
def xChain : Expr → Option (Expr × CmpOp × CmpOp × Expr × Expr)
  | .Compare a [o, o'] [b, c] _ => some (a, o, o', b, c)
  | _ => none
def xBool : Expr → Option (BoolOp × List Expr)
  | .BoolOp o xs _ => some (o, xs)
  | _ => none
def xTup : Expr → Option (List Expr)
  | .Tuple xs _ _ => some xs
  | _ => none
def xLst : Expr → Option (List Expr)
  | .List xs _ => some xs
  | _ => none
def xSub : Expr → Option (Expr × Expr)
  | .Subscript a b _ => some (a, b)
  | _ => none
def xSlice : Expr → Option (Option Expr × Option Expr)
  | .Slice l h none _ => some (l, h)
  | _ => none
def xCall : Expr → Option (Str × List Expr)
  | .Call (.Name x _) args [] _ => some (x, args)
  | _ => none
def xCallK : Expr → Option (Str × List Expr × Str × Expr)
  | .Call (.Name x _) args [⟨some n, e, _⟩] _ => some (x, args, n, e)
  | _ => none
def xLc : Expr → Option (Expr × Expr × Expr × List Expr × Scope)
  | .ListComp e [⟨t, i, ifs, 0⟩] sc _ => some (e, t, i, ifs, sc)
  | _ => none
def xDic : Expr → Bool
  | .Dict [] [] _ => true
  | _ => false
def xDisp : Expr → Option (List (Option Expr) × List Expr)
  | .Dict ks vs _ => some (ks, vs)
  | _ => none
theorem xDisp_s {e : Expr} {k : List (Option Expr)} {v : List Expr} (h : xDisp e = some (k, v)) : ∃ p, e = .Dict k v p := by
  unfold xDisp at h; split at h <;> simp at h; obtain ⟨rfl, rfl⟩ := h; exact ⟨_, rfl⟩
def isStrC (a : Str) (e : Expr) : Bool := match xConst e with
  | some c => (Cst.str a).is c
  | none => false
def chkD : List (Str × Str) → List (Option Expr) → List Expr → Bool
  | [], [], [] => true
  | p :: t, some k :: ks, v :: vs => isStrC p.1 k && isStrC p.2 v && chkD t ks vs
  | _, _, _ => false
theorem xDic_s {e : Expr} (h : xDic e = true) : ∃ p, e = .Dict [] [] p := by
  unfold xDic at h; split at h <;> simp at h; exact ⟨_, rfl⟩
theorem xName_s {e : Expr} {x : Str} (h : xName e = some x) : ∃ p, e = .Name x p := by
  unfold xName at h; split at h <;> simp at h; subst h; exact ⟨_, rfl⟩
theorem xConst_s {e : Expr} {x : Const} (h : xConst e = some x) : ∃ j p, e = .Constant x j p := by
  unfold xConst at h; split at h <;> simp at h; subst h; exact ⟨_, _, rfl⟩
theorem xBin_s {e a b : Expr} {o : Operator} (h : xBin e = some (a, o, b)) : ∃ p, e = .BinOp a o b p := by
  unfold xBin at h; split at h <;> simp at h; obtain ⟨rfl, rfl, rfl⟩ := h; exact ⟨_, rfl⟩
theorem xUn_s {e a : Expr} {o : UnaryOp} (h : xUn e = some (o, a)) : ∃ p, e = .UnaryOp o a p := by
  unfold xUn at h; split at h <;> simp at h; obtain ⟨rfl, rfl⟩ := h; exact ⟨_, rfl⟩
theorem xCmp_s {e a b : Expr} {o : CmpOp} (h : xCmp e = some (a, o, b)) : ∃ p, e = .Compare a [o] [b] p := by
  unfold xCmp at h; split at h <;> simp at h; obtain ⟨rfl, rfl, rfl⟩ := h; exact ⟨_, rfl⟩
theorem xChain_s {e a b c : Expr} {o o' : CmpOp} (h : xChain e = some (a, o, o', b, c)) : ∃ p, e = .Compare a [o, o'] [b, c] p := by
  unfold xChain at h; split at h <;> simp at h; obtain ⟨rfl, rfl, rfl, rfl, rfl⟩ := h; exact ⟨_, rfl⟩
theorem xBool_s {e : Expr} {xs : List Expr} {o : BoolOp} (h : xBool e = some (o, xs)) : ∃ p, e = .BoolOp o xs p := by
  unfold xBool at h; split at h <;> simp at h; obtain ⟨rfl, rfl⟩ := h; exact ⟨_, rfl⟩
theorem xTup_s {e : Expr} {xs : List Expr} (h : xTup e = some xs) : ∃ k p, e = .Tuple xs k p := by
  unfold xTup at h; split at h <;> simp at h; subst h; exact ⟨_, _, rfl⟩
theorem xLst_s {e : Expr} {xs : List Expr} (h : xLst e = some xs) : ∃ p, e = .List xs p := by
  unfold xLst at h; split at h <;> simp at h; subst h; exact ⟨_, rfl⟩
theorem xSub_s {e a b : Expr} (h : xSub e = some (a, b)) : ∃ p, e = .Subscript a b p := by
  unfold xSub at h; split at h <;> simp at h; obtain ⟨rfl, rfl⟩ := h; exact ⟨_, rfl⟩
theorem xSlice_s {e : Expr} {l u : Option Expr} (h : xSlice e = some (l, u)) : ∃ p, e = .Slice l u none p := by
  unfold xSlice at h; split at h <;> simp at h; obtain ⟨rfl, rfl⟩ := h; exact ⟨_, rfl⟩
theorem xCall_s {e : Expr} {x : Str} {as : List Expr} (h : xCall e = some (x, as)) : ∃ p q, e = .Call (.Name x p) as [] q := by
  unfold xCall at h; split at h <;> simp at h; obtain ⟨rfl, rfl⟩ := h; exact ⟨_, _, rfl⟩
theorem xCallK_s {e d : Expr} {x n : Str} {as : List Expr} (h : xCallK e = some (x, as, n, d)) : ∃ p q r, e = .Call (.Name x p) as [⟨some n, d, r⟩] q := by
  unfold xCallK at h; split at h <;> simp at h; obtain ⟨rfl, rfl, rfl, rfl⟩ := h; exact ⟨_, _, _, rfl⟩
theorem xLc_s {e elt t i : Expr} {ifs : List Expr} {sc : Scope} (h : xLc e = some (elt, t, i, ifs, sc)) : ∃ p, e = .ListComp elt [⟨t, i, ifs, 0⟩] sc p := by
  unfold xLc at h; split at h <;> simp at h; obtain ⟨rfl, rfl, rfl, rfl, rfl⟩ := h; exact ⟨_, rfl⟩
/-- no star, no set display -/
def xMeth : Expr → Option (Expr × Str × List Expr × Bool)
  | .Call (.Attribute o m ap) as [] cp => some (o, m, as, ap.endLine == cp.line)
  | _ => none
theorem xMeth_s {e o : Expr} {m : Str} {as : List Expr} {b : Bool} (h : xMeth e = some (o, m, as, b)) : ∃ ap cp, e = .Call (.Attribute o m ap) as [] cp ∧ b = (ap.endLine == cp.line) := by
  unfold xMeth at h; split at h <;> simp at h; obtain ⟨rfl, rfl, rfl, rfl⟩ := h; exact ⟨_, _, rfl, rfl⟩
def xFmt : Expr → Option Expr
  | .FormattedValue e (-1) none _ => some e
  | _ => none
theorem xFmt_s {e a : Expr} (h : xFmt e = some a) : ∃ p, e = .FormattedValue a (-1) none p := by
  unfold xFmt at h; split at h <;> simp at h; subst h; exact ⟨_, rfl⟩
def xJoin : Expr → Option (List Expr)
  | .JoinedStr es _ => some es
  | _ => none
theorem xJoin_s {e : Expr} {es : List Expr} (h : xJoin e = some es) : ∃ p, e = .JoinedStr es p := by
  unfold xJoin at h; split at h <;> simp at h; subst h; exact ⟨_, rfl⟩
def xAttr : Expr → Option (Expr × Str)
  | .Attribute o f _ => some (o, f)
  | _ => none
theorem xAttr_s {e o : Expr} {f : Str} (h : xAttr e = some (o, f)) : ∃ p, e = .Attribute o f p := by
  unfold xAttr at h; split at h <;> simp at h; obtain ⟨rfl, rfl⟩ := h; exact ⟨_, rfl⟩
def xStep : Expr → Option (Expr × Expr)
  | .Subscript a (.Slice none none (some k) _) _ => some (a, k)
  | _ => none
theorem xStep_s {e a k : Expr} (h : xStep e = some (a, k)) : ∃ p q, e = .Subscript a (.Slice none none (some k) p) q := by
  unfold xStep at h; split at h <;> simp at h; obtain ⟨rfl, rfl⟩ := h; exact ⟨_, _, rfl⟩
def plain : Expr → Bool
  | .Starred _ _ => false
  | .Set _ _ _ => false
  | .Slice _ _ _ _ => false
  | _ => true
def visOk (sc : Scope) (x : Str) : Bool := (match sc.names.lookup x with
  | some .local => true | some .cell => true | some .free => true | _ => false) && !(x == ("__debug__" : Str)) && !(x == ("__classdict__" : Str))
def glOk (sc : Scope) (x : Str) : Bool := decide (sc.names.lookup x = some .globalImplicit) && !(x == ("__debug__" : Str)) && decide (x ≠ ("__name__" : Str))
/-- a target's name, stored -/
def locOk (sc raw : Scope) (x : Str) : Bool := match raw.names.lookup x with
  | some .local => decide (sc.names.lookup x = some .local)
  | some .cell => decide (sc.names.lookup x = some .cell)
  | _ => false
def chkNames (N : List Str) (sc raw : Scope) : List Nat → List Expr → Bool
  | [], [] => true
  | i :: is, e :: es => (match xName e with
    | some x => decide (N[i]? = some x) && locOk sc raw x
    | none => false) && chkNames N sc raw is es
  | _, _ => false
def chkTgt (N : List Str) (sc raw : Scope) : Tgt → Expr → Bool
  | .nm i, e => match xName e with
    | some x => decide (N[i]? = some x) && locOk sc raw x
    | none => false
  | .tp is, e => match xTup e with
    | some es => chkNames N sc raw is es
    | none => false
def ownOf (N : List Str) (t : Tgt) : List (Str × Nat) := t.ixs.filterMap fun i => (N[i]?).map fun x => (x, i)
def Bi.isTy : Bi → Bool
  | .list => true | .tuple => true | .int => true | .str => true | _ => false
def tgtOk : It → Tgt → Bool
  | .zip _ _, .nm _ => false
  | _, _ => true
def chkOwn (xn : List Str) (sc : Scope) : List Str → List Expr → Bool
  | [], es => es.isEmpty
  | c :: cs, es => match es with
    | e :: es => (match xName e with
      | some n => decide (n = c) && glOk sc n && (exFld c).isSome && xn.contains c
      | none => false) && chkOwn xn sc cs es
    | [] => false
def chkFix : E → Option Const → Bool
  | .cst (.str x), some (.str y) => decide (x = y)
  | _, _ => false
theorem chkFix_s {a : E} {c : Option Const} (h : chkFix a c = true) : ∃ x, a = .cst (.str x) ∧ c = some (.str x) := by
  unfold chkFix at h
  split at h
  · have h := of_decide_eq_true h
    subst h
    exact ⟨_, rfl, rfl⟩
  · cases h
mutual
def chk (C : Cfg) (sc : Scope) : E → Expr → Bool
  | .var i, e => match xName e with
    | some x => decide (C.N[i]? = some x) && visOk sc x
    | none => false
  | .cst c, e => match xConst e with
    | some k => c.is k
    | none => false
  | .glo x c, e => match xName e with
    | some y => decide (x = y) && glOk sc x && C.gl.contains (x, c) && c.noT
    | none => false
  | .bin o a b, e => match xBin e with
    | some (x, p, y) => decide (p = o.op) && chk C sc a x && chk C sc b y
    | none => false
  | .neg a, e => match xUn e with
    | some (o, x) => decide (o = .USub) && chk C sc a x
    | none => false
  | .cmp o a b, e => match xCmp e with
    | some (x, p, y) => decide (p = o.op) && plain y && chk C sc a x && chk C sc b y
    | none => false
  | .isn no a, e => match xCmp e with
    | some (x, p, y) => decide (p = if no then .IsNot else .Is) && (match xConst y with | some .none => true | _ => false) && chk C sc a x
    | none => false
  | .isb no a b, e => match xCmp e with
    | some (x, p, y) => decide (p = if no then .IsNot else .Is) && (match xConst y with | some (.bool c) => b == c | _ => false) && chk C sc a x
    | none => false
  | .chain o1 o2 a b c, e => match xChain e with
    | some (x, p, q, y, z) => decide (p = o1.op) && decide (q = o2.op) && plain y && plain z && chk C sc a x && chk C sc b y && chk C sc c z
    | none => false
  | .and es, e => match xBool e with
    | some (o, xs) => decide (o = .And) && decide (es.len ≠ 0) && chks C sc es xs
    | none => false
  | .or es, e => match xBool e with
    | some (o, xs) => decide (o = .Or) && decide (es.len ≠ 0) && chks C sc es xs
    | none => false
  | .not a, e => match xUn e with
    | some (o, x) => decide (o = .Not) && chk C sc a x
    | none => false
  | .tup es, e => match xTup e with
    | some xs => decide (es.len ≤ 1000) && chks C sc es xs
    | none => false
  | .lst es, e => match xLst e with
    | some xs => decide (es.len ≤ 1000) && chks C sc es xs
    | none => false
  | .ix a b, e => match xSub e with
    | some (x, y) => plain y && chk C sc a x && chk C sc b y
    | none => false
  | .sl a lo hi, e => match xSub e with
    | some (x, y) => match xSlice y with
      | some (l, h) => chk C sc a x && chkPart C sc lo l && chkPart C sc hi h
      | none => false
    | none => false
  | .call k es, e => match xCall e with
    | some (x, xs) => decide (C.cn[k]? = some (x, es.len)) && decide (C.km[k]? = some ([], [])) && decide (es.len ≠ 0) && glOk sc x && chks C sc es xs
    | none => false
  | .bi b es, e => match xCall e with
    | some (x, xs) => decide (x = b.name) && C.bl.contains x && decide (es.len ≠ 0) && glOk sc x && chks C sc es xs
    | none => false
  | .isi a t, e => match xCall e with
    | some (x, xs) => decide (x = ("isinstance" : Str)) && C.bl.contains x && glOk sc x && (match xs with
      | [y, z] => (match xName z with
        | some n => decide (n = Str.ofString t.name) && C.bl.contains n && glOk sc n
        | none => false) && plain y && chk C sc a y
      | _ => false)
    | none => false
  | .minD a, e => match xCallK e with
    | some (x, xs, n, d) => decide (x = ("min" : Str)) && C.bl.contains x && glOk sc x && decide (n = ("default" : Str)) && (match xConst d with | some .none => true | _ => false) && (match xs with
      | [y] => plain y && chk C sc a y
      | _ => false)
    | none => false
  | .slk a k, e => match xStep e with
    | some (x, y) => chk C sc a x && chk C sc k y
    | none => false
  | .idx a b, e => match xMeth e with
    | some (o, n, xs, l) => decide (n = ("index" : Str)) && l && (xName o).isSome && chk C sc a o && (match xs with
      | [y] => plain y && chk C sc b y
      | _ => false)
    | none => false
  | .tix a b, e => match xMeth e with
    | some (o, n, xs, l) => decide (n = ("index" : Str)) && l && (xName o).isSome && chk C sc a o && (match xs with
      | [y] => plain y && chk C sc b y
      | _ => false)
    | none => false
  | .srt a, e => match xCall e with
    | some (x, xs) => decide (x = ("sorted" : Str)) && C.bl.contains x && glOk sc x && (match xs with
      | [y] => plain y && chk C sc a y
      | _ => false)
    | none => false
  | .ftup a, e => match xCall e with
    | some (x, xs) => decide (x = ("tuple" : Str)) && C.bl.contains x && glOk sc x && (match xs with
      | [y] => plain y && chk C sc a y
      | _ => false)
    | none => false
  | .lrange1 a, e => match xCall e with
    | some (x, xs) => decide (x = ("list" : Str)) && C.bl.contains x && glOk sc x && (match xs with
      | [y] => (match xCall y with
        | some (r, ys) => decide (r = ("range" : Str)) && C.bl.contains r && glOk sc r && (match ys with
          | [z] => plain z && chk C sc a z
          | _ => false)
        | none => false)
      | _ => false)
    | none => false
  | .sset a, e => match xCall e with
    | some (x, xs) => decide (x = ("sorted" : Str)) && C.bl.contains x && glOk sc x && (match xs with
      | [y] => (match xCall y with
        | some (r, ys) => decide (r = ("set" : Str)) && C.bl.contains r && glOk sc r && (match ys with
          | [z] => plain z && chk C sc a z
          | _ => false)
        | none => false)
      | _ => false)
    | none => false
  | .dic0, e => xDic e
  | .lset a, e => match xCall e with
    | some (x, xs) => decide (x = ("len" : Str)) && C.bl.contains x && glOk sc x && (match xs with
      | [y] => (match xCall y with
        | some (r, ys) => decide (r = ("set" : Str)) && C.bl.contains r && glOk sc r && (match ys with
          | [z] => plain z && chk C sc a z
          | _ => false)
        | none => false)
      | _ => false)
    | none => false
  | .lrange2 a b, e => match xCall e with
    | some (x, xs) => decide (x = ("list" : Str)) && C.bl.contains x && glOk sc x && (match xs with
      | [y] => (match xCall y with
        | some (r, ys) => decide (r = ("range" : Str)) && C.bl.contains r && glOk sc r && (match ys with
          | [z, u] => plain z && plain u && chk C sc a z && chk C sc b u
          | _ => false)
        | none => false)
      | _ => false)
    | none => false
  | .isx a c, e => match xCall e with
    | some (x, xs) => decide (x = ("isinstance" : Str)) && C.bl.contains x && glOk sc x && C.ex && exName c && (match xs with
      | [y, z] => (match xName z with
        | some n => decide (n = c) && glOk sc n && (!(decide (n = "ValueError")) || C.bl.contains n) && (decide (n = "ValueError") || decide (n = "PurseError") || C.exn.contains n)
        | none => false) && plain y && chk C sc a y
      | _ => false)
    | none => false
  | .isxs a cs, e => match xCall e with
    | some (x, xs) => decide (x = ("isinstance" : Str)) && C.bl.contains x && glOk sc x && C.ex && decide (cs.length ≤ 100) && (match xs with
      | [y, z] => (match xTup z with
        | some ns => chkOwn C.exn sc cs ns
        | none => false) && plain y && chk C sc a y
      | _ => false)
    | none => false
  | .fld a f, e => match xAttr e with
    | some (o, g) => decide (g = f) && (xName o).isSome && chk C sc a o
    | none => false
  | .fat a f, e => match xAttr e with
    | some (o, g) => decide (g = f) && fldNs.contains f && (xName o).isSome && chk C sc a o
    | none => false
  | .meth m k cs a es, e => match xMeth e with
    | some (o, n, xs, l) => decide (n = m) && l && decide (m ≠ "__init__") && decide (C.cn[k]? = some (m, es.len + 1)) && decide (C.km[k]? = some (cs, [])) && decide (es.len < 20) && (xName o).isSome && chk C sc a o && chks C sc es xs
    | none => false
  | .mxk mx m k cs a b, e => match xCallK e with
    | some (x, xs, n, d) => decide (x = if mx then ("max" : Str) else ("min" : Str)) && C.mx && C.bl.contains x && glOk sc x && decide (n = ("key" : Str)) && decide (m ≠ "__init__") && decide (C.cn[k]? = some (m, 2)) && decide (C.km[k]? = some (cs, [])) && (match xAttr d with
      | some (o, g) => decide (g = m) && (xName o).isSome && chk C sc b o
      | none => false) && (match xs with
      | [y] => plain y && chk C sc a y
      | _ => false)
    | none => false
  | .sm m a b, e => match xMeth e with
    | some (o, n, xs, l) => decide (n = m.name) && l && baseOk o && chk C sc a o && (match xs with
      | [y] => plain y && chk C sc b y
      | _ => false)
    | none => false
  | .fs es, e => match xJoin e with
    | some xs => decide (2 ≤ xs.length) && chkFs C sc es xs
    | none => false
  | .dix a b, e => match xSub e with
    | some (x, y) => plain y && chk C sc a x && chk C sc b y
    | none => false
  | .ddl t, e => match xDisp e with
    | some (ks, vs) => chkD t ks vs && decide (t.length ≤ 15) && decide (t ≠ [])
    | none => false
  | .dgt a b c, e => match xMeth e with
    | some (o, m, xs, l) => decide (m = ("get" : Str)) && l && baseOk o && chk C sc a o && (match xs with
      | [y, z] => plain y && plain z && chk C sc b y && chk C sc c z
      | _ => false)
    | none => false
  | .din no a b, e => match xCmp e with
    | some (x, p, y) => decide (p = if no then .NotIn else .In) && plain y && chk C sc a x && chk C sc b y
    | none => false
  | .kix n t a, e => match xSub e with
    | some (x, y) => (match xName x with
      | some z => decide (n = z) && glOk sc z && C.gl.contains (z, .tab t)
      | none => false) && plain y && chk C sc a y
    | none => false
  | .kget n t a, e => match xMeth e with
    | some (o, m, xs, l) => decide (m = ("get" : Str)) && l && (match xName o with
      | some z => decide (n = z) && glOk sc z && C.gl.contains (z, .tab t)
      | none => false) && (match xs with
      | [y] => plain y && chk C sc a y
      | _ => false)
    | none => false
  | .lc t it ifs el, e => match xLc e with
    | some (x, tg, i, fs, raw) => blkC C.N sc raw (ownOf C.N t) && chkIt C sc it i && tgtOk it t && chkTgt C.N (relS raw sc) raw t tg && chkTests C (relS raw sc) ifs fs && chk C (relS raw sc) el x && decide ((ownOf C.N t).map (·.2) = t.ixs) && decide (t.ixs.Nodup)
    | none => false
def chkFs (C : Cfg) (sc : Scope) : Es → List Expr → Bool
  | .nil, es => es.isEmpty
  | .cons a as, es => match es with
    | e :: es => (match xFmt e with
      | some x => chk C sc a x
      | none => chkFix a (xConst e)) && chkFs C sc as es
    | [] => false
def chks (C : Cfg) (sc : Scope) : Es → List Expr → Bool
  | .nil, es => es.isEmpty
  | .cons a as, es => match es with
    | e :: es => plain e && chk C sc a e && chks C sc as es
    | [] => false
def chkPart (C : Cfg) (sc : Scope) : Es → Option Expr → Bool
  | .nil, o => o.isNone
  | .cons a as, o => match as, o with
    | .nil, some e => chk C sc a e
    | _, _ => false
def chkTests (C : Cfg) (sc : Scope) : Es → List Expr → Bool
  | .nil, es => es.isEmpty
  | .cons a as, es => match as, es with
    | .nil, [e] => chk C sc a e
    | _, _ => false
def chkIt (C : Cfg) (sc : Scope) : It → Expr → Bool
  | .val a, e => plain e && chk C sc a e
  | .range es, e => match xCall e with
    | some (x, xs) => decide (x = ("range" : Str)) && C.bl.contains x && glOk sc x && decide (es.len = 1 ∨ es.len = 2) && chks C sc es xs
    | none => false
  | .range3 es, e => match xCall e with
    | some (x, xs) => decide (x = ("range" : Str)) && C.bl.contains x && glOk sc x && decide (es.len = 3) && chks C sc es xs
    | none => false
  | .zip a b, e => match xCall e with
    | some (x, xs) => decide (x = ("zip" : Str)) && C.bl.contains x && glOk sc x && (match xs with
      | [y, z] => plain y && plain z && chk C sc a y && chk C sc b z
      | _ => false)
    | none => false
end
end Py

namespace Py
open PySem PySem.Spec PyProof.Rows L2

section
variable {X : Cx} {W : WX} {e a b c : Expr} {pos : Pos} {fa fb fc : Env → R D}

theorem se_var {i : Nat} {x : Str} (hN : X.N[i]? = some x) (hv : visOk X.env.scope x = true) : PE X (.Name x pos) (tD X.K X.mg W fun ρ => match ρ[i]? with | some (some d) => .ok d | _ => .stuck) := by
  unfold visOk at hv
  simp only [Bool.and_eq_true, Bool.not_eq_true'] at hv
  obtain ⟨⟨h1, h2⟩, h3⟩ := hv
  refine PE.imp (pe_var hN ?_ h2 h3) fun σ H Q ⟨ρ, Hs, he, hr, hp⟩ => ?_
  · unfold Vis
    split at h1 <;> first | (exact .inl (by assumption)) | (exact .inr (.inl (by assumption))) | (exact .inr (.inr (by assumption))) | cases h1
  · cases q : ρ[i]? with
    | none => simp only [q] at hp; exact hp.elim
    | some o =>
      cases o with
      | none => simp only [q] at hp; exact hp.elim
      | some d =>
        simp only [q] at hp
        obtain ⟨v, e1, r1⟩ := hr.2 i d q
        exact ⟨v, e1, hp.now he r1⟩
theorem cst_rep {K : PySem.W.Frag} {H : Hp} : ∀ c : Cst, Rep K H c.d c.v
  | .non => .non
  | .bl b => .bl b
  | .int i => .int i
  | .str x => .str x
  | .tab _ => .non
theorem se_cst {k : Cst} {x : Const} {j : Nat} (h : k.is x = true) : PE X (.Constant x j pos) (tD X.K X.mg W fun _ => .ok k.d) := by
  have go : PE X (.Constant x j pos) (tC k.v) := by
    cases k <;> cases x <;> first
      | (simp [Cst.is] at h; done)
      | exact pe_non
      | (simp [Cst.is] at h; subst h; exact pe_bl)
      | (simp [Cst.is] at h; subst h; exact pe_int)
      | (simp [Cst.is] at h; subst h; exact pe_str)
  exact PE.imp go fun σ H Q ⟨ρ, Hs, he, hr, hp⟩ => hp.now he (cst_rep k)
theorem gl_of {x : Str} (h : glOk X.env.scope x = true) : Gl X x ∧ (x == ("__debug__" : Str)) = false ∧ x ≠ "__name__" := by
  unfold glOk at h
  simp only [Bool.and_eq_true, decide_eq_true_eq, Bool.not_eq_true'] at h
  exact ⟨h.1.1, h.1.2, h.2⟩
theorem se_glo {x : Str} {k : Cst} {u : Value} (h : glOk X.env.scope x = true) (hm : X.mg x = some u) (r : RelV k.v u) : PE X (.Name x pos) (tD X.K X.mg W fun _ => .ok k.d) := by
  obtain ⟨h1, h2, _⟩ := gl_of h
  exact PE.imp (pe_glob h1 hm r h2) fun σ H Q ⟨ρ, Hs, he, hr, hp⟩ => hp.now he (cst_rep k)
/-- two values, then an operator -/
theorem op_imp {g : D → D → R D} {σ : L2.St} {H : Hp} {Q : VK} (h : tD X.K X.mg W (fun ρ => do
    let x ← fa ρ
    let y ← fb ρ
    g x y) σ H Q) : tOp (rD X.K X.mg g) (tD X.K X.mg W fa) (tD X.K X.mg W fb) σ H Q := by
  obtain ⟨ρ, Hs, he, hr, hp⟩ := h
  exact ⟨ρ, Hs, he, hr, hp.bind fun d _ v Hi H1 l rv hp1 => ⟨ρ, Hi, l.sub, hr.mono l.old, hp1.bind fun d2 _ v2 Hj H2 l2 rv2 hp2 => ⟨Hj, d, d2, _, l2.sub, rv.mono l2.old, rv2, hp2⟩⟩⟩
theorem se_bin {o : Bop} (ha : SE X W a fa) (hb : SE X W b fb) : SE X W (.BinOp a o.op b pos) (fun ρ => do
    let x ← fa ρ
    let y ← fb ρ
    o.f x y) := PE.imp (pe_op (bs_all o) ha hb) fun _ _ _ h => op_imp h
theorem se_neg (ha : SE X W a fa) : SE X W (.UnaryOp .USub a pos) (fun ρ => do
    let x ← fa ρ
    D.negI x) := by
  refine PE.imp (pe_un un_neg ha) fun σ H Q ⟨ρ, Hs, he, hr, hp⟩ => ⟨ρ, Hs, he, hr, hp.bind fun d _ v Hi H1 l rv hp1 => ?_⟩
  cases d with
  | int i => exact ⟨i, rv.intI, hp1.now l.sub (.int _)⟩
  | _ => exact hp1.elim
theorem nomk {o : Cop} (h : plain b = true) : behindInMarks o.op b = false := by
  cases b <;> first | rfl | cases h
theorem se_cmp {o : Cop} (hu : X.A.units + 65 < cLine) (hpl : plain b = true) (ha : SE X W a fa) (hb : SE X W b fb) : SE X W (.Compare a [o.op] [b] pos) (fun ρ => do
    let x ← fa ρ
    let y ← fb ρ
    o.f x y) := PE.imp (pe_cmpR (cs_all hu o) ha hb (nomk hpl)) fun _ _ _ h => op_imp h
theorem eq_bl {a b : D} {d : D} (h : D.eq a b = .ok d) : ∃ k, d = .bl k := by
  unfold D.eq at h
  split at h
  · cases h; exact ⟨_, rfl⟩
  · cases h; exact ⟨_, rfl⟩
  · cases h; exact ⟨_, rfl⟩
  · exact ⟨_, (R.ok.inj h).symm⟩
  · split at h <;> cases h
    exact ⟨_, rfl⟩
theorem neg_bl {r : R D} {d : D} (h : D.neg r = .ok d) : ∃ k, d = .bl k := by
  unfold D.neg at h
  split at h <;> cases h
  exact ⟨_, rfl⟩
theorem cop_bl {o : Cop} {x y d : D} (h : o.f x y = .ok d) : ∃ k, d = .bl k := by
  cases o with
  | eq => exact eq_bl h
  | ne => exact neg_bl h
  | notin => exact neg_bl h
  | lt =>
    have h : D.lt x y = .ok d := h
    unfold D.lt at h
    split at h
    · cases h; exact ⟨_, rfl⟩
    · split at h
      · cases h; exact ⟨_, rfl⟩
      · unfold ltRows at h
        split at h <;> cases h
        exact ⟨_, rfl⟩
  | le =>
    have h : D.cmpI _ x y = .ok d := h
    unfold D.cmpI at h
    split at h <;> cases h
    exact ⟨_, rfl⟩
  | gt =>
    have h : D.cmpI _ x y = .ok d := h
    unfold D.cmpI at h
    split at h <;> cases h
    exact ⟨_, rfl⟩
  | ge =>
    have h : D.cmpI _ x y = .ok d := h
    unfold D.cmpI at h
    split at h <;> cases h
    exact ⟨_, rfl⟩
  | isin =>
    have h : D.isin x y = .ok d := h
    unfold D.isin at h
    split at h
    · split at h
      · cases h
        exact ⟨_, rfl⟩
      · split at h <;> cases h
        exact ⟨_, rfl⟩
    · split at h <;> cases h
      exact ⟨_, rfl⟩
    · split at h <;> cases h
      exact ⟨_, rfl⟩
    · cases h
theorem sb_cmp {o : Cop} (hu : X.A.units + 65 < cLine) (hpl : plain b = true) (ha : SE X W a fa) (hb : SE X W b fb) : SB X W (.Compare a [o.op] [b] pos) (fun ρ => (do
    let x ← fa ρ
    let y ← fb ρ
    o.f x y) >>= D.truth) := by
  refine PT.imp (pt_cmpR (cs_all hu o) ha hb (nomk hpl)) fun σ H Q h => ?_
  obtain ⟨ρ, Hs, he, hr, hp⟩ := h
  simp only [R.bind_assoc] at hp
  refine ⟨ρ, Hs, he, hr, hp.bind fun d _ v Hi H1 l rv hp1 => ⟨ρ, Hi, l.sub, hr.mono l.old, hp1.bind fun d2 _ v2 Hj H2 l2 rv2 hp2 => ⟨Hj, d, d2, _, l2.sub, rv.mono l2.old, rv2, hp2.bind fun d3 e3 v3 Hk H3 l3 rv3 hp3 => ?_⟩⟩⟩
  obtain ⟨k, rfl⟩ := cop_bl e3
  exact ⟨k, rv3.blI, Pst.now (d := k) hp3 l3.sub rfl⟩
/-- truth -/
theorem tru_of {K : PySem.W.Frag} {Hs H : Hp} {d : D} {v : V} {k : Bool} (r : Rep K Hs d v) (he : Ex Hs H) (h : D.truth d = .ok k) : TruV K v H k := by
  cases d with
  | non => cases h; rw [r.nonI]; exact rfl
  | bl b => cases h; rw [r.blI]; exact rfl
  | int i => cases h; rw [r.intI]; exact rfl
  | str x =>
    have h : (if x.length ≤ 16777216 then .ok ((x.length : Int) != 0) else .stuck) = R.ok k := h
    split at h <;> cases h
    rw [r.strI]
    exact ⟨by rw [size_eq]; assumption, rfl⟩
  | lst xs =>
    cases h
    obtain ⟨p, vs, rfl, e1, r1⟩ := r.lstI
    exact .inl ⟨vs, SqL.of (he _ _ e1), by cases r1 <;> rfl⟩
  | tup xs =>
    cases h
    obtain ⟨p, vs, rfl, e1, r1⟩ := r.tupI
    exact .inr (.inl ⟨vs, SqT.of (he _ _ e1), by cases r1 <;> rfl⟩)
  | scr ns =>
    cases h
    obtain ⟨p, rfl, q⟩ := (r.mono he).scrI
    exact .inl ⟨_, q, by cases ns <;> rfl⟩
  | exv c ys => cases h
  | dic => cases h
  | ftp ns => cases h
  | obj _ _ _ => cases h
  | dct _ _ => cases h
  | dkt _ => cases h
theorem truth_cases (d : D) : (∃ k, D.truth d = .ok k) ∨ D.truth d = .stuck := by
  cases d with
  | str x =>
    show (∃ k, (if x.length ≤ 16777216 then .ok ((x.length : Int) != 0) else .stuck) = R.ok k) ∨ (if x.length ≤ 16777216 then .ok ((x.length : Int) != 0) else .stuck) = R.stuck
    split
    · exact .inl ⟨_, rfl⟩
    · exact .inr rfl
  | exv c ys => exact .inr rfl
  | dic => exact .inr rfl
  | ftp ns => exact .inr rfl
  | obj _ _ _ => exact .inr rfl
  | dct _ _ => exact .inr rfl
  | dkt _ => exact .inr rfl
  | _ => exact .inl ⟨_, rfl⟩
theorem se_not (ha : SE X W a fa) : SE X W (.UnaryOp .Not a pos) (fun ρ => do
    let x ← fa ρ
    let k ← D.truth x
    .ok (.bl (!k))) := by
  refine PE.imp (pe_notT ha) fun σ H Q ⟨ρ, Hs, he, hr, hp⟩ => ⟨ρ, Hs, he, hr, hp.bind fun d _ v Hi H1 l rv hp1 => ?_⟩
  rcases truth_cases d with ⟨k, e⟩ | e
  · rw [e] at hp1
    exact ⟨k, tru_of rv l.sub e, Pst.now (d := D.bl _) hp1 l.sub (.bl _)⟩
  · rw [e] at hp1
    exact hp1.elim
/-- a test by its value's truth -/
theorem sb_of (ha : SE X W a fa) (he : ∀ whole, isTrue a X.env whole = (do let v ← whole; standAt a.pos; holding [v] (truthy v))) : SB X W a (fun ρ => fa ρ >>= D.truth) := by
  refine PT.imp (pt_truth ha he) fun σ H Q ⟨ρ, Hs, he, hr, hp⟩ => ⟨ρ, Hs, he, hr, hp.bind fun d _ v Hi H1 l rv hp1 => ?_⟩
  rcases truth_cases d with ⟨k, e⟩ | e
  · rw [e] at hp1
    exact ⟨k, tru_of rv l.sub e, Pst.now (d := k) hp1 l.sub rfl⟩
  · rw [e] at hp1
    exact hp1.elim
theorem sb_not (ha : SB X W a (fun ρ => fa ρ >>= D.truth)) : SB X W (.UnaryOp .Not a pos) (fun ρ => (do
    let x ← fa ρ
    let k ← D.truth x
    .ok (.bl (!k))) >>= D.truth) := by
  have e : ∀ r : R D, ((do
    let x ← r
    let k ← D.truth x
    R.ok (D.bl (!k))) >>= D.truth) = ((r >>= D.truth) >>= fun k => R.ok (!k)) := fun r => by
    cases r with
    | ok x =>
      simp only [R.bind_ok]
      rcases truth_cases x with ⟨k, q⟩ | q <;> rw [q] <;> rfl
    | exc _ => rfl
    | stuck => rfl
  refine PT.imp (pt_not ha) fun σ H Q ⟨ρ, Hs, he, hr, hp⟩ => ⟨ρ, Hs, he, hr, ?_⟩
  simp only [e] at hp
  exact Pst.bind (Rel2 := RB) hp fun k _ c Hi H1 l rc hp1 => by
    cases rc
    exact Pst.now (d := !k) hp1 l.sub rfl
theorem se_isn {no : Bool} {j : Nat} {p2 : Pos} (ha : SE X W a fa) : SE X W (.Compare a [if no then .IsNot else .Is] [.Constant .none j p2] pos) (fun ρ => do
    let x ← fa ρ
    .ok (.bl (if no then !x.isNon else x.isNon))) := by
  have nn : ∀ {d : D} {v : V} {Hi : Hp}, Rep X.K Hi d v → decide (v = V.non) = d.isNon := fun {d v Hi} r => by
    cases r <;> simp [D.isNon]
  cases no with
  | true =>
    refine PE.imp (pe_cmp (pc_notN ha)) fun σ H Q ⟨ρ, Hs, he, hr, hp⟩ => ⟨ρ, Hs, he, hr, hp.bind fun d _ v Hi H1 l rv hp1 => ?_⟩
    rw [nn rv]
    exact Pst.now (d := D.bl _) hp1 l.sub (.bl _)
  | false =>
    refine PE.imp (pe_cmp (pc_isN ha)) fun σ H Q ⟨ρ, Hs, he, hr, hp⟩ => ⟨ρ, Hs, he, hr, hp.bind fun d _ v Hi H1 l rv hp1 => ?_⟩
    rw [nn rv]
    exact Pst.now (d := D.bl _) hp1 l.sub (.bl _)
theorem sb_isn {no : Bool} {j : Nat} {p2 : Pos} (ha : SE X W a fa) : SB X W (.Compare a [if no then .IsNot else .Is] [.Constant .none j p2] pos) (fun ρ => (do
    let x ← fa ρ
    .ok (.bl (if no then !x.isNon else x.isNon))) >>= D.truth) := by
  have nn : ∀ {d : D} {v : V} {Hi : Hp}, Rep X.K Hi d v → decide (v = V.non) = d.isNon := fun {d v Hi} r => by
    cases r <;> simp [D.isNon]
  cases no with
  | true =>
    refine PT.imp (pt_cmp (pc_notN ha)) fun σ H Q ⟨ρ, Hs, he, hr, hp⟩ => ?_
    simp only [R.bind_assoc] at hp
    refine ⟨ρ, Hs, he, hr, hp.bind fun d _ v Hi H1 l rv hp1 => ?_⟩
    rw [nn rv]
    exact ⟨_, rfl, Pst.now (d := !d.isNon) hp1 l.sub rfl⟩
  | false =>
    refine PT.imp (pt_cmp (pc_isN ha)) fun σ H Q ⟨ρ, Hs, he, hr, hp⟩ => ?_
    simp only [R.bind_assoc] at hp
    refine ⟨ρ, Hs, he, hr, hp.bind fun d _ v Hi H1 l rv hp1 => ?_⟩
    rw [nn rv]
    exact ⟨_, rfl, Pst.now (d := d.isNon) hp1 l.sub rfl⟩
theorem se_isb {no b : Bool} {j : Nat} {p2 : Pos} (ha : SE X W a fa) : SE X W (.Compare a [if no then .IsNot else .Is] [.Constant (.bool b) j p2] pos) (fun ρ => do
    let x ← fa ρ
    D.isb no b x) := by
  cases no with
  | true =>
    refine PE.imp (pe_cmpR op_isnot_bl ha pe_bl rfl) fun σ H Q ⟨ρ, Hs, he, hr, hp⟩ => ⟨ρ, Hs, he, hr, hp.bind fun d _ v Hi H1 l rv hp1 => ?_⟩
    cases d with
    | bl k => exact ⟨k, b, rv.blI, rfl, Pst.now (d := D.bl _) hp1 l.sub (.bl _)⟩
    | _ => exact hp1.elim
  | false =>
    refine PE.imp (pe_cmpR op_is_bl ha pe_bl rfl) fun σ H Q ⟨ρ, Hs, he, hr, hp⟩ => ⟨ρ, Hs, he, hr, hp.bind fun d _ v Hi H1 l rv hp1 => ?_⟩
    cases d with
    | bl k => exact ⟨k, b, rv.blI, rfl, Pst.now (d := D.bl _) hp1 l.sub (.bl _)⟩
    | _ => exact hp1.elim
theorem sb_isb {no b : Bool} {j : Nat} {p2 : Pos} (ha : SE X W a fa) : SB X W (.Compare a [if no then .IsNot else .Is] [.Constant (.bool b) j p2] pos) (fun ρ => (do
    let x ← fa ρ
    D.isb no b x) >>= D.truth) := by
  cases no with
  | true =>
    refine PT.imp (pt_cmpR op_isnot_bl ha pe_bl rfl) fun σ H Q ⟨ρ, Hs, he, hr, hp⟩ => ?_
    simp only [R.bind_assoc] at hp
    refine ⟨ρ, Hs, he, hr, hp.bind fun d _ v Hi H1 l rv hp1 => ?_⟩
    cases d with
    | bl k => exact ⟨k, b, rv.blI, rfl, _, rfl, Pst.now (d := !decide (k = b)) hp1 l.sub rfl⟩
    | _ => exact hp1.elim
  | false =>
    refine PT.imp (pt_cmpR op_is_bl ha pe_bl rfl) fun σ H Q ⟨ρ, Hs, he, hr, hp⟩ => ?_
    simp only [R.bind_assoc] at hp
    refine ⟨ρ, Hs, he, hr, hp.bind fun d _ v Hi H1 l rv hp1 => ?_⟩
    cases d with
    | bl k => exact ⟨k, b, rv.blI, rfl, _, rfl, Pst.now (d := decide (k = b)) hp1 l.sub rfl⟩
    | _ => exact hp1.elim
theorem lmk {o1 o2 : Cop} (h : plain c = true) : lastMarks [o1.op, o2.op] [b, c] = false := by
  show behindInMarks o2.op c = false
  exact nomk h
theorem chain_imp {o1 o2 : Cop} {σ : L2.St} {H : Hp} {Q : VK} (h : tD X.K X.mg W (fun ρ => do
    let x ← fa ρ
    let y ← fb ρ
    let r ← o1.f x y
    let k ← D.asB r
    if k then do
      let z ← fc ρ
      o2.f y z
    else .ok (.bl false)) σ H Q) : tChain (rD X.K X.mg o1.f) (rD X.K X.mg o2.f) (tD X.K X.mg W fa) (tD X.K X.mg W fb) (tD X.K X.mg W fc) σ H Q := by
  obtain ⟨ρ, Hs, he, hr, hp⟩ := h
  refine ⟨ρ, Hs, he, hr, hp.bind fun d _ v Hi H1 l rv hp1 => ⟨ρ, Hi, l.sub, hr.mono l.old, hp1.bind fun d2 _ v2 Hj H2 l2 rv2 hp2 => ⟨Hj, d, d2, _, l2.sub, rv.mono l2.old, rv2, hp2.bind fun d3 e3 v3 Hk H3 l3 rv3 hp3 => ?_⟩⟩⟩
  obtain ⟨k, rfl⟩ := cop_bl e3
  refine ⟨k, rv3.blI, ?_⟩
  cases k with
  | true =>
    refine iteT ⟨ρ, Hk, l3.sub, ((hr.mono l.old).mono l2.old).mono l3.old, ?_⟩
    have hp3 : PstD X.K X.mg Hk H3 (fc ρ >>= fun z => o2.f d2 z) Q _ := hp3
    exact hp3.bind fun d4 _ v4 Hm H4 l4 rv4 hp4 => ⟨Hm, d2, d4, _, l4.sub, (rv2.mono l3.old).mono l4.old, rv4, hp4⟩
  | false => exact iteF (Pst.now (d := D.bl false) hp3 l3.sub (.bl _))
theorem se_chain {o1 o2 : Cop} (hu : X.A.units + 65 < cLine) (hc : plain c = true) (ha : SE X W a fa) (hb : SE X W b fb) (hcc : SE X W c fc) : SE X W (.Compare a [o1.op, o2.op] [b, c] pos) (fun ρ => do
    let x ← fa ρ
    let y ← fb ρ
    let r ← o1.f x y
    let k ← D.asB r
    if k then do
      let z ← fc ρ
      o2.f y z
    else .ok (.bl false)) := PE.imp (pe_chain (cs_all hu o1) (cs_all hu o2) ha hb hcc (lmk hc)) fun _ _ _ h => chain_imp h
theorem sb_chain {o1 o2 : Cop} (hu : X.A.units + 65 < cLine) (hc : plain c = true) (ha : SE X W a fa) (hb : SE X W b fb) (hcc : SE X W c fc) : SB X W (.Compare a [o1.op, o2.op] [b, c] pos) (fun ρ => (do
    let x ← fa ρ
    let y ← fb ρ
    let r ← o1.f x y
    let k ← D.asB r
    if k then do
      let z ← fc ρ
      o2.f y z
    else .ok (.bl false)) >>= D.truth) := by
  refine PT.imp (pt_chain (cs_all hu o1) (cs_all hu o2) ha hb hcc (lmk hc)) fun σ H Q h => ?_
  obtain ⟨ρ, Hs, he, hr, hp⟩ := h
  refine chain_imp ⟨ρ, Hs, he, hr, hp.bind fun d e v Hi H1 l rv hp1 => ?_⟩
  have hb : ∃ k, d = .bl k := by
    clear hp hp1
    cases q1 : fa ρ with
    | ok x =>
      rw [q1] at e
      cases q2 : fb ρ with
      | ok y =>
        rw [q2] at e
        cases q3 : o1.f x y with
        | ok r =>
          obtain ⟨k, rfl⟩ := cop_bl q3
          simp only [R.bind_ok, q3, D.asB] at e
          cases k with
          | true =>
            simp only [if_pos] at e
            cases q4 : fc ρ with
            | ok z => rw [q4] at e; exact cop_bl e
            | exc _ => rw [q4] at e; cases e
            | stuck => rw [q4] at e; cases e
          | false => cases e; exact ⟨_, rfl⟩
        | exc _ => simp only [R.bind_ok, q3] at e; cases e
        | stuck => simp only [R.bind_ok, q3] at e; cases e
      | exc _ => rw [q2] at e; cases e
      | stuck => rw [q2] at e; cases e
    | exc _ => rw [q1] at e; cases e
    | stuck => rw [q1] at e; cases e
  obtain ⟨k, rfl⟩ := hb
  exact ⟨k, rv.blI, Pst.now (d := k) hp1 l.sub rfl⟩
end
end Py

namespace Py
open PySem PySem.Spec PyProof.Rows L2

section
variable {X : Cx} {W : WX} {e a b c : Expr} {es : List Expr} {pos : Pos} {fa fb fc : Env → R D} {fs : Env → R (List D)}

theorem star_cons {env : PySem.Env} (h : plain e = true) : starEach (e :: es) env = (false, eval e env) :: starEach es env := by
  cases e <;> first | rfl | cases h
theorem star_any {env : PySem.Env} : ∀ {es : List Expr}, (∀ e ∈ es, plain e = true) → (backTo pos (starEach es env)).any (·.1) = false
  | [], _ => rfl
  | e :: es, h => by
    rw [star_cons (h e (by simp))]
    show ((false, _) :: backTo pos (starEach es env)).any (·.1) = false
    rw [List.any_cons, star_any fun x hx => h x (by simp [hx])]
    rfl
theorem sa_nil : SA X W [] (fun _ => .ok []) := PA.imp pa_nil fun σ H Q ⟨ρ, Hs, he, hr, hp⟩ => hp.now he .nil
theorem sa_cons (hpl : plain e = true) (ha : SE X W e fa) (hs : SA X W es fs) : SA X W (e :: es) (fun ρ => do
    let x ← fa ρ
    let xs ← fs ρ
    .ok (x :: xs)) := by
  refine PA.imp (pa_cons ha hs (star_cons hpl)) fun σ H Q ⟨ρ, Hs, he, hr, hp⟩ => ⟨ρ, Hs, he, hr, hp.bind fun d _ v Hi H1 l rv hp1 => ⟨ρ, Hi, l.sub, hr.mono l.old, hp1.bind fun d2 _ v2 Hj H2 l2 rv2 hp2 => ?_⟩⟩
  exact hp2.now l2.sub (.cons (rv.mono l2.old) rv2)
theorem se_tup {k : Nat} (hs : SA X W es fs) (hl : ∀ ρ ds, fs ρ = .ok ds → ds.length ≤ 1000) : SE X W (.Tuple es k pos) (fun ρ => do
    let xs ← fs ρ
    .ok (.tup xs)) := by
  refine PE.imp (pe_tup hs) fun σ H Q ⟨ρ, Hs, he, hr, hp⟩ => ⟨ρ, Hs, he, hr, hp.bind fun ds e vs Hi H1 l rv hp1 => ⟨?_, fun p hn => hp1 _ _ _ (Le.new1 l.sub hn) (mk_tup l.sub rv hn)⟩⟩
  rw [size_eq, ← rv.length]
  have := hl ρ ds e
  omega
theorem se_lst (hs : SA X W es fs) (hl : ∀ ρ ds, fs ρ = .ok ds → ds.length ≤ 1000) : SE X W (.List es pos) (fun ρ => do
    let xs ← fs ρ
    .ok (.lst xs)) := by
  refine PE.imp (pe_lst hs) fun σ H Q ⟨ρ, Hs, he, hr, hp⟩ => ⟨ρ, Hs, he, hr, hp.bind fun ds e vs Hi H1 l rv hp1 => ⟨?_, fun p hn => hp1 _ _ _ (Le.new1 l.sub hn) (mk_lst l.sub rv hn)⟩⟩
  rw [size_eq, ← rv.length]
  have := hl ρ ds e
  omega

theorem se_and1 (ha : SE X W a fa) : SE X W (.BoolOp .And [a] pos) fa := pe_one ha
theorem se_or1 (ha : SE X W a fa) : SE X W (.BoolOp .Or [a] pos) fa := pe_one ha
theorem se_and (ha : SE X W a fa) (hb : SE X W (.BoolOp .And (b :: es) pos) fb) : SE X W (.BoolOp .And (a :: b :: es) pos) (fun ρ => do
    let x ← fa ρ
    let k ← D.truth x
    if k then fb ρ else .ok x) := by
  refine PE.imp (pe_andT ha hb) fun σ H Q ⟨ρ, Hs, he, hr, hp⟩ => ⟨ρ, Hs, he, hr, hp.bind fun d _ v Hi H1 l rv hp1 => ?_⟩
  rcases truth_cases d with ⟨k, e⟩ | e
  · rw [e] at hp1
    refine ⟨k, tru_of rv l.sub e, ?_⟩
    cases k with
    | true => exact iteT ⟨ρ, Hi, l.sub, hr.mono l.old, hp1⟩
    | false => exact iteF (Pst.now (d := d) hp1 l.sub rv)
  · rw [e] at hp1
    exact hp1.elim
theorem se_or (ha : SE X W a fa) (hb : SE X W (.BoolOp .Or (b :: es) pos) fb) : SE X W (.BoolOp .Or (a :: b :: es) pos) (fun ρ => do
    let x ← fa ρ
    let k ← D.truth x
    if k then .ok x else fb ρ) := by
  refine PE.imp (pe_orT ha hb) fun σ H Q ⟨ρ, Hs, he, hr, hp⟩ => ⟨ρ, Hs, he, hr, hp.bind fun d _ v Hi H1 l rv hp1 => ?_⟩
  rcases truth_cases d with ⟨k, e⟩ | e
  · rw [e] at hp1
    refine ⟨k, tru_of rv l.sub e, ?_⟩
    cases k with
    | false => exact iteF ⟨ρ, Hi, l.sub, hr.mono l.old, hp1⟩
    | true => exact iteT (Pst.now (d := d) hp1 l.sub rv)
  · rw [e] at hp1
    exact hp1.elim
abbrev SW (X : Cx) (W : WX) (e : Expr) (f : Env → R Bool) : Prop := PW X e (tDB X.K X.mg W f)
theorem sw_and1 (ha : SB X W a (fun ρ => fa ρ >>= D.truth)) : SW X W (.BoolOp .And [a] pos) (fun ρ => fa ρ >>= D.truth) := pw_and1 ha
theorem sw_or1 (ha : SB X W a (fun ρ => fa ρ >>= D.truth)) : SW X W (.BoolOp .Or [a] pos) (fun ρ => fa ρ >>= D.truth) := pw_or1 ha
theorem tru_and (r s : R D) : ((do
    let x ← r
    let k ← D.truth x
    if k then s else .ok x) >>= D.truth) = ((r >>= D.truth) >>= fun k => if k then s >>= D.truth else .ok false) := by
  cases r with
  | ok x =>
    simp only [R.bind_ok]
    rcases truth_cases x with ⟨k, e⟩ | e
    · rw [e]
      cases k with
      | true => rfl
      | false => simp only [R.bind_ok]; exact e
    · rw [e]; rfl
  | exc _ => rfl
  | stuck => rfl
theorem tru_or (r s : R D) : ((do
    let x ← r
    let k ← D.truth x
    if k then .ok x else s) >>= D.truth) = ((r >>= D.truth) >>= fun k => if k then .ok true else s >>= D.truth) := by
  cases r with
  | ok x =>
    simp only [R.bind_ok]
    rcases truth_cases x with ⟨k, e⟩ | e
    · rw [e]
      cases k with
      | false => rfl
      | true => simp only [R.bind_ok]; exact e
    · rw [e]; rfl
  | exc _ => rfl
  | stuck => rfl
theorem sw_and (ha : SB X W a (fun ρ => fa ρ >>= D.truth)) (hb : SW X W (.BoolOp .And (b :: es) pos) (fun ρ => fb ρ >>= D.truth)) : SW X W (.BoolOp .And (a :: b :: es) pos) (fun ρ => (do
    let x ← fa ρ
    let k ← D.truth x
    if k then fb ρ else .ok x) >>= D.truth) := by
  refine PW.imp (pw_and ha hb) fun σ H Q ⟨ρ, Hs, he, hr, hp⟩ => ⟨ρ, Hs, he, hr, ?_⟩
  simp only [tru_and] at hp
  refine Pst.bind (Rel2 := RB) hp fun k _ c Hi H1 l rc hp1 => ?_
  cases rc
  cases k with
  | true => exact iteT ⟨ρ, Hi, l.sub, hr.mono l.old, hp1⟩
  | false => exact iteF (Pst.now (d := false) hp1 l.sub rfl)
theorem sw_or (ha : SB X W a (fun ρ => fa ρ >>= D.truth)) (hb : SW X W (.BoolOp .Or (b :: es) pos) (fun ρ => fb ρ >>= D.truth)) : SW X W (.BoolOp .Or (a :: b :: es) pos) (fun ρ => (do
    let x ← fa ρ
    let k ← D.truth x
    if k then .ok x else fb ρ) >>= D.truth) := by
  refine PW.imp (pw_or ha hb) fun σ H Q ⟨ρ, Hs, he, hr, hp⟩ => ⟨ρ, Hs, he, hr, ?_⟩
  simp only [tru_or] at hp
  refine Pst.bind (Rel2 := RB) hp fun k _ c Hi H1 l rc hp1 => ?_
  cases rc
  cases k with
  | false => exact iteF ⟨ρ, Hi, l.sub, hr.mono l.old, hp1⟩
  | true => exact iteT (Pst.now (d := true) hp1 l.sub rfl)

theorem atI_V {K : PySem.W.Frag} {H : Hp} {ds : List D} {vs : List V} {i : Int} {d : D} (r : Reps K H ds vs) (h : atI ds i = some d) : ∃ v, atI vs i = some v ∧ Rep K H d v := by
  unfold atI at h ⊢
  rw [← r.length]
  cases q : ixN ds.length i with
  | none => rw [q] at h; cases h
  | some j =>
    rw [q] at h
    exact r.get h
theorem ixP (hpl : plain b = true) : PlainIx b := by
  intro o i
  cases b <;> first | rfl | cases hpl
theorem se_ix (hpl : plain b = true) (ha : SE X W a fa) (hb : SE X W b fb) : SE X W (.Subscript a b pos) (fun ρ => do
    let x ← fa ρ
    let y ← fb ρ
    D.ix x y) := by
  refine PE.imp (pe_ix (ix_seq (X := X)) ha hb (ixP hpl)) fun σ H Q ⟨ρ, Hs, he, hr, hp⟩ => ⟨ρ, Hs, he, hr, hp.bind fun d _ v Hi H1 l rv hp1 => ⟨ρ, Hi, l.sub, hr.mono l.old, hp1.bind fun d2 _ v2 Hj H2 l2 rv2 hp2 => ?_⟩⟩
  have rv' := rv.mono l2.old
  cases d2 with
  | int i =>
    rw [rv2.intI]
    cases d with
    | lst xs =>
      cases q : atI xs i with
      | none => simp only [D.ix, q] at hp2; exact hp2.elim
      | some d =>
        simp only [D.ix, q] at hp2
        obtain ⟨p, vs, rfl, e1, r1⟩ := rv'.lstI
        obtain ⟨u, e2, r2⟩ := atI_V r1 q
        exact .inl ⟨p, vs, i, u, rfl, rfl, SqL.of (l2.sub _ _ e1), e2, hp2.now l2.sub r2⟩
    | tup xs =>
      cases q : atI xs i with
      | none => simp only [D.ix, q] at hp2; exact hp2.elim
      | some d =>
        simp only [D.ix, q] at hp2
        obtain ⟨p, vs, rfl, e1, r1⟩ := rv'.tupI
        obtain ⟨u, e2, r2⟩ := atI_V r1 q
        exact .inr (.inl ⟨p, vs, i, u, rfl, rfl, SqT.of (l2.sub _ _ e1), e2, hp2.now l2.sub r2⟩)
    | scr ns =>
      cases q : atI ns i with
      | none => simp only [D.ix, q] at hp2; exact hp2.elim
      | some n =>
        simp only [D.ix, q] at hp2
        obtain ⟨p, rfl, s1⟩ := (rv'.mono l2.sub).scrI
        refine .inl ⟨p, _, i, .int n, rfl, rfl, s1, ?_, hp2.now l2.sub (.int _)⟩
        unfold atI at q ⊢
        rw [List.length_map]
        cases z : ixN ns.length i with
        | none => rw [z] at q; cases q
        | some j =>
          rw [z] at q
          have q : ns[j]? = some n := q
          show (ns.map V.int)[j]? = some (.int n)
          rw [List.getElem?_map, q]
          rfl
    | ftp ns =>
      cases q : atI ns i with
      | none => simp only [D.ix, q] at hp2; exact hp2.elim
      | some n =>
        simp only [D.ix, q] at hp2
        obtain ⟨p, o, rfl, s1, _⟩ := (rv'.mono l2.sub).ftpI
        refine .inr (.inl ⟨p, _, i, .int n, rfl, rfl, .inl (.inr ⟨o, s1⟩), ?_, hp2.now l2.sub (.int _)⟩)
        unfold atI at q ⊢
        rw [List.length_map]
        cases z : ixN ns.length i with
        | none => rw [z] at q; cases q
        | some j =>
          rw [z] at q
          have q : ns[j]? = some n := q
          show (ns.map V.int)[j]? = some (.int n)
          rw [List.getElem?_map, q]
          rfl
    | str x =>
      have hp2 : PstD X.K X.mg Hj H2 (if x.length ≤ 16777216 then (match atI x.cps.toList i with | some c => .ok (.str ⟨#[c]⟩) | none => .stuck) else .stuck) Q _ := hp2
      by_cases hz : x.length ≤ 16777216
      · rw [if_pos hz] at hp2
        cases q : atI x.cps.toList i with
        | none => simp only [q] at hp2; exact hp2.elim
        | some c =>
          simp only [q] at hp2
          rw [rv'.strI]
          exact .inr (.inr ⟨x, i, c, rfl, rfl, by rw [size_eq]; exact hz, q, hp2.now l2.sub (.str _)⟩)
      · rw [if_neg hz] at hp2
        exact hp2.elim
    | _ => exact hp2.elim
  | _ => cases d <;> exact hp2.elim
def tDO (K : PySem.W.Frag) (mg : Str → Option Value) (W : WX) (f : Env → R (Option Int)) : TO := fun σ H Q =>
  ∃ (ρ : Env) (Hs : Hp), Ex Hs H ∧ ERel K Hs ρ σ ∧ Pst (fun _ o p => o = p) K mg Hs H (f ρ) Q (fun c d H' => W c d σ H')
abbrev SO (X : Cx) (W : WX) (e : Option Expr) (f : Env → R (Option Int)) : Prop := PO X e (tDO X.K X.mg W f)
theorem PO.imp {X : Cx} {e : Option Expr} {t u : TO} (h : PO X e t) (f : ∀ σ H Q, u σ H Q → t σ H Q) : PO X e u := by
  obtain ⟨run⟩ := h
  constructor
  intros
  apply run <;> first | assumption | exact f _ _ _ ‹_›
theorem so_none : SO X W none (fun _ => .ok none) := PO.imp po_none fun σ H Q ⟨ρ, Hs, he, hr, hp⟩ => hp.now he rfl
theorem so_some (ha : SE X W a fa) : SO X W (some a) (fun ρ => do
    let x ← fa ρ
    D.asI x) := by
  refine PO.imp (po_some ha) fun σ H Q ⟨ρ, Hs, he, hr, hp⟩ => ⟨ρ, Hs, he, hr, hp.bind fun d _ v Hi H1 l rv hp1 => ?_⟩
  cases d with
  | int i => exact ⟨i, rv.intI, Pst.now (d := some i) hp1 l.sub rfl⟩
  | _ => exact hp1.elim
theorem cutA_V {K : PySem.W.Frag} {H : Hp} {ds : List D} {vs : List V} (r : Reps K H ds vs) (lo hi : Option Int) : Reps K H (cutA ds lo hi) (cutV vs lo hi) := by
  unfold cutA cutV
  rw [← r.length]
  exact (r.dropN _).take _
theorem cutA_whole {α : Type} {xs : List α} {lo hi : Option Int} (h : HT.sIx xs.length 0 lo = 0 ∧ HT.sIx xs.length xs.length hi = xs.length) : cutA xs lo hi = xs := by
  unfold cutA
  rw [h.1, h.2, List.drop_zero, Nat.sub_zero, List.take_length]
theorem se_sl {lo hi : Option Expr} {p2 : Pos} {fl fh : Env → R (Option Int)} (ha : SE X W a fa) (hl : SO X W lo fl) (hh : SO X W hi fh) : SE X W (.Subscript a (.Slice lo hi none p2) pos) (fun ρ => do
    let x ← fa ρ
    let l ← fl ρ
    let h ← fh ρ
    D.sl x l h) := by
  refine PE.imp (pe_slice (sl_list.or (sl_tupA.or sl_str)) ha hl hh) fun σ H Q ⟨ρ, Hs, he, hr, hp⟩ => ⟨ρ, Hs, he, hr, hp.bind fun d _ v Hi H1 l rv hp1 => ⟨ρ, Hi, l.sub, hr.mono l.old, hp1.bind fun lo _ lo' Hj H2 l2 rl hp2 => ⟨ρ, Hj, l2.sub, (hr.mono l.old).mono l2.old, hp2.bind fun hi _ hi' Hk H3 l3 rh hp3 => ?_⟩⟩⟩
  subst rl
  subst rh
  have rv' := (rv.mono l2.old).mono l3.old
  have he3 := l3.sub
  cases d with
  | lst xs =>
    obtain ⟨p, vs, rfl, e1, r1⟩ := rv'.lstI
    exact .inl ⟨p, vs, rfl, SqL.of (he3 _ _ e1), fun q hn => hp3 _ _ _ (Le.new1 he3 hn) (mk_lst he3 (cutA_V r1 lo hi) hn)⟩
  | tup xs =>
    obtain ⟨p, vs, rfl, e1, r1⟩ := rv'.tupI
    refine .inr (.inl ⟨p, vs, rfl, SqT.of (he3 _ _ e1), fun hw => ?_, fun _ q hn => hp3 _ _ _ (Le.new1 he3 hn) (mk_tup he3 (cutA_V r1 lo hi) hn)⟩)
    rw [← r1.length] at hw
    have hp3 : PstD X.K X.mg Hk H3 (.ok (.tup (cutA xs lo hi))) Q _ := hp3
    rw [cutA_whole hw] at hp3
    exact hp3.now he3 (.tup e1 r1)
  | scr ns =>
    obtain ⟨p, rfl, s1⟩ := (rv'.mono he3).scrI
    refine .inl ⟨p, _, rfl, s1, fun q hn => hp3 _ _ _ (Le.new1 he3 hn) (mk_lst he3 ?_ hn)⟩
    have : cutV (ns.map V.int) lo hi = (cutA ns lo hi).map V.int := by
      unfold cutV cutA
      rw [List.length_map, List.map_take, List.map_drop]
    rw [this]
    exact Reps.ints
  | str x =>
    have hp3 : PstD X.K X.mg Hk H3 (if x.length ≤ 16777216 then .ok (.str (cutS x lo hi)) else .stuck) Q _ := hp3
    by_cases hz : x.length ≤ 16777216
    · rw [if_pos hz] at hp3
      rw [rv'.strI]
      exact .inr (.inr ⟨x, rfl, by rw [size_eq]; exact hz, hp3.now he3 (.str _)⟩)
    · rw [if_neg hz] at hp3
      exact hp3.elim
  | _ => exact hp3.elim

theorem vals_pick {xs : List V} {us : List Value} (r : Vals xs us) : ∀ l : List Nat, Vals (l.filterMap (xs[·]?)) (l.filterMap (us[·]?))
  | [] => .nil
  | i :: l => by
    have t := vals_pick r l
    rw [List.filterMap_cons, List.filterMap_cons]
    cases h : xs[i]? with
    | none =>
      have : us[i]? = none := by
        rw [List.getElem?_eq_none_iff] at h ⊢
        rw [← r.length]
        exact h
      rw [this]
      exact t
    | some x =>
      obtain ⟨u, hu, ru⟩ := r.get h
      rw [hu]
      exact .cons ru t
theorem reps_pick {K : PySem.W.Frag} {H : Hp} {xs : List D} {us : List V} (r : Reps K H xs us) : ∀ l : List Nat, Reps K H (l.filterMap (xs[·]?)) (l.filterMap (us[·]?))
  | [] => .nil
  | i :: l => by
    have t := reps_pick r l
    rw [List.filterMap_cons, List.filterMap_cons]
    cases h : xs[i]? with
    | none =>
      have : us[i]? = none := by
        rw [List.getElem?_eq_none_iff] at h ⊢
        rw [← r.length]
        exact h
      rw [this]
      exact t
    | some x =>
      obtain ⟨u, hu, ru⟩ := r.get h
      rw [hu]
      exact .cons ru t
def tStep (K : PySem.W.Frag) (te tk : TE) : TE := fun σ H Q => te σ H fun x H1 => tPart tk σ H1 fun o H2 => (∃ a xs k, x = .ref a ∧ o = some k ∧ k ≠ 0 ∧ SqL K H2 a xs ∧ ∀ p, H2 p = none → Q (.ref p) (upd H2 p (.lst (pickS xs k)))) ∨ ∃ a xs, x = .ref a ∧ o = some (-1) ∧ SqT K H2 a xs ∧ ∀ p, H2 p = none → Q (.ref p) (upd H2 p (.tup xs.reverse))
theorem vals_rev : ∀ {xs : List V} {us : List Value}, Vals xs us → Vals xs.reverse us.reverse
  | _, _, .nil => .nil
  | _, _, .cons r t => by
    rw [List.reverse_cons, List.reverse_cons]
    exact (vals_rev t).append (.cons r .nil)
theorem reps_rev {K : PySem.W.Frag} {H : Hp} {xs : List D} {us : List V} (r : Reps K H xs us) : Reps K H xs.reverse us.reverse := by
  induction xs generalizing us with
  | nil => cases r; exact .nil
  | cons d ds ih =>
    cases r with
    | cons r t =>
      rw [List.reverse_cons, List.reverse_cons]
      exact (ih t).append (.cons r .nil)
theorem pickS_len {α : Type} (xs : List α) (k : Int) : (pickS xs k).length ≤ xs.length := by
  unfold pickS
  refine Nat.le_trans (List.length_filterMap_le _ _) (PySem.sliceRange_length_le _ _ _ _ (fun hc => ?_) fun hc => ?_)
  · simp only [sliceBounds] at hc ⊢
    simp only [hc, if_true]
    constructor <;> simp
  · simp only [sliceBounds] at hc ⊢
    simp only [hc, if_false]
    constructor <;> simp
theorem pe_step {e ks : Expr} {te tk : TE} {p3 : Pos} (he : PE X e te) (hk : PE X ks tk) : PE X (.Subscript e (.Slice none none (some ks) p3) pos) (tStep X.K te tk) := by
  refine ⟨fun pins s σ H Q I h => ?_⟩
  refine Subscript_ (thn (he.run pins s σ H _ I h) fun v s1 ⟨x, H1, I1, r1, q1⟩ => ?_)
  refine wpAny_Slice (thn (po_none.run pins s1 σ H1 (fun o H2 => o = none ∧ H2 = H1) I1 ⟨rfl, rfl⟩) fun vl s2 ⟨l, H2, I2, pl, el, e2⟩ => ?_)
  subst el e2
  refine thn (po_none.run pins s2 σ H2 (fun o H3 => o = none ∧ H3 = H2) I2 ⟨rfl, rfl⟩) fun vu s3 ⟨u, H3, I3, pu, eu, e3⟩ => ?_
  subst eu e3
  refine thn ((po_some hk).run pins s3 σ H3 (fun o H4 => (∃ a xs k, x = .ref a ∧ o = some k ∧ k ≠ 0 ∧ SqL X.K H4 a xs ∧ ∀ p, H4 p = none → Q (.ref p) (upd H4 p (.lst (pickS xs k)))) ∨ ∃ a xs, x = .ref a ∧ o = some (-1) ∧ SqT X.K H4 a xs ∧ ∀ p, H4 p = none → Q (.ref p) (upd H4 p (.tup xs.reverse))) I3 ?_) fun vs s4 ⟨o, H4, I4, ps, q4⟩ => ?_
  · exact q1
  · rcases q4 with ⟨a, xs, k, ex, eo, hk0, hx, q⟩ | ⟨a, xs, ex, eo, hx, q⟩
    rotate_left
    · subst ex eo
      cases r1
      have I5 : Inv X pins σ H4 { s4 with heap := s4.heap.push { cls := .type "slice", data := .fields #[vl, vu, vs] } } := I4.kept (t' := s4.toks) fun b ob q => Heap.get?_push_of_some _ q
      obtain ⟨its, r, ht, hz⟩ := I5.tuple hx
      have hlen := r.length
      cases pl
      cases pu
      show wpAny (model X.prog X.w) X.A (subscriptTail e (.Slice none none (some ks) p3) (.ref a) (.ref s4.heap.objs.size)) (EP X pins σ Q) X.xe { s4 with heap := s4.heap.push { cls := .type "slice", data := .fields #[.none, .none, vs] } }
      refine tail_any (ops := [.ref a, .ref s4.heap.objs.size]) ht.typeIs (PyProof.Rows.slot_tuple_getitem.lookup) ?_ (by with_unfolding_all rfl)
      refine getItem_tuple_rev ht (Heap.IsSliceOf.new _ .none .none vs) ps ?_ (by rw [List.size_toArray]; omega)
      refine ⟨.ref _, _, I5.laid (t' := s4.toks) (o := .tup xs.reverse) (fun b ob q => Heap.get?_push_of_some _ q) (Nat.le_refl _) ?_, rfl, q _ (I5.hok.fresh (Nat.le_refl _))⟩
      exact ⟨by rw [List.length_reverse]; exact hz, its.reverse, vals_rev r, IsTup.new _ _⟩
    subst ex eo
    cases r1
    have I5 : Inv X pins σ H4 { s4 with heap := s4.heap.push { cls := .type "slice", data := .fields #[vl, vu, vs] } } := I4.kept (t' := s4.toks) fun b ob q => Heap.get?_push_of_some _ q
    obtain ⟨its, r, ht, hz⟩ := I5.list hx
    have hlen := r.length
    show wpAny (model X.prog X.w) X.A (subscriptTail e (.Slice none none (some ks) p3) (.ref a) (.ref s4.heap.objs.size)) (EP X pins σ Q) X.xe { s4 with heap := s4.heap.push { cls := .type "slice", data := .fields #[vl, vu, vs] } }
    refine tail_any (ops := [.ref a, .ref s4.heap.objs.size]) ht.isList.typeIs (PySem.slot_list_getitem.lookup) ?_ (by with_unfolding_all rfl)
    refine wpAny_getItem_list_slice ht.isList (Heap.IsSliceOf.new _ vl vu vs) pl pu ps (by simpa using hk0) ?_ (by rw [List.size_toArray]; omega)
    refine ⟨.ref _, _, I5.laid (t' := s4.toks) (o := .lst (pickS xs k)) (fun b ob q => Heap.get?_push_of_some _ q) (Nat.le_refl _) ?_, rfl, q _ (I5.hok.fresh (Nat.le_refl _))⟩
    refine ⟨Nat.le_trans (pickS_len _ _) hz, pickS its k, 0, ?_, ?_⟩
    · unfold pickS
      rw [hlen]
      exact vals_pick r _
    · have : slicePick its.toArray none none (some k) = (pickS its k).toArray := by
        unfold slicePick pickS
        simp
      rw [this]
      exact Heap.get?_push_size _ rfl
theorem se_slk {p3 : Pos} {ks : Expr} {fk : Env → R D} (ha : SE X W a fa) (hk : SE X W ks fk) : SE X W (.Subscript a (.Slice none none (some ks) p3) pos) (fun ρ => do
    let x ← fa ρ
    let y ← fk ρ
    D.slk x y) := by
  refine PE.imp (pe_step ha hk) fun σ H Q ⟨ρ, Hs, he, hr, hp⟩ => ⟨ρ, Hs, he, hr, hp.bind fun d _ v Hi H1 l rv hp1 => ⟨ρ, Hi, l.sub, hr.mono l.old, hp1.bind fun d2 _ v2 Hj H2 l2 rv2 hp2 => ?_⟩⟩
  have rv' := rv.mono l2.old
  have he3 := l2.sub
  cases d2 with
  | int k =>
    rw [rv2.intI]
    cases d with
    | lst xs =>
      have hp2 : PstD X.K X.mg Hj H2 (if k = 0 then .stuck else .ok (.lst (pickS xs k))) Q _ := hp2
      by_cases hk0 : k = 0
      · rw [if_pos hk0] at hp2; exact hp2.elim
      · rw [if_neg hk0] at hp2
        obtain ⟨p, vs, rfl, e1, r1⟩ := rv'.lstI
        refine ⟨k, rfl, .inl ⟨p, vs, k, rfl, rfl, hk0, SqL.of (he3 _ _ e1), fun q hn => hp2 _ _ _ (Le.new1 he3 hn) (mk_lst he3 ?_ hn)⟩⟩
        unfold pickS
        rw [← r1.length]
        exact reps_pick r1 _
    | scr ns =>
      have hp2 : PstD X.K X.mg Hj H2 (if k = 0 then .stuck else .ok (.lst ((pickS ns k).map D.int))) Q _ := hp2
      by_cases hk0 : k = 0
      · rw [if_pos hk0] at hp2; exact hp2.elim
      · rw [if_neg hk0] at hp2
        obtain ⟨p, rfl, s1⟩ := (rv'.mono he3).scrI
        refine ⟨k, rfl, .inl ⟨p, _, k, rfl, rfl, hk0, s1, fun q hn => hp2 _ _ _ (Le.new1 he3 hn) (mk_lst he3 ?_ hn)⟩⟩
        have : pickS (ns.map V.int) k = (pickS ns k).map V.int := by
          unfold pickS
          rw [List.length_map, List.map_filterMap]
          congr 1
          funext i
          rw [List.getElem?_map]
        rw [this]
        exact Reps.ints
    | tup xs =>
      have hp2 : PstD X.K X.mg Hj H2 (if k = -1 then .ok (.tup xs.reverse) else .stuck) Q _ := hp2
      by_cases hk0 : k = -1
      · rw [if_pos hk0] at hp2
        subst hk0
        obtain ⟨p, vs, rfl, e1, r1⟩ := rv'.tupI
        exact ⟨-1, rfl, .inr ⟨p, vs, rfl, rfl, SqT.of (he3 _ _ e1), fun q hn => hp2 _ _ _ (Le.new1 he3 hn) (mk_tup he3 (reps_rev r1) hn)⟩⟩
      · rw [if_neg hk0] at hp2; exact hp2.elim
    | _ => exact hp2.elim
  | _ => cases d <;> exact hp2.elim
theorem se_idx {ap : Pos} {x : Str} {px : Pos} (ha : SE X W (.Name x px) fa) (hb : SE X W b fb) (hl : (ap.endLine == pos.line) = true) (hpl : plain b = true) : SE X W (.Call (.Attribute (.Name x px) "index" ap) [b] [] pos) (fun ρ => do
    let x ← fa ρ
    if x.isL then do
      let y ← fb ρ
      D.idx x y
    else .stuck) := by
  have hst : starEach [b] X.env = (false, eval b X.env) :: starEach [] X.env := star_cons hpl
  refine PE.imp (pe_bm PySem.F.plainAttrs_list PySem.F.slot_list_index PySem.F.type_list_index mt_index ha (pa_cons hb pa_nil hst) rfl (by rw [hst]; rfl) hl hst rfl) fun σ H Q ⟨ρ, Hs, he, hr, hp⟩ => ⟨ρ, Hs, he, hr, hp.bind fun d _ v Hi H1 l rv hp1 => ?_⟩
  cases d with
  | lst xs =>
    obtain ⟨p, vs, rfl, e1, r1⟩ := rv.lstI
    refine ⟨.inl ⟨rfl, vs, SqL.of (l.sub _ _ e1)⟩, ρ, Hi, l.sub, hr.mono l.old, hp1.bind fun y _ v2 Hj H2 l2 rv2 hp2 => ?_⟩
    have hp2 : PstD X.K X.mg Hj H2 (if y.flat && xs.all D.flat then (match xs.findIdx? fun x => PyData.eqv x.pd y.pd with
    | some j => .ok (.int (j : Nat))
    | none => .stuck) else .stuck) Q _ := hp2
    by_cases hz : (y.flat && xs.all D.flat) = true
    · rw [if_pos hz] at hp2
      rw [Bool.and_eq_true] at hz
      cases hf : xs.findIdx? fun x => PyData.eqv x.pd y.pd with
      | none => rw [hf] at hp2; exact hp2.elim
      | some j =>
        rw [hf] at hp2
        obtain ⟨hj, h1, h2⟩ := List.findIdx?_eq_some_iff_getElem.mp hf
        have r2 := r1.mono l2.old
        obtain ⟨z, hz1, hz2⟩ := r2.get (List.getElem?_eq_getElem hj)
        have hfl : (xs[j]).flat = true := List.all_eq_true.mp hz.2 _ (List.getElem_mem hj)
        refine ⟨p, vs, v2, j, z, rfl, rfl, SqL.of (l2.sub _ _ (l2.old _ _ e1)), flat_V rv2 hz.1, flat_all r2 hz.2, hz1, ?_, fun m z' hm hz' => ?_, hp2.now l2.sub (.int _)⟩
        · rw [flat_eqV hz2 rv2 hfl hz.1]
          exact h1
        · obtain ⟨d', hd1, hd2⟩ := r2.getV hz'
          have hml : m < xs.length := by omega
          rw [List.getElem?_eq_getElem hml] at hd1
          cases hd1
          rw [flat_eqV hd2 rv2 (List.all_eq_true.mp hz.2 _ (List.getElem_mem hml)) hz.1]
          simpa using h2 m hm
    · rw [if_neg hz] at hp2
      exact hp2.elim
  | _ => exact hp1.elim
theorem se_call {cal : Cal} {k : Nat} {p : Pos} (tk : Takes X W) (F : cal.Ok X.prog X.w X.K X.mg X.base k) (f0 : cal.cls = []) (f1 : cal.own = []) (hr : Room k X.A) (hg : glOk X.env.scope cal.name = true) (hpl : ∀ x ∈ e :: es, plain x = true) (hs : SA X W (e :: es) fs) :
    SE X W (.Call (.Name cal.name p) (e :: es) [] pos) (fun ρ => do
    let xs ← fs ρ
    if xs.length = cal.ps.length then cal.g xs else .stuck) := by
  obtain ⟨g1, g2, g3⟩ := gl_of hg
  refine PE.imp (pe_callS (F.fn f1) hr g1 (F.gl f0) F.kp F.bd (fun σ => passAt tk σ) hs g2 (star_cons (hpl e (by simp))) (star_any fun x hx => hpl x (by simp [hx]))) fun σ H Q ⟨ρ, Hs, he, hr, hp⟩ => ⟨ρ, Hs, he, hr, hp.bind fun ds _ vs Hi H1 l rv hp1 => ?_⟩
  by_cases hn : ds.length = cal.ps.length
  · rw [if_pos hn] at hp1
    exact ⟨Hi, ds, l.sub, rv, hn, hp1⟩
  · rw [if_neg hn] at hp1
    exact hp1.elim
theorem bi_imp {g : List D → R D} {σ : L2.St} {H : Hp} {Q : VK} (h : tD X.K X.mg W (fun ρ => do
    let xs ← fs ρ
    g xs) σ H Q) : tCB (rL X.K X.mg g) (tDL X.K X.mg W fs) σ H Q := by
  obtain ⟨ρ, Hs, he, hr, hp⟩ := h
  exact ⟨ρ, Hs, he, hr, hp.bind fun ds _ vs Hi H1 l rv hp1 => ⟨Hi, ds, _, l.sub, rv, hp1⟩⟩
theorem se_bi {bi : Bi} {p : Pos} (hc : X.calm = true) (hu : X.A.units + 65 < cLine) (hg : glOk X.env.scope bi.name = true) (hm : X.mg bi.name = none) (hpl : ∀ x ∈ e :: es, plain x = true) (hs : SA X W (e :: es) fs) :
    SE X W (.Call (.Name bi.name p) (e :: es) [] pos) (fun ρ => do
    let xs ← fs ρ
    bi.f xs) := by
  obtain ⟨g1, g2, g3⟩ := gl_of hg
  have s1 := star_cons (env := X.env) (es := es) (hpl e (by simp))
  have s2 := star_any (pos := pos) (env := X.env) fun x hx => hpl x (List.mem_cons_of_mem e hx)
  refine PE.imp ?_ fun _ _ _ h => bi_imp h
  cases bi with
  | len => exact pe_callB cs_len g1 hm PySem.boot_len hs g3 g2 s1 s2
  | abs => exact pe_callB cs_abs g1 hm (by decide +kernel) hs g3 g2 s1 s2
  | max2 => exact pe_callB (cs_max2 hc) g1 hm (by decide +kernel) hs g3 g2 s1 s2
  | min2 => exact pe_callB (cs_min2 hc) g1 hm (by decide +kernel) hs g3 g2 s1 s2
  | minL => exact pe_callB (cs_minL hc hu) g1 hm (by decide +kernel) hs g3 g2 s1 s2
  | maxL => exact pe_callB (cs_maxL hc hu) g1 hm (by decide +kernel) hs g3 g2 s1 s2
  | list => exact pe_callTy cs_list g1 hm (by decide +kernel) hs g3 g2 s1 s2
  | tuple => exact pe_callTy cs_tuple g1 hm (by decide +kernel) hs g3 g2 s1 s2
  | all => exact pe_callB (cs_allL hc) g1 hm (by decide +kernel) hs g3 g2 s1 s2
  | any => exact pe_callB (cs_anyL hc) g1 hm (by decide +kernel) hs g3 g2 s1 s2
  | int => exact pe_callTy cs_int g1 hm (by decide +kernel) hs g3 g2 s1 s2
  | sorted => exact pe_callB (cs_sorted hu) g1 hm (by decide +kernel) hs g3 g2 s1 s2
  | str => exact pe_callTy cs_str g1 hm (by decide +kernel) hs g3 g2 s1 s2

def D.tyName : D → String
  | .non => "NoneType" | .bl _ => "bool" | .int _ => "int" | .str _ => "str" | .tup _ => "tuple" | .lst _ => "list" | .scr _ => "list" | .exv _ _ => "" | .dic => "dict" | .ftp _ => "tuple" | .obj _ _ _ => "" | .dct _ _ => "dict" | .dkt _ => "dict"
def D.isEx : D → Bool
  | .exv _ _ => true
  | .obj _ _ _ => true
  | .dkt _ => true
  | _ => false
theorem ty_of {K : PySem.W.Frag} {Hs H : Hp} {d : D} {v : V} (r : Rep K Hs d v) (he : Ex Hs H) (hx : d.isEx = false) : TyX K H v (.type d.tyName) := by
  cases r with
  | non => exact .base .non
  | bl b => exact .base (.bl b)
  | int i => exact .base (.int i)
  | str x => exact .base (.str x)
  | tup h r => exact .base (.tup (he _ _ h))
  | lst h r => exact .base (.lst (he _ _ h))
  | @scr a ns h =>
    have q : SqL K H a (ns.map V.int) := by
      rcases h with ⟨o, h⟩ | h
      · exact .inl (.inr ⟨o, he _ _ h⟩)
      · exact h H
    rcases q with (q | ⟨o, q⟩) | ⟨o, its, n, q, c, _⟩
    · exact .base (.lst q)
    · exact .base (.frz q)
    · exact .kList q c
  | dic h => exact .base (.dK (he _ _ h))
  | ftp h _ _ => exact .fTuple (he _ _ h)
  | exv0 _ _ _ _ => cases hx
  | exv1 _ _ _ _ _ _ _ => cases hx
  | obj _ _ _ _ => cases hx
  | dct h _ _ => exact .base (.dK (he _ _ h))
  | dkt _ _ _ => cases hx
theorem kit_all (d : D) (t : Ty) (hx : d.isEx = false) : kitB d.tyName t.name = some (d.isTy t) := by
  cases d with
  | non => cases t <;> (show kitB "NoneType" _ = some false; decide +kernel)
  | bl b => cases t <;> first | (show kitB "bool" _ = some true; decide +kernel) | (show kitB "bool" _ = some false; decide +kernel)
  | int b => cases t <;> first | (show kitB "int" _ = some true; decide +kernel) | (show kitB "int" _ = some false; decide +kernel)
  | str b => cases t <;> first | (show kitB "str" _ = some true; decide +kernel) | (show kitB "str" _ = some false; decide +kernel)
  | tup b => cases t <;> first | (show kitB "tuple" _ = some true; decide +kernel) | (show kitB "tuple" _ = some false; decide +kernel)
  | lst b => cases t <;> first | (show kitB "list" _ = some true; decide +kernel) | (show kitB "list" _ = some false; decide +kernel)
  | scr b => cases t <;> first | (show kitB "list" _ = some true; decide +kernel) | (show kitB "list" _ = some false; decide +kernel)
  | dic => cases t <;> (show kitB "dict" _ = some false; decide +kernel)
  | ftp b => cases t <;> first | (show kitB "tuple" _ = some true; decide +kernel) | (show kitB "tuple" _ = some false; decide +kernel)
  | exv c ys => cases hx
  | obj _ _ _ => cases hx
  | dct _ _ => cases t <;> (show kitB "dict" _ = some false; decide +kernel)
  | dkt _ => cases t <;> (show kitB "dict" _ = some false; decide +kernel)
theorem kit_obj {K : PySem.W.Frag} {c : Str} {C : Addr} (T : ObK K c C) (t : Ty) : PySem.W.kitOne K (.ref C) (.type t.name) = some false := by
  cases t
  · exact T.kI
  · exact T.kB
  · exact T.kS
  · exact T.kT
  · exact T.kL
theorem kit_exc {K : PySem.W.Frag} {B C : Addr} (T : ExC K B C) (t : Ty) : PySem.W.kitOne K (.ref C) (.type t.name) = some false := by
  cases t
  · exact T.tI
  · exact T.tB
  · exact T.tS
  · exact T.tT
  · exact T.tL
theorem isi_wish {K : PySem.W.Frag} {Hi H : Hp} {d : D} {v : V} {t : Ty} {Q : VK} (r : Rep K Hi d v) (he : Ex Hi H) (q : Q (.bl (d.isTy t)) H) : rIsx K [v, .ty t.name] H Q ∨ rIsi K [v, .ty t.name] H Q ∨ rIsn K [v, .ty t.name] H Q := by
  by_cases hx : d.isEx = false
  · exact .inr (.inl ⟨v, .ty t.name, .type d.tyName, .type t.name, d.isTy t, rfl, .ty _, ty_of r he hx, kit_ty (kit_all d t hx), q⟩)
  · cases r with
    | exv0 h1 h2 h3 h4 => exact .inl ⟨_, _, _, none, _, _, false, rfl, h3, he _ _ h4, (fun _ z => nomatch z), .ty _, kit_exc h3 t, q⟩
    | exv1 h1 h2 h3 h4 h5 h6 r => exact .inl ⟨_, _, _, some _, _, _, false, rfl, h3, he _ _ h5, (fun _ z => by cases z; exact ⟨_, he _ _ h6⟩), .ty _, kit_exc h3 t, q⟩
    | obj h1 h2 h3 r => exact .inr (.inl ⟨_, .ty t.name, _, .type t.name, false, rfl, .ty _, .base (h2.ty _ _ _ _ (he _ _ h1)), kit_obj h2 t, q⟩)
    | dkt h1 D r => exact .inr (.inr ⟨_, _, _, .ty t.name, .type t.name, false, rfl, .ty _, he _ _ h1, D, kit_ty (by cases t <;> (show kitB "dict" _ = some false; decide +kernel)), q⟩)
    | _ => exact absurd rfl hx
theorem boot_ty (t : Ty) : bootBuiltins (Str.ofString t.name) = some (.type t.name) := by
  cases t <;> decide +kernel
theorem se_isi {t : Ty} {p q : Pos} (hg : glOk X.env.scope "isinstance" = true) (hm : X.mg "isinstance" = none) (hg2 : glOk X.env.scope (Str.ofString t.name) = true) (hm2 : X.mg (Str.ofString t.name) = none) (hpl : plain a = true) (ha : SE X W a fa) :
    SE X W (.Call (.Name "isinstance" p) [a, .Name (Str.ofString t.name) q] [] pos) (fun ρ => do
    let x ← fa ρ
    .ok (.bl (x.isTy t))) := by
  obtain ⟨g1, g2, g3⟩ := gl_of hg
  obtain ⟨k1, k2, k3⟩ := gl_of hg2
  have hz : PE X (.Name (Str.ofString t.name) q) (tC (.ty t.name)) := pe_bltn k1 hm2 (boot_ty t) rfl k3 k2
  refine PE.imp (pe_callB call_isx3 g1 hm (by decide +kernel) (pa_cons ha (pa_cons hz pa_nil (star_cons rfl)) (star_cons hpl)) g3 g2 (star_cons hpl) (star_any fun x hx => by
    have e : x = .Name (Str.ofString t.name) q := by simpa using hx
    subst e
    rfl)) fun σ H Q ⟨ρ, Hs, he, hr, hp⟩ => ⟨ρ, Hs, he, hr, hp.bind fun d _ v Hi H1 l rv hp1 => ?_⟩
  exact isi_wish rv l.sub (Pst.now (d := D.bl _) hp1 l.sub (.bl _))

theorem cs_minD (hc : X.calm = true) (hu : X.A.units + 65 < cLine) : CallRK X (.builtin "min") [("default" : Str)] (fun vs zs H Q => zs = [.non] ∧ rL X.K X.mg (f1 D.minD) vs H Q) := by
  intro pins s σ H xs zs us ws Q I r rz h
  obtain ⟨rfl, Hs, ds, E, he, rr, hp⟩ := h
  obtain ⟨d, v, rfl, rfl, rd, hp⟩ := one_in (f1_in _) rr hp
  obtain ⟨w, rfl, rw'⟩ := vals1 rz
  cases (show w = Value.none from rw')
  cases d with
  | lst xs =>
    cases q : asInts xs with
    | none => simp [D.minD, q] at hp; exact hp.elim
    | some l =>
      obtain ⟨p, vs, rfl, e1, r1⟩ := rd.lstI
      have e := asInts_some q
      rw [e] at r1
      have ev := r1.intsI
      subst ev
      rw [Vals.ref1 r]
      obtain ⟨its, rv, hl, hz⟩ := I.list (SqL.of (he _ _ e1))
      obtain ⟨as, q1⟩ := Dp.readsAll I _ _ _ (dp_ints (K := X.K) (H := H) l) rv
      refine PySem.W.min_list_default (as := as) (xs := l.map .int) (d := .none) (I.ok.hd hc) hl.isList (by simpa using q1) (alike_ints' l) (by rw [PySem.W.depth_ints]; omega) (fun h0 h' tk k => ?_) fun y ys i v h' tk bs e2 _ rv k => ?_
      · have : l = [] := by simpa using h0
        subst this
        have hq : PstD X.K X.mg Hs H (.ok .non) Q E := by simpa [D.minD, q] using hp
        exact ⟨.non, H, I.kept (t' := tk) k, rfl, hq.now he .non⟩
      · cases l with
        | nil => cases e2
        | cons n ns =>
          have hq : PstD X.K X.mg Hs H (.ok (.int (ns.foldl min n))) Q E := by simpa [D.minD, q] using hp
          rw [List.map_cons] at e2
          injection e2 with e3 e4
          subst e3
          subst e4
          rw [PySem.W.minD_ints] at rv
          obtain ⟨t, rfl⟩ := reads_int rv
          exact ⟨.int _, H, I.kept (t' := tk) k, ⟨t, rfl⟩, hq.now he (.int _)⟩
  | _ => exact hp.elim
theorem se_minD {p r p2 : Pos} {j : Nat} (hc : X.calm = true) (hu : X.A.units + 65 < cLine) (hg : glOk X.env.scope "min" = true) (hm : X.mg "min" = none) (hpl : plain a = true) (ha : SE X W a fa) :
    SE X W (.Call (.Name "min" p) [a] [⟨some "default", .Constant .none j p2, r⟩] pos) (fun ρ => do
    let x ← fa ρ
    D.minD x) := by
  obtain ⟨g1, g2, g3⟩ := gl_of hg
  refine PE.imp (pe_callBK (cs_minD hc hu) g1 hm (by decide +kernel) (pa_cons ha pa_nil (star_cons hpl)) (pk_cons pe_non pk_nil) g3 g2 (by rw [star_cons hpl]; rfl) (by rw [star_cons hpl]; rfl)) fun σ H Q ⟨ρ, Hs, he, hr, hp⟩ => ⟨ρ, Hs, he, hr, hp.bind fun d _ v Hi H1 l rv hp1 => ?_⟩
  exact ⟨rfl, Hi, [d], _, l.sub, .cons rv .nil, hp1⟩
end
end Py

namespace Py
open PySem PySem.Spec PyProof.Rows L2

def gNames : List Nat → TGs
  | [] => gNil
  | i :: is => gCons (gName i) (gNames is)
def gOf (K : PySem.W.Frag) : Tgt → TG
  | .nm i => gName i
  | .tp is => gTup K is.length (gNames is)
section
variable {X : Cx}
theorem loc_of {sc raw : Scope} {x : Str} (h : locOk sc raw x = true) (hs : X.env.scope = sc) (hf : ∀ x, raw.names.lookup x = some .cell → X.fn x = true) : Loc X.env.scope x ∧ (X.fn x = true ∨ X.env.scope.names.lookup x = some .local) := by
  unfold locOk at h
  subst hs
  split at h
  · have h := of_decide_eq_true h
    exact ⟨.inl h, .inr h⟩
  · have h := of_decide_eq_true h
    exact ⟨.inr h, .inl (hf x (by assumption))⟩
  · cases h
theorem pgs_of {N : List Str} {sc raw : Scope} (hN : X.N = N) (nd : N.Nodup) (hs : X.env.scope = sc) (hf : ∀ x, raw.names.lookup x = some .cell → X.fn x = true) : ∀ {is : List Nat} {es : List Expr}, chkNames N sc raw is es = true → PGs X es (gNames is) ∧ (assignEach es X.env).length = is.length ∧ (assignEach es X.env).findIdx? (·.1) = none
  | [], [], _ => ⟨pgs_nil, rfl, rfl⟩
  | [], _ :: _, h => by cases h
  | _ :: _, [], h => by cases h
  | i :: is, e :: es, h => by
    unfold chkNames at h
    rw [Bool.and_eq_true] at h
    cases q : xName e with
    | none => rw [q] at h; cases h.1
    | some x =>
      rw [q] at h
      obtain ⟨p, rfl⟩ := xName_s q
      obtain ⟨h1, h2⟩ := h
      simp only [Bool.and_eq_true, decide_eq_true_eq] at h1
      obtain ⟨h3, h4⟩ := loc_of (X := X) h1.2 hs hf
      obtain ⟨r1, r2, r3⟩ := pgs_of hN nd hs hf h2
      subst hN
      refine ⟨pgs_cons (pg_name nd h1.1 h3 h4) r1, ?_, ?_⟩
      · show (assignEach es X.env).length + 1 = is.length + 1
        rw [r2]
      · show ((false, assign (.Name x p) X.env) :: assignEach es X.env).findIdx? (·.1) = none
        rw [List.findIdx?_cons, r3]
        rfl
theorem pg_of {N : List Str} {sc raw : Scope} {t : Tgt} {e : Expr} (hc : X.calm = true) (hN : X.N = N) (nd : N.Nodup) (hs : X.env.scope = sc) (hf : ∀ x, raw.names.lookup x = some .cell → X.fn x = true) (h : chkTgt N sc raw t e = true) : PG X e (gOf X.K t) := by
  cases t with
  | nm i =>
    have h : (match xName e with | some x => decide (N[i]? = some x) && locOk sc raw x | none => false) = true := h
    cases q : xName e with
    | none => rw [q] at h; cases h
    | some x =>
      rw [q] at h
      obtain ⟨p, rfl⟩ := xName_s q
      have h : (decide (N[i]? = some x) && locOk sc raw x) = true := h
      simp only [Bool.and_eq_true, decide_eq_true_eq] at h
      obtain ⟨h3, h4⟩ := loc_of (X := X) h.2 hs hf
      subst hN
      exact pg_name nd h.1 h3 h4
  | tp is =>
    have h : (match xTup e with | some es => chkNames N sc raw is es | none => false) = true := h
    cases q : xTup e with
    | none => rw [q] at h; cases h
    | some es =>
      rw [q] at h
      obtain ⟨k, p, rfl⟩ := xTup_s q
      obtain ⟨r1, r2, r3⟩ := pgs_of hN nd hs hf h
      exact pg_tup hc r1 r2 r3
end
/-- what is known of all slots but those at is -/
def ERelX (K : PySem.W.Frag) (Hs : Hp) (is : List Nat) (ρ : Env) (σ : L2.St) : Prop := ρ.length ≤ σ.length ∧ ∀ (i : Nat) (d : D), ρ[i]? = some (some d) → i ∈ is ∨ ∃ v, σ[i]? = some (some v) ∧ Rep K Hs d v
section
variable {K : PySem.W.Frag} {Hs H : Hp} {ρ ρ' : Env} {σ : L2.St}
theorem ERelX.set {is : List Nat} {i : Nat} {d : D} {v : V} (h : ERelX K Hs (i :: is) ρ σ) (r : Rep K Hs d v) : ERelX K Hs is (ρ.set i (some d)) (σ.set i (some v)) := by
  refine ⟨by simpa using h.1, fun j e q => ?_⟩
  by_cases hj : j = i
  · subst hj
    have hl : j < ρ.length := by
      have := (List.getElem?_eq_some_iff.mp q).1
      simpa using this
    rw [List.getElem?_set_self hl] at q
    cases q
    exact .inr ⟨v, List.getElem?_set_self (Nat.lt_of_lt_of_le hl h.1), r⟩
  · rw [List.getElem?_set_ne (Ne.symm hj)] at q
    rcases h.2 j e q with z | ⟨v, a, b⟩
    · rcases List.mem_cons.mp z with z | z
      · exact absurd z hj
      · exact .inl z
    · exact .inr ⟨v, by rw [List.getElem?_set_ne (Ne.symm hj)]; exact a, b⟩
theorem ERelX.nil (h : ERelX K Hs [] ρ σ) : ERel K Hs ρ σ := ⟨h.1, fun i d q => (h.2 i d q).resolve_left (by simp)⟩
theorem names_run : ∀ {is : List Nat} {ds : List D} {vs : List V} {ρ : Env} {σ : L2.St} {Q : L2.St → Hp → Prop}, setAll is ds ρ = some ρ' → Reps K Hs ds vs → ERelX K Hs is ρ σ → (∀ σ', ERel K Hs ρ' σ' → (∃ us : List V, σ' = (is.zip us).foldl (fun s p => s.set p.1 (some p.2)) σ) → Q σ' H) → gNames is vs σ H Q
  | [], [], _, ρ, σ, Q, h, .nil, hr, k => by
    have e : ρ = ρ' := Option.some.inj h
    subst e
    exact ⟨rfl, k σ hr.nil ⟨[], rfl⟩⟩
  | i :: is, d :: ds, _, ρ, σ, Q, h, .cons (v := v) (vs := vs) r t, hr, k => by
    refine ⟨v, vs, rfl, ?_⟩
    show gNames is vs (σ.set i (some v)) H Q
    refine names_run (ρ := ρ.set i (some d)) h t (hr.set r) fun σ' h1 ⟨us, h2⟩ => k σ' h1 ⟨v :: us, h2⟩
  | [], _ :: _, _, _, _, _, h, _, _, _ => by cases h
  | _ :: _, [], _, _, _, _, h, _, _, _ => by cases h
theorem setAll_len : ∀ {is : List Nat} {ds : List D} {ρ : Env}, setAll is ds ρ = some ρ' → is.length = ds.length ∧ ρ'.length = ρ.length
  | [], [], ρ, h => by
    have e : ρ = ρ' := Option.some.inj h
    subst e
    exact ⟨rfl, rfl⟩
  | i :: is, d :: ds, ρ, h => by
    have := setAll_len (is := is) (ds := ds) (ρ := ρ.set i (some d)) h
    simp only [List.length_set] at this
    exact ⟨congrArg (· + 1) this.1, this.2⟩
  | [], _ :: _, _, h => by cases h
  | _ :: _, [], _, h => by cases h
theorem tgt_run {t : Tgt} {d : D} {v : V} {Q : L2.St → Hp → Prop} (h : t.bind d ρ = .ok ρ') (r : Rep K Hs d v) (he : Ex Hs H) (hr : ERelX K Hs t.ixs ρ σ) (k : ∀ σ', ERel K Hs ρ' σ' → (∃ us : List V, σ' = (t.ixs.zip us).foldl (fun s p => s.set p.1 (some p.2)) σ) → Q σ' H) : gOf K t v σ H Q := by
  cases t with
  | nm i =>
    have e : ρ.set i (some d) = ρ' := R.ok.inj h
    subst e
    exact k _ (hr.set r).nil ⟨[v], rfl⟩
  | tp is =>
    cases d with
    | tup ds =>
      have h : (match setAll is ds ρ with | some ρ' => R.ok ρ' | none => .stuck) = .ok ρ' := h
      cases q : setAll is ds ρ with
      | none => rw [q] at h; cases h
      | some ρ2 =>
        rw [q] at h
        cases h
        obtain ⟨p, vs, rfl, e1, r1⟩ := r.tupI
        exact ⟨p, vs, rfl, SqT.of (he _ _ e1), by rw [← r1.length, (setAll_len q).1], names_run q r1 hr k⟩
    | _ => cases h
end

structure Walk (K : PySem.W.Frag) (J : L2.It) (Hs : Hp) (ds : List D) : Prop where
  go : ∀ i H, Ex Hs H → i < ds.length → J.go i H
  yld : ∀ i Ht H x H' d, Ex Hs Ht → Ex Ht H → ds[i]? = some d → J.yld i H x H' → ∃ Hi, Le Ht H Hi H' ∧ Rep K Hi d x
  stop : ∀ i H, Ex Hs H → ds.length ≤ i → J.stop i H
section
variable {K : PySem.W.Frag} {Hs H : Hp}
theorem Walk.mono {J : L2.It} {ds : List D} {Ht : Hp} (w : Walk K J Hs ds) (e : Ex Hs Ht) : Walk K J Ht ds :=
  ⟨fun i H h => w.go i H (e.trans h), fun i Hu H x H' d h1 h2 => w.yld i Hu H x H' d (e.trans h1) h2, fun i H h => w.stop i H (e.trans h)⟩
theorem walk_lst {a : Addr} {vs : List V} {ds : List D} (h : Hs a = some (.lst vs)) (r : Reps K Hs ds vs) : Walk K (Itl K a) Hs ds := by
  refine ⟨fun i H e hi => ?_, fun i Ht H x H' d e1 e2 hd ⟨e, y⟩ => ?_, fun i H e hi => ⟨vs, SqL.of (e _ _ h), by rw [← r.length]; exact hi⟩⟩
  · have : i < vs.length := by rw [← r.length]; exact hi
    exact ⟨vs, vs[i], SqL.of (e _ _ h), List.getElem?_eq_getElem this⟩
  · subst e
    obtain ⟨v, q, rv⟩ := r.get hd
    have := y vs (SqL.of (e2 _ _ (e1 _ _ h)))
    rw [q] at this
    cases this
    exact ⟨Ht, Le.refl e2, rv.mono e1⟩
theorem walk_tup {a : Addr} {vs : List V} {ds : List D} (h : Hs a = some (.tup vs)) (r : Reps K Hs ds vs) : Walk K (Itt K a) Hs ds := by
  refine ⟨fun i H e hi => ?_, fun i Ht H x H' d e1 e2 hd ⟨e, y⟩ => ?_, fun i H e hi => ⟨vs, SqT.of (e _ _ h), by rw [← r.length]; exact hi⟩⟩
  · have : i < vs.length := by rw [← r.length]; exact hi
    exact ⟨vs, vs[i], SqT.of (e _ _ h), List.getElem?_eq_getElem this⟩
  · subst e
    obtain ⟨v, q, rv⟩ := r.get hd
    have := y vs (SqT.of (e2 _ _ (e1 _ _ h)))
    rw [q] at this
    cases this
    exact ⟨Ht, Le.refl e2, rv.mono e1⟩
theorem KeyAt.rep {k : NKey} {a : Addr} (h : KeyAt Hs k a) : Rep K Hs (.tup [.int k.1, .tup [.int k.2.1, .int k.2.2]]) (.ref a) :=
  let ⟨_, h1, h2⟩ := h
  .tup h1 (.cons (.int _) (.cons (.tup h2 (.cons (.int _) (.cons (.int _) .nil))) .nil))
theorem walk_dkt {a : Addr} {o : Obj} {xs : List KEnt} {zs : List (NKey × Option Int)} (h : Hs a = some (dko a o)) (r : DkR Hs zs xs) : Walk K (Itn a o xs) Hs (zs.map fun z => .tup [.int z.1.1, .tup [.int z.1.2.1, .int z.1.2.2]]) := by
  refine ⟨fun i H e hi => ⟨e _ _ h, by rw [List.length_map, r.len] at hi; exact hi⟩, fun i Ht H x H' d e1 e2 hd ⟨e, u, y, ex⟩ => ?_, fun i H e hi => ⟨e _ _ h, by rw [List.length_map, r.len] at hi; exact hi⟩⟩
  subst e ex
  rw [List.getElem?_map] at hd
  cases q : zs[i]? with
  | none => rw [q] at hd; cases hd
  | some z =>
    rw [q] at hd
    cases hd
    obtain ⟨b, hb, k1, k2, _⟩ := paired_get r q
    rw [y] at hb
    cases hb
    have k2 : KeyAt Hs z.1 u.2.1 := by rw [show z.1 = u.1 from k1]; exact k2
    exact ⟨Ht, Le.refl e2, (KeyAt.rep k2).mono e1⟩
theorem walk_scr {a : Addr} {ns : List Int} (h : ∀ H, Ex Hs H → SqL K H a (ns.map V.int)) : Walk K (Itl K a) Hs (ns.map D.int) := by
  refine ⟨fun i H e hi => ?_, fun i Ht H x H' d e1 e2 hd ⟨e, y⟩ => ?_, fun i H e hi => ⟨_, h H e, by simpa using hi⟩⟩
  · have hi' : i < (ns.map V.int).length := by simpa using hi
    exact ⟨_, (ns.map V.int)[i], h H e, List.getElem?_eq_getElem hi'⟩
  · subst e
    have := y _ (h _ (e1.trans e2))
    rw [List.getElem?_map] at this hd
    cases q : ns[i]? with
    | none => rw [q] at hd; cases hd
    | some n =>
      rw [q] at hd this
      cases hd
      cases this
      exact ⟨Ht, Le.refl e2, .int _⟩
theorem walk_str (x : Str) : Walk K (Its x) Hs (x.cps.toList.map fun c => D.str ⟨#[c]⟩) := by
  refine ⟨fun i H e hi => show i < x.cps.size by simpa using hi, fun i Ht H y H' d e1 e2 hd ⟨e, c, h1, h2⟩ => ?_, fun i H e hi => show x.cps.size ≤ i by simpa using hi⟩
  subst e
  subst h2
  rw [List.getElem?_map, Array.getElem?_toList, h1] at hd
  cases hd
  exact ⟨Ht, Le.refl e2, .str _⟩
theorem walk_rng (lo : Int) (n : Nat) : Walk K (Itr lo n) Hs ((List.range n).map fun i => D.int (lo + (i : Nat))) := by
  refine ⟨fun i H e hi => show i < n by simpa using hi, fun i Ht H y H' d e1 e2 hd ⟨e, h2⟩ => ?_, fun i H e hi => show n ≤ i by simpa using hi⟩
  subst e
  subst h2
  rw [List.getElem?_map] at hd
  cases q : (List.range n)[i]? with
  | none => rw [q] at hd; cases hd
  | some j =>
    rw [q] at hd
    cases hd
    obtain ⟨h1, h2⟩ := List.getElem?_eq_some_iff.mp q
    rw [List.getElem_range] at h2
    subst h2
    exact ⟨Ht, Le.refl e2, .int _⟩
theorem walk_rngC (lo c : Int) (n : Nat) : Walk K (Itc lo c n) Hs ((List.range n).map fun i => D.int (lo + (i : Nat) * c)) := by
  refine ⟨fun i H e hi => show i < n by simpa using hi, fun i Ht H y H' d e1 e2 hd ⟨e, h2⟩ => ?_, fun i H e hi => show n ≤ i by simpa using hi⟩
  subst e
  subst h2
  rw [List.getElem?_map] at hd
  cases q : (List.range n)[i]? with
  | none => rw [q] at hd; cases hd
  | some j =>
    rw [q] at hd
    cases hd
    obtain ⟨h1, h2⟩ := List.getElem?_eq_some_iff.mp q
    rw [List.getElem_range] at h2
    subst h2
    exact ⟨Ht, Le.refl e2, .int _⟩
theorem walk_zipM {a b : Addr} {vs ws : List V} {ds es : List D} (h : Hs a = some (.tup vs)) (h2 : Hs b = some (.lst ws)) (r : Reps K Hs ds vs) (r2 : Reps K Hs es ws) : Walk K (ItzM K a b vs.length ws.length) Hs (ds.zipWith (fun x y => D.tup [x, y]) es) := by
  have l1 := r.length
  have l2 := r2.length
  constructor
  · intro i H e hi
    rw [List.length_zipWith] at hi
    exact ⟨vs, ws, ⟨SqT.of (e _ _ h), SqL.of (e _ _ h2)⟩, ⟨rfl, rfl⟩, by omega, by omega⟩
  · rintro i Ht H x H' d e1 e2 hd ⟨T, x1, x2, ⟨rfl, hn, rfl⟩, y1, y2⟩
    obtain ⟨d1, d2, q1, q2, rfl⟩ : ∃ d1 d2, ds[i]? = some d1 ∧ es[i]? = some d2 ∧ d = D.tup [d1, d2] := by
      rw [List.getElem?_zipWith] at hd
      cases q1 : ds[i]? with
      | none => rw [q1] at hd; cases hd
      | some d1 =>
        cases q2 : es[i]? with
        | none => rw [q1, q2] at hd; cases hd
        | some d2 =>
          rw [q1, q2] at hd
          exact ⟨d1, d2, rfl, rfl, (Option.some.inj hd).symm⟩
    obtain ⟨v1, p1, s1⟩ := r.get q1
    obtain ⟨v2, p2, s2⟩ := r2.get q2
    have z1 : x1 = v1 := Option.some.inj ((y1 vs (SqT.of (e2 _ _ (e1 _ _ h)))).symm.trans p1)
    have z2 : x2 = v2 := Option.some.inj ((y2 ws (SqL.of (e2 _ _ (e1 _ _ h2)))).symm.trans p2)
    subst z1
    subst z2
    exact ⟨_, Le.new1 e2 hn, mk_tup e2 (.cons (s1.mono e1) (.cons (s2.mono e1) .nil)) hn⟩
  · intro i H e hi
    rw [List.length_zipWith] at hi
    exact ⟨vs, ws, ⟨SqT.of (e _ _ h), SqL.of (e _ _ h2)⟩, ⟨rfl, rfl⟩, by omega⟩
theorem walk_zipS {x : Str} {b : Addr} {ws : List V} {es : List D} (h2 : Hs b = some (.lst ws)) (r2 : Reps K Hs es ws) : Walk K (ItzS K x b ws.length) Hs ((x.cps.toList.map fun c => D.str ⟨#[c]⟩).zipWith (fun x y => D.tup [x, y]) es) := by
  have l1 : (x.cps.toList.map fun c => D.str ⟨#[c]⟩).length = x.cps.size := by simp
  have l2 := r2.length
  constructor
  · intro i H e hi
    rw [List.length_zipWith] at hi
    exact ⟨ws, SqL.of (e _ _ h2), rfl, by omega, by omega⟩
  · rintro i Ht H v H' d e1 e2 hd ⟨T, c, x2, ⟨rfl, hn, rfl⟩, y1, y2⟩
    obtain ⟨d1, d2, q1, q2, rfl⟩ : ∃ d1 d2, (x.cps.toList.map fun c => D.str ⟨#[c]⟩)[i]? = some d1 ∧ es[i]? = some d2 ∧ d = D.tup [d1, d2] := by
      rw [List.getElem?_zipWith] at hd
      cases q1 : (x.cps.toList.map fun c => D.str ⟨#[c]⟩)[i]? with
      | none => rw [q1] at hd; cases hd
      | some d1 =>
        cases q2 : es[i]? with
        | none => rw [q1, q2] at hd; cases hd
        | some d2 =>
          rw [q1, q2] at hd
          exact ⟨d1, d2, rfl, rfl, (Option.some.inj hd).symm⟩
    obtain ⟨v2, p2, s2⟩ := r2.get q2
    have z1 : d1 = .str ⟨#[c]⟩ := by
      rw [List.getElem?_map, Array.getElem?_toList, y1] at q1
      exact (Option.some.inj q1).symm
    have z2 : x2 = v2 := Option.some.inj ((y2 ws (SqL.of (e2 _ _ (e1 _ _ h2)))).symm.trans p2)
    subst z1
    subst z2
    exact ⟨_, Le.new1 e2 hn, mk_tup e2 (.cons (.str _) (.cons (s2.mono e1) .nil)) hn⟩
  · intro i H e hi
    rw [List.length_zipWith] at hi
    exact ⟨ws, SqL.of (e _ _ h2), rfl, by omega⟩
theorem walk_zip {a b : Addr} {vs ws : List V} {ds es : List D} (h : Hs a = some (.lst vs)) (r : Reps K Hs ds vs) (h2 : Hs b = some (.lst ws)) (r2 : Reps K Hs es ws) : Walk K (Itz K a b) Hs (ds.zipWith (fun x y => D.tup [x, y]) es) := by
  refine ⟨fun i H e hi => ?_, fun i Ht H x H' d e1 e2 hd ⟨T, x1, x2, hx, hn, hH, y1, y2⟩ => ?_, fun i H e hi => ⟨vs, ws, SqL.of (e _ _ h), SqL.of (e _ _ h2), ?_⟩⟩
  · rw [List.length_zipWith] at hi
    have l1 : i < vs.length := by rw [← r.length]; omega
    have l2 : i < ws.length := by rw [← r2.length]; omega
    exact ⟨vs, ws, vs[i], ws[i], SqL.of (e _ _ h), SqL.of (e _ _ h2), List.getElem?_eq_getElem l1, List.getElem?_eq_getElem l2⟩
  · subst hx
    subst hH
    rw [List.getElem?_zipWith] at hd
    cases q1 : ds[i]? with
    | none => rw [q1] at hd; cases hd
    | some d1 =>
      cases q2 : es[i]? with
      | none => rw [q1, q2] at hd; cases hd
      | some d2 =>
        rw [q1, q2] at hd
        cases hd
        obtain ⟨v1, p1, rv1⟩ := r.get q1
        obtain ⟨v2, p2, rv2⟩ := r2.get q2
        have z1 := y1 vs (SqL.of (e2 _ _ (e1 _ _ h)))
        have z2 := y2 ws (SqL.of (e2 _ _ (e1 _ _ h2)))
        rw [p1] at z1
        rw [p2] at z2
        cases z1
        cases z2
        exact ⟨_, Le.new1 e2 hn, mk_tup e2 (.cons (rv1.mono e1) (.cons (rv2.mono e1) .nil)) hn⟩
  · rw [List.length_zipWith] at hi
    rw [← r.length, ← r2.length]
    omega
end
def iD (K : PySem.W.Frag) (mg : Str → Option Value) (W : WX) (f : Env → R (List D)) : TI := fun σ H R =>
  ∃ (ρ : Env) (Hs : Hp), Ex Hs H ∧ ERel K Hs ρ σ ∧ Pst (fun Hi ds J => Walk K J Hi ds) K mg Hs H (f ρ) R (fun c d H' => W c d σ H')
abbrev SI (X : Cx) (W : WX) (tg e : Expr) (f : Env → R (List D)) : Prop := PI X tg e (iD X.K X.mg W f)
section
variable {X : Cx} {W : WX} {e a b tg : Expr} {es : List Expr} {pos : Pos} {fa fb : Env → R D} {fs : Env → R (List D)}
theorem PI.imp {t u : TI} (h : PI X tg e t) (f : ∀ σ H Q, u σ H Q → t σ H Q) : PI X tg e u := ⟨fun pins s σ H Q I q => h.run pins s σ H Q I (f σ H Q q)⟩
theorem si_val (ha : SE X W a fa) : SI X W tg a (fun ρ => do
    let x ← fa ρ
    D.items x) := by
  refine ⟨fun pins s σ H Q I h => ?_⟩
  obtain ⟨ρ, Hs, he, hr, hp⟩ := h
  cases q : fa ρ with
  | stuck => simp only [q] at hp; exact hp.elim
  | exc x =>
    exact (pi_list (tg := tg) ha).run pins s σ H Q I ⟨ρ, Hs, he, hr, by simp only [q] at hp ⊢; exact hp⟩
  | ok d =>
    cases d with
    | lst xs =>
      refine (pi_list (tg := tg) ha).run pins s σ H Q I ⟨ρ, Hs, he, hr, hp.bind fun d e v Hi H1 l rv hp1 => ?_⟩
      rw [q] at e
      cases e
      obtain ⟨p, vs, rfl, e1, r1⟩ := rv.lstI
      exact ⟨p, rfl, ⟨vs, SqL.of (l.sub _ _ e1)⟩, Pst.now (d := xs) hp1 l.sub (walk_lst e1 r1)⟩
    | tup xs =>
      refine (pi_tup (tg := tg) ha).run pins s σ H Q I ⟨ρ, Hs, he, hr, hp.bind fun d e v Hi H1 l rv hp1 => ?_⟩
      rw [q] at e
      cases e
      obtain ⟨p, vs, rfl, e1, r1⟩ := rv.tupI
      exact ⟨p, rfl, ⟨vs, SqT.of (l.sub _ _ e1)⟩, Pst.now (d := xs) hp1 l.sub (walk_tup e1 r1)⟩
    | scr ns =>
      refine (pi_list (tg := tg) ha).run pins s σ H Q I ⟨ρ, Hs, he, hr, hp.bind fun d e v Hi H1 l rv hp1 => ?_⟩
      rw [q] at e
      cases e
      obtain ⟨p, rfl, s1⟩ := (rv.mono l.sub).scrI
      refine ⟨p, rfl, ⟨_, s1⟩, Pst.now (d := ns.map D.int) hp1 l.sub (walk_scr fun H' e' => ?_)⟩
      obtain ⟨p', ep, s2⟩ := (rv.mono e').scrI
      cases ep
      exact s2
    | str x =>
      refine (pi_str (tg := tg) ha).run pins s σ H Q I ⟨ρ, Hs, he, hr, hp.bind fun d e v Hi H1 l rv hp1 => ?_⟩
      rw [q] at e
      cases e
      exact ⟨x, rv.strI, Pst.now (d := x.cps.toList.map fun c => D.str ⟨#[c]⟩) hp1 l.sub (walk_str x)⟩
    | dkt zs =>
      refine (pi_keysN (tg := tg) ha).run pins s σ H Q I ⟨ρ, Hs, he, hr, hp.bind fun d e v Hi H1 l rv hp1 => ?_⟩
      rw [q] at e
      cases e
      obtain ⟨p, o, xs, rfl, e1, DD, r1⟩ := rv.dktI
      exact ⟨p, o, xs, rfl, l.sub _ _ e1, DD, Pst.now (d := zs.map fun z => D.tup [.int z.1.1, .tup [.int z.1.2.1, .int z.1.2.2]]) hp1 l.sub (walk_dkt e1 r1)⟩
    | _ => simp only [q] at hp; exact hp.elim
theorem rng_items {lo hi : Int} {l : List D} (h : rangeD lo hi = .ok l) : (-(2 ^ 62) ≤ lo ∧ lo < 2 ^ 62 ∧ -(2 ^ 62) ≤ hi ∧ hi < 2 ^ 62) ∧ l = (List.range (hi - lo).toNat).map fun i => D.int (lo + (i : Nat)) := by
  unfold rangeD at h
  split at h
  · cases h
    exact ⟨by omega, rfl⟩
  · cases h
theorem rangeOf_cases (ds : List D) : (∃ n, ds = [.int n]) ∨ (∃ a b, ds = [.int a, .int b]) ∨ D.rangeOf ds = .stuck := by
  unfold D.rangeOf
  split
  · exact .inl ⟨_, rfl⟩
  · exact .inr (.inl ⟨_, _, rfl⟩)
  · exact .inr (.inr rfl)
theorem rangeD_cases (lo hi : Int) : (∃ l, rangeD lo hi = .ok l) ∨ rangeD lo hi = .stuck := by
  unfold rangeD
  split
  · exact .inl ⟨_, rfl⟩
  · exact .inr rfl
theorem si_range1 {p : Pos} (hg : glOk X.env.scope "range" = true) (hm : X.mg "range" = none) (hpl : plain a = true) (hs : SA X W [a] fs) (hl : ∀ ρ ds, fs ρ = .ok ds → ds.length = 1) : SI X W tg (.Call (.Name "range" p) [a] [] pos) (fun ρ => do
    let xs ← fs ρ
    D.rangeOf xs) := by
  obtain ⟨g1, g2, g3⟩ := gl_of hg
  refine PI.imp (pi_range1 g1 hm hs (star_cons hpl)) fun σ H Q ⟨ρ, Hs, he, hr, hp⟩ => ⟨ρ, Hs, he, hr, hp.bind fun ds eds vs Hi H1 l rv hp1 => ?_⟩
  rcases rangeOf_cases ds with ⟨n, rfl⟩ | ⟨a, b, rfl⟩ | e
  · cases rv with
    | cons r1 t =>
      cases t
      have hp1 : Pst _ X.K X.mg Hi H1 (rangeD 0 n) Q _ := hp1
      rcases rangeD_cases 0 n with ⟨l2, q⟩ | q
      · rw [q] at hp1
        obtain ⟨⟨b1, b2, b3, b4⟩, rfl⟩ := rng_items q
        refine ⟨n, by rw [r1.intI], b3, b4, hp1.now l.sub ?_⟩
        have := walk_rng (K := X.K) (Hs := Hi) 0 n.toNat
        simpa using this
      · rw [q] at hp1
        exact hp1.elim
  · exact absurd (hl ρ _ eds) (by simp)
  · rw [e] at hp1
    exact hp1.elim
theorem si_range2 {p : Pos} (hg : glOk X.env.scope "range" = true) (hm : X.mg "range" = none) (hpl : plain a = true) (hpl2 : plain b = true) (hs : SA X W [a, b] fs) (hl : ∀ ρ ds, fs ρ = .ok ds → ds.length = 2) : SI X W tg (.Call (.Name "range" p) [a, b] [] pos) (fun ρ => do
    let xs ← fs ρ
    D.rangeOf xs) := by
  obtain ⟨g1, g2, g3⟩ := gl_of hg
  refine PI.imp (pi_range2 g1 hm hs (by rw [star_cons hpl, star_cons hpl2]; rfl) (by rw [star_cons hpl2]; rfl)) fun σ H Q ⟨ρ, Hs, he, hr, hp⟩ => ⟨ρ, Hs, he, hr, hp.bind fun ds eds vs Hi H1 l rv hp1 => ?_⟩
  rcases rangeOf_cases ds with ⟨n, rfl⟩ | ⟨a, b, rfl⟩ | e
  · exact absurd (hl ρ _ eds) (by simp)
  · cases rv with
    | cons r1 t =>
      cases t with
      | cons r2 t =>
        cases t
        have hp1 : Pst _ X.K X.mg Hi H1 (rangeD a b) Q _ := hp1
        rcases rangeD_cases a b with ⟨l2, q⟩ | q
        · rw [q] at hp1
          obtain ⟨bb, rfl⟩ := rng_items q
          exact ⟨a, b, by rw [r1.intI, r2.intI], bb, hp1.now l.sub (walk_rng _ _)⟩
        · rw [q] at hp1
          exact hp1.elim
  · rw [e] at hp1
    exact hp1.elim
theorem range3_cases (ds : List D) : (∃ (i j c : Int) (n : Nat), ds = [.int i, .int j, .int c] ∧ RgC i j c n ∧ D.range3 ds = .ok ((List.range n).map fun k => .int (i + (k : Nat) * c))) ∨ D.range3 ds = .stuck := by
  unfold D.range3
  split
  · rename_i i j c
    by_cases h : c ≠ 0 ∧ c.natAbs < 1073741824 ∧ Builtin.Range.small i j c = true ∧ 0 ≤ Builtin.Range.rangeSize i j c
    · exact .inl ⟨i, j, c, (Builtin.Range.rangeSize i j c).toNat, rfl, ⟨h.1, h.2.1, h.2.2.1, (Int.toNat_of_nonneg h.2.2.2).symm⟩, by rw [if_pos h]⟩
    · exact .inr (by rw [if_neg h])
  · exact .inr rfl
theorem si_range3 {c : Expr} {p : Pos} (hg : glOk X.env.scope "range" = true) (hm : X.mg "range" = none) (hpl : ∀ x ∈ [a, b, c], plain x = true) (hs : SA X W [a, b, c] fs) : SI X W tg (.Call (.Name "range" p) [a, b, c] [] pos) (fun ρ => do
    let xs ← fs ρ
    D.range3 xs) := by
  obtain ⟨g1, g2, g3⟩ := gl_of hg
  refine PI.imp (pi_range3 g1 hm hs (star_cons (hpl a (by simp))) (star_any fun x hx => hpl x (List.mem_cons_of_mem a hx))) fun σ H Q ⟨ρ, Hs, he, hr, hp⟩ => ⟨ρ, Hs, he, hr, hp.bind fun ds eds vs Hi H1 l rv hp1 => ?_⟩
  rcases range3_cases ds with ⟨i, j, k, n, rfl, h1, h2⟩ | e
  · rw [h2] at hp1
    cases rv with
    | cons r1 t =>
      cases t with
      | cons r2 t =>
        cases t with
        | cons r3 t =>
          cases t
          exact ⟨i, j, k, n, by rw [r1.intI, r2.intI, r3.intI], h1, hp1.now l.sub (walk_rngC _ _ _)⟩
  · rw [e] at hp1
    exact hp1.elim
theorem si_zip {p : Pos} {ks : List Expr} {kk : Nat} {tp : Pos} (hg : glOk X.env.scope "zip" = true) (hm : X.mg "zip" = none) (hpl : plain a = true) (hpl2 : plain b = true) (ha : SE X W a fa) (hb : SE X W b fb) : SI X W (.Tuple ks kk tp) (.Call (.Name "zip" p) [a, b] [] pos) (fun ρ => do
    let x ← fa ρ
    let y ← fb ρ
    D.zipOf x y) := by
  obtain ⟨g1, g2, g3⟩ := gl_of hg
  refine PI.imp (zm_pi g1 hm (pa_cons ha (pa_cons hb pa_nil (star_cons hpl2)) (star_cons hpl)) (star_cons hpl) (star_any fun x hx => by
    have e : x = b := by simpa using hx
    rw [e]; exact hpl2)) fun σ H Q ⟨ρ, Hs, he, hr, hp⟩ => ⟨ρ, Hs, he, hr, hp.bind fun d _ v Hi H1 l rv hp1 => ⟨ρ, Hi, l.sub, hr.mono l.old, hp1.bind fun d2 _ v2 Hj H2 l2 rv2 hp2 => ?_⟩⟩
  cases d with
  | lst xs =>
    cases d2 with
    | lst ys =>
      obtain ⟨p1, vs, rfl, e1, r1⟩ := (rv.mono l2.old).lstI
      obtain ⟨p2, ws, rfl, e2, r2⟩ := rv2.lstI
      exact .inl ⟨p1, p2, vs, ws, rfl, SqL.of (l2.sub _ _ e2), .inr ⟨SqL.of (l2.sub _ _ e1), hp2.now l2.sub (walk_zip e1 r1 e2 r2)⟩⟩
    | _ => exact hp2.elim
  | tup xs =>
    cases d2 with
    | lst ys =>
      obtain ⟨p1, vs, rfl, e1, r1⟩ := (rv.mono l2.old).tupI
      obtain ⟨p2, ws, rfl, e2, r2⟩ := rv2.lstI
      exact .inl ⟨p1, p2, vs, ws, rfl, SqL.of (l2.sub _ _ e2), .inl ⟨SqT.of (l2.sub _ _ e1), hp2.now l2.sub (walk_zipM e1 e2 r1 r2)⟩⟩
    | _ => exact hp2.elim
  | str x =>
    cases d2 with
    | lst ys =>
      obtain ⟨p2, ws, rfl, e2, r2⟩ := rv2.lstI
      exact .inr ⟨x, p2, ws, by rw [rv.strI], SqL.of (l2.sub _ _ e2), hp2.now l2.sub (walk_zipS e2 r2)⟩
    | _ => exact hp2.elim
  | _ => exact hp2.elim
/-- list(range(..)) -/
theorem rgV_rep {K : PySem.W.Frag} {H : Hp} (lo hi : Int) : Reps K H ((List.range (hi - lo).toNat).map fun i => D.int (lo + (i : Nat))) (rgV lo hi) := by
  unfold rgV
  have : ∀ l : List Nat, Reps K H (l.map fun i => D.int (lo + (i : Nat))) (l.map fun i => V.int (lo + (i : Nat))) := fun l => by
    induction l with
    | nil => exact .nil
    | cons a l ih => exact .cons (.int _) ih
  exact this _
theorem se_lrange1 {p p2 q2 : Pos} (hc : X.calm = true) (hgl : glOk X.env.scope "list" = true) (hml : X.mg "list" = none) (hg : glOk X.env.scope "range" = true) (hm : X.mg "range" = none) (hpl : plain a = true) (ha : SE X W a fa) :
    SE X W (.Call (.Name "list" p2) [.Call (.Name "range" p) [a] [] q2] [] pos) (fun ρ => do
    let x ← fa ρ
    let l ← D.rangeOf [x]
    if l.length ≤ 16777216 then .ok (.lst l) else .stuck) := by
  obtain ⟨g1, g2, g3⟩ := gl_of hg
  obtain ⟨k1, k2, k3⟩ := gl_of hgl
  refine PE.imp (pe_listRg hc k1 hml (prg_1 g1 hm ha (star_cons hpl))) fun σ H Q ⟨ρ, Hs, he, hr, hp⟩ => ⟨ρ, Hs, he, hr, hp.bind fun d _ v Hi H1 l rv hp1 => ?_⟩
  cases d with
  | int n =>
    have hp1 : PstD X.K X.mg Hi H1 (rangeD 0 n >>= fun l => if l.length ≤ 16777216 then .ok (.lst l) else .stuck) Q _ := hp1
    rcases rangeD_cases 0 n with ⟨l2, q⟩ | q
    · rw [q] at hp1
      obtain ⟨⟨b1, b2, b3, b4⟩, rfl⟩ := rng_items q
      simp only [R.bind_ok] at hp1
      split at hp1
      · refine ⟨n, rv.intI, ⟨b1, b2, b3, b4, ?_⟩, fun t hn => hp1 _ _ _ (Le.new1 l.sub hn) (mk_lst l.sub (rgV_rep 0 n) hn)⟩
        have : ((List.range (n - 0).toNat).map fun i => D.int (0 + (i : Nat))).length ≤ 16777216 := by assumption
        simpa using this
      · exact hp1.elim
    · rw [q] at hp1
      exact hp1.elim
  | _ => exact hp1.elim
theorem se_lrange2 {p p2 q2 : Pos} (hc : X.calm = true) (hgl : glOk X.env.scope "list" = true) (hml : X.mg "list" = none) (hg : glOk X.env.scope "range" = true) (hm : X.mg "range" = none) (hpl : plain a = true) (hpl2 : plain b = true) (ha : SE X W a fa) (hb : SE X W b fb) :
    SE X W (.Call (.Name "list" p2) [.Call (.Name "range" p) [a, b] [] q2] [] pos) (fun ρ => do
    let x ← fa ρ
    let y ← fb ρ
    let l ← D.rangeOf [x, y]
    if l.length ≤ 16777216 then .ok (.lst l) else .stuck) := by
  obtain ⟨g1, g2, g3⟩ := gl_of hg
  obtain ⟨k1, k2, k3⟩ := gl_of hgl
  refine PE.imp (pe_listRg hc k1 hml (prg_2 g1 hm ha hb (star_cons hpl) (star_cons hpl2) (star_any fun x hx => by
    have e : x = b := by simpa using hx
    rw [e]; exact hpl2))) fun σ H Q ⟨ρ, Hs, he, hr, hp⟩ => ⟨ρ, Hs, he, hr, hp.bind fun d _ v Hi H1 l rv hp1 => ⟨ρ, Hi, l.sub, hr.mono l.old, hp1.bind fun d2 _ v2 Hj H2 l2 rv2 hp2 => ?_⟩⟩
  cases d with
  | int m =>
    cases d2 with
    | int n =>
      have hp2 : PstD X.K X.mg Hj H2 (rangeD m n >>= fun l => if l.length ≤ 16777216 then .ok (.lst l) else .stuck) Q _ := hp2
      rcases rangeD_cases m n with ⟨l3, q⟩ | q
      · rw [q] at hp2
        obtain ⟨⟨b1, b2, b3, b4⟩, rfl⟩ := rng_items q
        simp only [R.bind_ok] at hp2
        split at hp2
        · refine ⟨m, n, rv.intI, rv2.intI, ⟨b1, b2, b3, b4, ?_⟩, fun t hn => hp2 _ _ _ (Le.new1 l2.sub hn) (mk_lst l2.sub (rgV_rep m n) hn)⟩
          have : ((List.range (n - m).toNat).map fun i => D.int (m + (i : Nat))).length ≤ 16777216 := by assumption
          simpa using this
        · exact hp2.elim
      · rw [q] at hp2
        exact hp2.elim
    | _ => exact hp2.elim
  | _ => cases d2 <;> exact hp2.elim
def kFtup (K : PySem.W.Frag) (x : V) (H : Hp) (Q : VK) : Prop := ∃ p xs, x = V.ref p ∧ SqL K H p xs ∧ ∀ q o, o.cls = Value.type "tuple" → o.dict = none → H q = none → Q (.ref q) (upd H q (.frz o (.tup xs)))
theorem pe_ftup {ta : TE} {p : Pos} (hg : Gl X "tuple") (hm : X.mg "tuple" = none) (ha : PE X a ta) (na : starEach [a] X.env = (false, eval a X.env) :: starEach [] X.env) : PE X (.Call (.Name "tuple" p) [a] [] pos) (tThen ta (kFtup X.K)) := by
  refine ⟨fun pins s σ H Q I h => ?_⟩
  refine Call_ (ld_blt I hg hm PyProof.Rows.boot_tuple (PyProof.Rows.callWith_type1 (one_arg ha I h (fun v s2 x H2 I2 r q => ?_) na) na))
  obtain ⟨p, xs, rfl, hs, q⟩ := q
  obtain rfl : v = .ref p := r
  obtain ⟨its, rv, pl, hz⟩ := I2.list hs
  refine call_tuple_list pl.isList (fun h' hk => ?_) (by rw [List.size_toArray, ← rv.length]; exact hz)
  have I3 : Inv X pins σ H2 { s2 with heap := h' } := I2.kept (t' := s2.toks) hk
  have hn := I3.hok.fresh (Nat.le_refl _)
  have I4 : Inv X pins σ (upd H2 h'.objs.size (.frz { cls := .type "tuple", data := .seq its.toArray } (.tup xs))) { s2 with heap := h'.push { cls := .type "tuple", data := .seq its.toArray } } :=
    I3.laid (t' := s2.toks) (fun b o e => Heap.get?_push_of_some _ e) (Nat.le_refl _) (show ObjOk X.prog X.w _ _ _ (.frz { cls := .type "tuple", data := .seq its.toArray } (.tup xs)) from ⟨Heap.get?_push_size _ rfl, hz, its, rv, IsTup.new _ _⟩)
  exact ⟨.ref h'.objs.size, _, I4, rfl, q _ _ rfl rfl hn⟩
theorem se_ftup {p : Pos} (hg : glOk X.env.scope "tuple" = true) (hm : X.mg "tuple" = none) (hpl : plain a = true) (ha : SE X W a fa) : SE X W (.Call (.Name "tuple" p) [a] [] pos) (fun ρ => do
    let x ← fa ρ
    D.ftup x) := by
  obtain ⟨g1, g2, g3⟩ := gl_of hg
  refine PE.imp (pe_ftup g1 hm ha (star_cons hpl)) fun σ H Q ⟨ρ, Hs, he, hr, hp⟩ => ⟨ρ, Hs, he, hr, hp.bind fun d _ v Hi H1 l rv hp1 => ?_⟩
  cases d with
  | lst xs =>
    cases q : asInts xs with
    | none => simp only [D.ftup, q] at hp1; exact hp1.elim
    | some ns =>
      simp only [D.ftup, q] at hp1
      have ex := asInts_some q
      subst ex
      obtain ⟨p, vs, rfl, e1, r1⟩ := rv.lstI
      have ev := r1.intsI
      subst ev
      exact ⟨p, _, rfl, SqL.of (l.sub _ _ e1), fun t o c1 c2 hn => hp1 _ _ _ (Le.new1 l.sub hn) (.ftp upd_same c1 c2)⟩
  | _ => exact hp1.elim
def rTix : V → List V → Hp → VK → Prop := fun x xs H Q => ∃ (p : Addr) (o : Obj) (ns : List Int) (k : Int) (j : Nat), x = V.ref p ∧ xs = [V.int k] ∧ H p = some (.frz o (.tup (ns.map V.int))) ∧ ns[j]? = some k ∧ (∀ m, m < j → ns[m]? ≠ some k) ∧ Q (.int (j : Nat)) H
theorem flat_intsV (ns : List Int) : (ns.map V.int).all flatV = true := by
  rw [List.all_map]
  exact List.all_eq_true.mpr fun _ _ => rfl
theorem mt_tix : MtR X "tuple.index" rTix := by
  intro pins s σ H x xs v us Q I rx rs h
  obtain ⟨p, o, ns, k, j, rfl, rfl, hq, hy, hno, q⟩ := h
  cases rx
  cases rs with
  | cons ry rt =>
  cases rt
  obtain ⟨t, rfl⟩ := ry
  obtain ⟨its, r, pl, hz⟩ := I.tuple (show SqT X.K H p (ns.map V.int) from .inl (.inr ⟨o, hq⟩))
  obtain ⟨⟨cls, dd, dt, sl⟩, ho, hc, n, hd⟩ := pl
  simp only at hc hd
  subst hc
  subst hd
  have hl : its.toArray.size = ns.length := by rw [List.size_toArray, ← r.length, List.length_map]
  have hj : j < its.toArray.size := by rw [hl]; exact (List.getElem?_eq_some_iff.mp hy).1
  have at' : ∀ (m : Nat) (hm : m < its.toArray.size), ∃ y t', ns[m]? = some y ∧ its.toArray[m] = Value.int y t' := fun m hm => by
    have hm' : m < ns.length := by rw [← hl]; exact hm
    obtain ⟨w, hw, t', hw'⟩ := r.get (i := m) (x := .int ns[m]) (by simp [hm'])
    refine ⟨ns[m], t', List.getElem?_eq_getElem hm', ?_⟩
    have e := (List.getElem?_eq_some_iff.mp hw).2
    rw [← hw', ← e]
    simp
  refine call_meets PySem.F.slot_tuple_index ⟨_, ho, rfl⟩ PySem.F.entry_tuple_index (PySem.F.args_tuple_index_2 _ _) (TI.tuple_indexAt p its.toArray n dd sl (.int k t) (eqU (.int k)) j hj ?_ ?_)
    ⟨ho, fun w hw => mem_eqAt (x := .int k) ⟨t, rfl⟩ rfl r (flat_intsV ns) w (by simpa using hw), ⟨.int (j : Nat), H, I.tok _, ⟨_, rfl⟩, q⟩⟩
  · obtain ⟨y, t', h1, h2⟩ := at' j hj
    rw [hy] at h1
    cases h1
    rw [h2]
    show (k == k) = true
    exact beq_self_eq_true k
  · intro m hm hmj
    obtain ⟨y, t', h1, h2⟩ := at' m hm
    rw [h2]
    show (y == k) = false
    exact beq_eq_false_iff_ne.mpr fun e => hno m hmj (e ▸ h1)
theorem se_tix {ap : Pos} {x : Str} {px : Pos} (ha : SE X W (.Name x px) fa) (hb : SE X W b fb) (hl : (ap.endLine == pos.line) = true) (hpl : plain b = true) : SE X W (.Call (.Attribute (.Name x px) "index" ap) [b] [] pos) (fun ρ => do
    let x ← fa ρ
    if x.isF then do
      let y ← fb ρ
      D.tix x y
    else .stuck) := by
  have hst : starEach [b] X.env = (false, eval b X.env) :: starEach [] X.env := star_cons hpl
  refine ⟨fun pins s σ H Q I h => ?_⟩
  obtain ⟨ρ, Hs, he, hr, hp⟩ := h
  refine wpAny_Call_method_late rfl (by rw [hst]; rfl) hl rfl (thn (ha.run pins s σ H (fun v H1 => ∃ (d : D) (Hi : Hp), Le Hs H Hi H1 ∧ Rep X.K Hi d v ∧ PstD X.K X.mg Hi H1 (if d.isF then (do
      let y ← fb ρ
      D.tix d y) else .stuck) Q (fun c d H' => W c d σ H')) I ⟨ρ, Hs, he, hr, hp.bind fun d _ v Hi H1 l rv hp1 => ⟨d, Hi, l, rv, hp1⟩⟩) fun v s1 ⟨x, H1, I1, r1, d, Hi, l, rv, hp1⟩ => ?_)
  cases d with
  | ftp ns =>
    obtain ⟨p, o, rfl, e1, c1, c2⟩ := rv.ftpI
    cases r1
    have e2 := l.sub _ _ e1
    obtain ⟨ho, _⟩ := (show ObjOk X.prog X.w H1 s1.heap p (.frz o (.tup (ns.map V.int))) from I1.hok p _ e2)
    refine ⟨"tuple", "tuple.index", PySem.F.plainAttrs_tuple, PySem.F.slot_tuple_index, PySem.F.type_tuple_index, ⟨o, ho, c1⟩, fun a ea => by cases ea; exact ⟨o, ho, c2⟩, ?_⟩
    have hp1 : PstD X.K X.mg Hi H1 (do
      let y ← fb ρ
      D.tix (.ftp ns) y) Q (fun c d H' => W c d σ H') := hp1
    have hA := (pa_cons hb pa_nil hst).run pos pins s1 σ H1 (fun vs H2 => rTix (.ref p) vs H2 Q) I1 ⟨ρ, Hi, l.sub, hr.mono l.old, hp1.bind fun y _ v2 Hj H2 l2 rv2 hp2 => ?_⟩
    · rw [hst] at hA ⊢
      refine Calls.callWith_builtin rfl (Calls.evalArgs_plain ?_)
      exact thn hA fun us s2 ⟨vs, H2, I2, r2, q2⟩ => mt_tix pins s2 σ H2 (.ref p) vs (.ref p) us Q I2 rfl r2 q2
    · cases y with
      | int k =>
        cases hf : ns.findIdx? fun x => x == k with
        | none => simp only [D.tix, hf] at hp2; exact hp2.elim
        | some j =>
          simp only [D.tix, hf] at hp2
          obtain ⟨hj, h1, h2⟩ := List.findIdx?_eq_some_iff_getElem.mp hf
          refine ⟨p, o, ns, k, j, rfl, by rw [rv2.intI], l2.sub _ _ (l2.old _ _ e1), ?_, fun m hm hm2 => ?_, hp2.now l2.sub (.int _)⟩
          · rw [List.getElem?_eq_getElem hj]
            exact congrArg some (eq_of_beq h1)
          · have hml : m < ns.length := by omega
            rw [List.getElem?_eq_getElem hml] at hm2
            have := h2 m hm
            rw [Option.some.inj hm2] at this
            simp at this
      | _ => exact hp2.elim
  | _ => exact hp1.elim
end
end Py

namespace Py
open PySem PySem.Spec PyProof.Rows L2

theorem wipe_get : ∀ (vs : List Nat) (σ : L2.St) (j : Nat), (wipe σ vs)[j]? = if j ∈ vs then (σ[j]?).map (fun _ => none) else σ[j]?
  | [], σ, j => by simp [wipe]
  | v :: vs, σ, j => by
    unfold wipe
    by_cases h : v = j
    · subst h
      rw [if_pos (by simp)]
      by_cases hl : v < (wipe σ vs).length
      · rw [List.getElem?_set_self hl]
        rw [wipe_length] at hl
        rw [List.getElem?_eq_getElem hl]
        rfl
      · rw [List.getElem?_eq_none (by simpa using hl)]
        rw [wipe_length] at hl
        rw [List.getElem?_eq_none (by omega)]
        rfl
    · rw [List.getElem?_set_ne h, wipe_get vs σ j]
      by_cases h2 : j ∈ vs
      · rw [if_pos h2, if_pos (by simp [h2])]
      · rw [if_neg h2, if_neg (by simp [h2, Ne.symm h])]
theorem wipe_set {σ : L2.St} {vs : List Nat} {i : Nat} {x : Option V} (h : i ∈ vs) : wipe (σ.set i x) vs = wipe σ vs := by
  apply List.ext_getElem?
  intro j
  rw [wipe_get, wipe_get]
  by_cases hj : j ∈ vs
  · rw [if_pos hj, if_pos hj]
    by_cases e : i = j
    · subst e
      by_cases hl : i < σ.length
      · rw [List.getElem?_set_self hl, List.getElem?_eq_getElem hl]
        rfl
      · rw [List.getElem?_eq_none (by simpa using hl), List.getElem?_eq_none (by omega)]
    · rw [List.getElem?_set_ne e]
  · rw [if_neg hj, if_neg hj, List.getElem?_set_ne (fun (e : i = j) => hj (e ▸ h))]
theorem wipe_wipe {σ : L2.St} {vs : List Nat} : wipe (wipe σ vs) vs = wipe σ vs := by
  apply List.ext_getElem?
  intro j
  rw [wipe_get]
  by_cases hj : j ∈ vs
  · rw [if_pos hj, wipe_get, if_pos hj]
    cases σ[j]? <;> rfl
  · rw [if_neg hj]
theorem wipe_fold {vs : List Nat} : ∀ (ps : List (Nat × V)) (σ : L2.St), (∀ p ∈ ps, p.1 ∈ vs) → wipe (ps.foldl (fun s p => s.set p.1 (some p.2)) σ) vs = wipe σ vs
  | [], _, _ => rfl
  | p :: ps, σ, h => by
    rw [List.foldl_cons, wipe_fold ps _ fun q hq => h q (by simp [hq]), wipe_set (h p (by simp))]
theorem erel_wipe {K : PySem.W.Frag} {Hs : Hp} {ρ : Env} {σ : L2.St} {vs : List Nat} (h : ERel K Hs ρ σ) : ERelX K Hs vs ρ (wipe σ vs) := by
  refine ⟨by rw [wipe_length]; exact h.1, fun i d q => ?_⟩
  by_cases hi : i ∈ vs
  · exact .inl hi
  · obtain ⟨v, a, b⟩ := h.2 i d q
    exact .inr ⟨v, by rw [wipe_get, if_neg hi]; exact a, b⟩

theorem bind_some {α β : Type} {r : R α} {f : α → R β} {b : β} (h : (r >>= f) = .ok b) : ∃ a, r = .ok a ∧ f a = .ok b := by
  cases r with
  | ok a => exact ⟨a, rfl, h⟩
  | exc x => cases h
  | stuck => cases h
def lcF (ft : Env → R Bool) (fe : Env → R D) (t : Tgt) (ρ : Env) (x : D) : R (Option D) := do
  let ρ' ← t.bind x ρ
  let k ← ft ρ'
  if k then do
    let y ← fe ρ'
    .ok (some y)
  else .ok none
theorem lcGo_nox {f : D → R (Option D)} {x : XD} : ∀ {xs : List D}, lcGo f xs ≠ .exc x
  | [], h => by cases h
  | y :: ys, h => by
    have h : ((f y).nox >>= fun o => lcGo f ys >>= fun l => match o with
      | some d => R.ok (d :: l)
      | none => R.ok l) = .exc x := h
    cases q : f y with
    | ok o =>
      rw [q, R.nox_ok, R.bind_ok] at h
      cases q2 : lcGo f ys with
      | ok l => rw [q2, R.bind_ok] at h; cases o <;> cases h
      | exc z => exact lcGo_nox q2
      | stuck => rw [q2] at h; cases h
    | exc z => rw [q] at h; cases h
    | stuck => rw [q] at h; cases h
theorem lcGo_cons {f : D → R (Option D)} {x : D} {xs : List D} {acc : List D} (g : List D → R D) : (lcGo f (x :: xs) >>= fun l => g (acc ++ l)) = ((f x).nox >>= fun o => match o with
    | some y => lcGo f xs >>= fun l => g ((acc ++ [y]) ++ l)
    | none => lcGo f xs >>= fun l => g (acc ++ l)) := by
  show ((do
    let o ← (f x).nox
    let l ← lcGo f xs
    match o with
    | some d => .ok (d :: l)
    | none => .ok l) >>= _) = _
  rw [R.bind_assoc]
  congr 1
  funext o
  rw [R.bind_assoc]
  cases o with
  | some y => simp
  | none => simp
abbrev WN : WX := fun _ _ _ _ => False
section
variable {X : Cx} {W : WX} {tg iter elt : Expr} {ifs : List Expr} {raw : Scope} {pos : Pos} {fi : Env → R (List D)} {ft : Env → R Bool} {fe : Env → R D} {t : Tgt}
theorem lc_imp {σ : L2.St} {H : Hp} {Q : VK} (nd : t.ixs.Nodup) (h : tD X.K X.mg W (fun ρ => do
    let xs ← fi ρ
    if xs.length ≤ 16777215 then do
      let l ← lcGo (lcF ft fe t ρ) xs
      .ok (.lst l)
    else .stuck) σ H Q) : tLc (iD X.K X.mg W fi) (gOf X.K t) (tDB X.K X.mg WN ft) (tD X.K X.mg WN fe) t.ixs σ H Q := by
  obtain ⟨ρ, Hs, he, hr, hp⟩ := h
  refine ⟨ρ, Hs, he, hr, Pst.bind (Rel2 := Rep X.K) hp fun ds _ J Hs1 H1 l1 wk hp1 => ?_⟩
  intro DD hD
  by_cases hz : ds.length ≤ 16777215
  · rw [if_pos hz] at hp1
    have hr1 := hr.mono l1.old
    refine ⟨fun i m H' => m = ds.length - i ∧ i ≤ ds.length ∧ ∃ Hi acc vacc, Le Hs1 H1 Hi H' ∧ Hi DD = none ∧ H' DD = some (.lst vacc) ∧ Reps X.K Hi acc vacc ∧ acc.length ≤ i ∧
      PstD X.K X.mg Hs1 H1 (lcGo (lcF ft fe t ρ) (ds.drop i) >>= fun l => .ok (.lst (acc ++ l))) Q (fun c d H' => W c d σ H'),
      ⟨ds.length, by simp, Nat.zero_le _, Hs1, [], [], Le.new0 l1.sub hD, fresh_s l1.sub hD, upd_same, .nil, Nat.le_refl _, by simpa using hp1⟩, ?_⟩
    rintro i m H' ⟨rfl, hi, Hi, acc, vacc, le, hDi, hDl, ra, hacc, hrest⟩
    by_cases hlt : i < ds.length
    · refine .inr ⟨wk.go i H' (le.old.trans le.sub) hlt, fun H'' => ∃ m', m' < ds.length - i ∧ (m' = ds.length - (i + 1) ∧ i + 1 ≤ ds.length ∧ ∃ Hi acc vacc, Le Hs1 H1 Hi H'' ∧ Hi DD = none ∧ H'' DD = some (.lst vacc) ∧ Reps X.K Hi acc vacc ∧ acc.length ≤ i + 1 ∧
        PstD X.K X.mg Hs1 H1 (lcGo (lcF ft fe t ρ) (ds.drop (i + 1)) >>= fun l => .ok (.lst (acc ++ l))) Q (fun c d H' => W c d σ H')), fun H'' h => h, fun x H2 hy => ?_⟩
      have hd : ds[i]? = some ds[i] := List.getElem?_eq_getElem hlt
      obtain ⟨Hj, l2, rx⟩ := wk.yld i Hi H' x H2 _ le.old le.sub hd hy
      rw [List.drop_eq_getElem_cons hlt] at hrest
      rw [lcGo_cons (fun l => .ok (.lst l))] at hrest
      have hDj : Hj DD = none := by
        cases z : Hj DD with
        | none => rfl
        | some o =>
          rcases l2.new DD o z with q | q
          · rw [hDi] at q; cases q
          · rw [hDl] at q; cases q
      cases q0 : lcF ft fe t ρ ds[i] with
      | stuck => rw [q0] at hrest; exact hrest.elim
      | exc x => rw [q0] at hrest; exact hrest.elim
      | ok o =>
        rw [q0] at hrest
        simp only [R.nox_ok, R.bind_ok] at hrest
        obtain ⟨ρ', q1, q2⟩ := bind_some q0
        obtain ⟨k, q3, q4⟩ := bind_some q2
        refine tgt_run (ρ := ρ) q1 rx l2.sub ((erel_wipe ((hr1.mono le.old).mono l2.old))) fun σ' hr' ⟨us, hus⟩ => ?_
        refine ⟨?_, ρ', Hj, l2.sub, hr', ?_⟩
        · rw [hus, wipe_fold _ _ fun p hp => (List.of_mem_zip hp).1, wipe_wipe]
        · rw [q3]
          intro b Hk H3 l3 hb
          subst hb
          have hDk : Hk DD = none := by
            cases z : Hk DD with
            | none => rfl
            | some o =>
              rcases l3.new DD o z with q | q
              · rw [hDj] at q; cases q
              · rw [l2.ex DD _ hDl] at q; cases q
          cases k with
          | true =>
            have q4 : (do
              let y ← fe ρ'
              R.ok (some y)) = .ok o := q4
            obtain ⟨y, q5, q6⟩ := bind_some q4
            cases q6
            refine iteT ⟨ρ', Hk, l3.sub, hr'.mono l3.old, ?_⟩
            rw [q5]
            intro v Hm H4 l4 rv
            have hD4 : H4 DD = some (.lst vacc) := l4.ex _ _ (l3.ex _ _ (l2.ex _ _ hDl))
            have hDm : Hm DD = none := by
              cases z : Hm DD with
              | none => rfl
              | some o =>
                rcases l4.new DD o z with q | q
                · rw [hDk] at q; cases q
                · rw [l3.ex DD _ (l2.ex DD _ hDl)] at q; cases q
            have lall : Le Hs1 H1 Hm H4 := ((le.trans l2).trans l3).trans l4
            have hlen : vacc.length < sizeLine := by
              rw [size_eq, ← ra.length]
              omega
            refine ⟨vacc, hD4, hlen, ds.length - (i + 1), by omega, rfl, by omega, Hm, acc ++ [y], vacc ++ [v], ⟨lall.old, fun a o h => ?_, fun a o h => ?_, lall.new⟩, hDm, upd_same, (((ra.mono l2.old).mono l3.old).mono l4.old).append (.cons rv .nil), by simp; omega, hrest⟩
            · rw [upd_ne (ne_of_none h hD)]
              exact lall.ex a o h
            · rw [upd_ne (ne_of_none h hDm)]
              exact lall.sub a o h
          | false =>
            have q4 : R.ok none = R.ok o := q4
            cases q4
            have lall : Le Hs1 H1 Hk H3 := (le.trans l2).trans l3
            exact iteF ⟨ds.length - (i + 1), by omega, rfl, by omega, Hk, acc, vacc, lall, hDk, l3.ex _ _ (l2.ex _ _ hDl), (ra.mono l2.old).mono l3.old, by omega, hrest⟩
    · refine .inl ⟨wk.stop i H' (le.old.trans le.sub) (by omega), ?_⟩
      have e : ds.drop i = [] := List.drop_eq_nil_of_le (by omega)
      rw [e] at hrest
      have hrest : PstD X.K X.mg Hs1 H1 (.ok (.lst (acc ++ []))) Q _ := hrest
      rw [List.append_nil] at hrest
      have ns : Hs1 DD = none := fresh_s l1.sub hD
      refine hrest (.ref DD) (upd Hi DD (.lst vacc)) H' ⟨fun a o h => ?_, le.ex, fun a o h => ?_, fun a o h => ?_⟩ (.lst upd_same (ra.mono (Ex.new hDi)))
      · rw [upd_ne (ne_of_none h ns)]
        exact le.old a o h
      · by_cases e : a = DD
        · subst e
          rw [upd_same] at h
          cases h
          exact hDl
        · rw [upd_ne e] at h
          exact le.sub a o h
      · by_cases e : a = DD
        · subst e
          exact .inr hD
        · rw [upd_ne e] at h
          exact le.new a o h
  · rw [if_neg hz] at hp1
    exact hp1.elim
/-- what is wanted of a new list that nothing knows -/
def FreshL (K : PySem.W.Frag) (Hs1 H1 : Hp) (Q : VK) (l : List D) : Prop := ∀ p vs Hi H', Le Hs1 H1 Hi H' → Hi p = none → H1 p = none → H' p = some (.lst vs) → Reps K Hi l vs → Q (.ref p) H'
def okL (G : List D → Prop) : R (List D) → Prop
  | .ok l => G l
  | _ => False
theorem lc_impF {σ : L2.St} {H : Hp} {Q : VK} {ρ : Env} {Hs : Hp} (nd : t.ixs.Nodup) (he : Ex Hs H) (hr : ERel X.K Hs ρ σ)
    (hp : Pst (fun Hi ds J => Walk X.K J Hi ds) X.K X.mg Hs H (fi ρ) (fun J H1 => ∃ ds Hs1, fi ρ = .ok ds ∧ Le Hs H Hs1 H1 ∧ Walk X.K J Hs1 ds ∧ ds.length ≤ 16777215 ∧ okL (FreshL X.K Hs1 H1 Q) (lcGo (lcF ft fe t ρ) ds)) (fun c d H' => W c d σ H')) :
    tLc (iD X.K X.mg W fi) (gOf X.K t) (tDB X.K X.mg WN ft) (tD X.K X.mg WN fe) t.ixs σ H Q := by
  refine ⟨ρ, Hs, he, hr, hp.imp fun J H1 ⟨ds, Hs1, _, l1, wk, hz, hp1⟩ => ?_⟩
  intro DD hD
  have hr1 := hr.mono l1.old
  refine ⟨fun i m H' => m = ds.length - i ∧ i ≤ ds.length ∧ ∃ Hi acc vacc, Le Hs1 H1 Hi H' ∧ Hi DD = none ∧ H' DD = some (.lst vacc) ∧ Reps X.K Hi acc vacc ∧ acc.length ≤ i ∧
    okL (FreshL X.K Hs1 H1 Q) (lcGo (lcF ft fe t ρ) (ds.drop i) >>= fun l => .ok (acc ++ l)),
    ⟨ds.length, by simp, Nat.zero_le _, Hs1, [], [], Le.new0 l1.sub hD, fresh_s l1.sub hD, upd_same, .nil, Nat.le_refl _, by
      rw [List.drop_zero]
      cases z : lcGo (lcF ft fe t ρ) ds with
      | ok l => rw [z] at hp1; exact hp1
      | exc x => rw [z] at hp1; exact hp1.elim
      | stuck => rw [z] at hp1; exact hp1.elim⟩, ?_⟩
  rintro i m H' ⟨rfl, hi, Hi, acc, vacc, le, hDi, hDl, ra, hacc, hrest⟩
  by_cases hlt : i < ds.length
  · refine .inr ⟨wk.go i H' (le.old.trans le.sub) hlt, fun H'' => ∃ m', m' < ds.length - i ∧ (m' = ds.length - (i + 1) ∧ i + 1 ≤ ds.length ∧ ∃ Hi acc vacc, Le Hs1 H1 Hi H'' ∧ Hi DD = none ∧ H'' DD = some (.lst vacc) ∧ Reps X.K Hi acc vacc ∧ acc.length ≤ i + 1 ∧
      okL (FreshL X.K Hs1 H1 Q) (lcGo (lcF ft fe t ρ) (ds.drop (i + 1)) >>= fun l => .ok (acc ++ l))), fun H'' h => h, fun x H2 hy => ?_⟩
    have hd : ds[i]? = some ds[i] := List.getElem?_eq_getElem hlt
    obtain ⟨Hj, l2, rx⟩ := wk.yld i Hi H' x H2 _ le.old le.sub hd hy
    rw [List.drop_eq_getElem_cons hlt] at hrest
    have hrest : okL (FreshL X.K Hs1 H1 Q) (((lcF ft fe t ρ ds[i]).nox >>= fun o => lcGo (lcF ft fe t ρ) (ds.drop (i + 1)) >>= fun l => match o with
      | some d => R.ok (d :: l)
      | none => R.ok l) >>= fun l => R.ok (acc ++ l)) := hrest
    have hDj : Hj DD = none := by
      cases z : Hj DD with
      | none => rfl
      | some o =>
        rcases l2.new DD o z with q | q
        · rw [hDi] at q; cases q
        · rw [hDl] at q; cases q
    cases q0 : lcF ft fe t ρ ds[i] with
    | stuck => rw [q0] at hrest; exact hrest.elim
    | exc x => rw [q0] at hrest; exact hrest.elim
    | ok o =>
      rw [q0] at hrest
      simp only [R.nox_ok, R.bind_ok, R.bind_assoc] at hrest
      obtain ⟨ρ', q1, q2⟩ := bind_some q0
      obtain ⟨k, q3, q4⟩ := bind_some q2
      refine tgt_run (ρ := ρ) q1 rx l2.sub ((erel_wipe ((hr1.mono le.old).mono l2.old))) fun σ' hr' ⟨us, hus⟩ => ?_
      refine ⟨?_, ρ', Hj, l2.sub, hr', ?_⟩
      · rw [hus, wipe_fold _ _ fun p hp => (List.of_mem_zip hp).1, wipe_wipe]
      · rw [q3]
        intro b Hk H3 l3 hb
        subst hb
        have hDk : Hk DD = none := by
          cases z : Hk DD with
          | none => rfl
          | some o =>
            rcases l3.new DD o z with q | q
            · rw [hDj] at q; cases q
            · rw [l2.ex DD _ hDl] at q; cases q
        cases k with
        | true =>
          have q4 : (do
            let y ← fe ρ'
            R.ok (some y)) = .ok o := q4
          obtain ⟨y, q5, q6⟩ := bind_some q4
          cases q6
          refine iteT ⟨ρ', Hk, l3.sub, hr'.mono l3.old, ?_⟩
          rw [q5]
          intro v Hm H4 l4 rv
          have hD4 : H4 DD = some (.lst vacc) := l4.ex _ _ (l3.ex _ _ (l2.ex _ _ hDl))
          have hDm : Hm DD = none := by
            cases z : Hm DD with
            | none => rfl
            | some o =>
              rcases l4.new DD o z with q | q
              · rw [hDk] at q; cases q
              · rw [l3.ex DD _ (l2.ex DD _ hDl)] at q; cases q
          have lall : Le Hs1 H1 Hm H4 := ((le.trans l2).trans l3).trans l4
          have hlen : vacc.length < sizeLine := by
            rw [size_eq, ← ra.length]
            omega
          refine ⟨vacc, hD4, hlen, ds.length - (i + 1), by omega, rfl, by omega, Hm, acc ++ [y], vacc ++ [v], ⟨lall.old, fun a o h => ?_, fun a o h => ?_, lall.new⟩, hDm, upd_same, (((ra.mono l2.old).mono l3.old).mono l4.old).append (.cons rv .nil), by simp; omega, ?_⟩
          · rw [upd_ne (ne_of_none h hD)]
            exact lall.ex a o h
          · rw [upd_ne (ne_of_none h hDm)]
            exact lall.sub a o h
          · simpa using hrest
        | false =>
          have q4 : R.ok none = R.ok o := q4
          cases q4
          have lall : Le Hs1 H1 Hk H3 := (le.trans l2).trans l3
          exact iteF ⟨ds.length - (i + 1), by omega, rfl, by omega, Hk, acc, vacc, lall, hDk, l3.ex _ _ (l2.ex _ _ hDl), (ra.mono l2.old).mono l3.old, by omega, by simpa using hrest⟩
  · refine .inl ⟨wk.stop i H' (le.old.trans le.sub) (by omega), ?_⟩
    have e : ds.drop i = [] := List.drop_eq_nil_of_le (by omega)
    rw [e] at hrest
    have hrest : FreshL X.K Hs1 H1 Q (acc ++ []) := hrest
    rw [List.append_nil] at hrest
    exact hrest DD vacc Hi H' le hDi hD hDl ra
theorem folded_ok {iter : Expr} {env : PySem.Env} (h : plain iter = true) : ∀ x, foldedSetIterable iter env x = pure x := by
  intro x
  cases iter <;> first | rfl | cases h
end
abbrev tkey (q : Addr × List Int) : PyData := .tuple (q.2.map .int)
section
variable {P : Program} {w : World} {A : Around} {s : Shared} {E : Value → Shared → Prop}
theorem each_refs : ∀ L1 : List (Addr × List Int), PySem.W.EachIs (fun (v : Value) (q : Addr × List Int) => v = Value.ref q.1) (L1.map fun q => Value.ref q.1) L1
  | [] => .nil
  | q :: L1 => .cons rfl (each_refs L1)
theorem refs_each : ∀ {vs : List Value} {L1 : List (Addr × List Int)}, PySem.W.EachIs (fun (v : Value) (q : Addr × List Int) => v = Value.ref q.1) vs L1 → vs = L1.map fun q => Value.ref q.1
  | _, _, .nil => rfl
  | _, _, .cons e t => by rw [e, refs_each t]; rfl
theorem reads_ints {h : Heap} : ∀ {k : List Int} {vs : List Value}, IntsAre vs k → ReadsAll h vs (k.map .int) []
  | _, _, .nil => .nil
  | _, _, .cons i t r => .cons (as := []) (bs := []) (.int i t) (reads_ints r)
theorem reads_t {h : Heap} {k : List Int} {b : Addr} (x : IsT P w h k b) : Reads h (.ref b) (.tuple (k.map .int)) [] := by
  obtain ⟨o, items, n, ho, hc, hd, hi⟩ := x
  exact .tuple ho hc hd (reads_ints (ints_of_items hi))
theorem each_readsT {h : Heap} {a : Addr} : ∀ {L1 : List (Addr × List Int)}, (∀ q ∈ L1, IsT P w h q.2 q.1) → PySem.W.EachIs (fun (v : Value) (q : Addr × List Int) => ∃ as, Reads h v (tkey q) as ∧ a ∉ as) (L1.map fun q => Value.ref q.1) L1
  | [], _ => .nil
  | q :: L1, hq => .cons ⟨[], reads_t (hq q (by simp)), by simp⟩ (each_readsT fun r hr => hq r (by simp [hr]))
theorem sorted_setD {a : Addr} {L : List (Addr × List Int)} {es : Array (Int × Value)} {ep : Nat} {t : SetTable} {Q : Value → Shared → Prop} (R : SetTR P w s.heap a L es ep t) (hh : A.handled = none)
    (hu : A.units + 65 < cLine) (hal : PySem.W.AllAlike (L.map tkey)) (hk : PySem.W.Sortable (L.map tkey)) (hdp : ∀ q ∈ L, (tkey q).depth ≤ 10)
    (hQ : ∀ s' p (out : Array Value) (c : Nat) (L1 : List (Addr × List Int)), (∀ b o, s.heap.get? b = some o → s'.heap.get? b = some o) → s'.gens = s.gens → s'.os = s.os → s.heap.objs.size ≤ p →
      s'.heap.get? p = some (seqObj "list" out c) → L1.Perm L → out.toList = (L1.mergeSort (PySem.W.dataLe false tkey)).map (fun q => Value.ref q.1) → Q (.ref p) s') :
    wpAny (model P w) A (call (.builtin "sorted") [.ref a]) Q E s := by
  obtain ⟨o, ho, hex, hd⟩ := R.ob
  have hsz := R.size
  have hfew := R.few
  refine Calls.call_function_entry kind_sorted plain_sorted entry_sorted (args_sorted1 _) ?_
  unfold Builtin.«sorted»
  refine wpAny_bind (m := checkCount "sorted" 1 1 _) (wpAny_pure ?_)
  refine wpAny_bind (collect_set (A := A.in1) hh ⟨o, ho, hex.1, hd⟩ R.fits (by unfold scanBound; omega) R.tab.ris R.led fun s1 vs k1 hz g1 o1 pm => ?_)
  have hes : es.toList.map (·.2) = L.map fun q => Value.ref q.1 := by
    rw [R.rows]
    unfold rowsOf
    rw [List.map_map] <;> rfl
  rw [hes] at pm
  have ord : ∀ vs : List Value, (∀ v ∈ vs, ∃ q ∈ L, v = Value.ref q.1) → ∃ L1 : List (Addr × List Int), vs = L1.map (fun q => Value.ref q.1) ∧ ∀ q ∈ L1, q ∈ L := by
    intro vs
    induction vs with
    | nil => intro _; exact ⟨[], rfl, fun q hq => (by cases hq)⟩
    | cons v vs ih =>
      intro hv
      obtain ⟨q, hq, e⟩ := hv v List.mem_cons_self
      obtain ⟨L1, e1, hs⟩ := ih fun u hu => hv u (List.mem_cons_of_mem _ hu)
      refine ⟨q :: L1, by rw [List.map_cons, e, e1], fun r hr => ?_⟩
      rcases List.mem_cons.mp hr with z | z
      · rw [z]; exact hq
      · exact hs r z
  have one : ∀ q ∈ L, ∀ r ∈ L, q.1 = r.1 → q = r := fun q hq r hr e => by
    have a1 := R.tup q hq
    have a2 := R.tup r hr
    rw [e] at a1
    exact Prod.ext e (a1.inj a2)
  have perm_of : ∀ L1 : List (Addr × List Int), (∀ q ∈ L1, q ∈ L) → (L1.map (fun q => Value.ref q.1)).Perm (L.map fun q => Value.ref q.1) → L1.Perm L := by
    intro L1 hs pm1
    have nL : L.Nodup := nodup_of_map R.nd
    have nref : (L.map fun q => Value.ref q.1).Nodup := by
      refine List.pairwise_map.mpr (List.Pairwise.imp_of_mem (fun {q r} hq hr hne e => ?_) nL)
      injection e with e
      exact hne (one q hq r hr e)
    have n1 : L1.Nodup := nodup_of_map (pm1.nodup_iff.mpr nref)
    refine (List.perm_ext_iff_of_nodup n1 nL).mpr fun q => ⟨hs q, fun hq => ?_⟩
    have hm : Value.ref q.1 ∈ L1.map (fun q => Value.ref q.1) := pm1.mem_iff.mpr (List.mem_map.mpr ⟨q, hq, rfl⟩)
    obtain ⟨r, hr, e⟩ := List.mem_map.mp hm
    injection e with e
    rw [← one r (hs r hr) q hq e]
    exact hr
  obtain ⟨L1, e1, s1'⟩ := ord vs fun v hv => by
    obtain ⟨q, hq, e⟩ := List.mem_map.mp (pm.mem_iff.mp hv)
    exact ⟨q, hq, e.symm⟩
  have pL : L1.Perm L := perm_of L1 s1' (by rw [← e1]; exact pm)
  have hvl : vs.length < 64 := by rw [pm.length_eq, List.length_map]; exact hfew
  refine wpAny_bind (wpAny_newList ?_ (by rw [sizeLine_eq]; omega))
  have hoL : (s1.heap.push (seqObj "list" vs.toArray 0)).get? s1.heap.objs.size = some (seqObj "list" vs.toArray 0) := Heap.get?_push_size _ rfl
  have tk : ∀ q ∈ L1, IsT P w (s1.heap.push (seqObj "list" vs.toArray 0)) q.2 q.1 := fun q hq => isT_keep (R.tup q (s1' q hq)) fun b u e => Heap.get?_push_of_some _ (k1 b u e)
  have er := each_readsT (a := s1.heap.objs.size) tk
  have ei := each_refs L1
  rw [← e1] at er ei
  have pmK : (L1.map tkey).Perm (L.map tkey) := pL.map _
  have hal1 : PySem.W.AllAlike (L1.map tkey) := fun d hd d' hd' => hal d (pmK.mem_iff.mp hd) d' (pmK.mem_iff.mp hd')
  have hk1 : PySem.W.Sortable (L1.map tkey) := hk.imp (fun z d hd => z d (pmK.mem_iff.mp hd)) fun z d hd => z d (pmK.mem_iff.mp hd)
  refine wpAny_bind (wpAny_holding (PySem.W.list_sort_data (s := { s1 with heap := s1.heap.push (seqObj "list" vs.toArray 0) }) hoL ei er hal1 hk1 (by rw [sizeLine_eq, pL.length_eq]; omega) (fun b hb => ?_) fun out a1 a2 => ?_))
  · have := hdp b (s1' b hb)
    have e : (A.in1).units = A.units + 1 := rfl
    omega
  · obtain ⟨c, hc⟩ := sortedHeap_at (vs := vs) (out := out.toArray) hoL
    refine wpAny_pure ⟨_, rfl, hQ _ s1.heap.objs.size out.toArray c L1 (fun b u e => ?_) g1 o1 hz hc pL (refs_each a2)⟩
    have q := k1 b u e
    have hlt := Heap.lt_size q
    show (sortedHeap (s1.heap.push (seqObj "list" vs.toArray 0)) s1.heap.objs.size vs out.toArray).get? b = some u
    rw [sortedHeap_old (Nat.ne_of_lt hlt) (by rw [size_push']; exact Nat.lt_succ_of_lt hlt)]
    exact Heap.get?_push_of_some _ q
theorem tkey_le : PySem.W.dataLe false tkey = fun p q => decide (p.2 ≤ q.2) := PySem.W.dataLe_rows (fun q : Addr × List Int => q.2)
theorem alike_ii : ∀ a b : List Int, PySem.W.alikeAll (a.map .int) (b.map .int) = true
  | [], [] => rfl
  | [], _ :: _ => rfl
  | _ :: _, [] => rfl
  | x :: a, y :: b => by
    show (PySem.W.alike (.int x) (.int y) && PySem.W.alikeAll (a.map .int) (b.map .int)) = true
    rw [alike_ii a b]
    rfl
theorem depth_ints : ∀ a : List Int, PyData.depthAll (a.map .int) = 0 := PySem.W.depth_ints
theorem tkey_depth (q : Addr × List Int) : (tkey q).depth ≤ 10 := by
  show PyData.depthAll (q.2.map .int) + 1 ≤ 10
  rw [depth_ints]
  omega
end
def rSortedD (K : PySem.W.Frag) (P : Program) (w : World) : List V → Hp → VK → Prop := fun vs H Q => ∃ (a : Addr) (L : List (Addr × List Int)), vs = [V.ref a] ∧ H a = some (SetTO P w a L) ∧ (∀ p ∈ L, SqT K H p.1 (p.2.map V.int)) ∧ (∀ p ∈ L, p.2 ≠ []) ∧
  ∀ (L1 : List (Addr × List Int)) (p : Addr), L1.Perm L → (L1.map (·.2)).Nodup → H p = none → Q (.ref p) (upd H p (.lst ((L1.mergeSort fun p q => decide (p.2 ≤ q.2)).map fun q => V.ref q.1)))
section
variable {X : Cx}
theorem cr_sortedD (hc : X.calm = true) (hu : X.A.units + 65 < cLine) : CallR X (.builtin "sorted") (rSortedD X.K X.prog X.w) := by
  intro pins s σ H vs us Q I r h
  obtain ⟨a, L, rfl, ha, hk, hne, q⟩ := h
  have R0 : SetT0 X.prog X.w s.heap a L := (I.hok a _ ha).1
  obtain ⟨es, ep, t, R⟩ := R0.full fun p hp => I.isT (hk p hp)
  rw [Vals.ref1 r]
  refine sorted_setD R (I.ok.hd hc) hu (fun d hd d' hd' => ?_) (.inl fun d hd => ?_) (fun q _ => tkey_depth q) fun s' p out c L1 k g o hp hg pm hout => ?_
  · obtain ⟨x, _, rfl⟩ := List.mem_map.mp hd
    obtain ⟨y, _, rfl⟩ := List.mem_map.mp hd'
    exact alike_ii x.2 y.2
  · obtain ⟨x, hx, rfl⟩ := List.mem_map.mp hd
    cases e : x.2 with
    | nil => exact absurd e (hne x hx)
    | cons n ns => exact ⟨.int n, ns.map .int, by show PyData.tuple (x.2.map .int) = _; rw [e]; rfl⟩
  · rw [tkey_le] at hout
    have pm2 : (L1.mergeSort fun p q => decide (p.2 ≤ q.2)).Perm L := (List.mergeSort_perm _ _).trans pm
    have hfew : (L1.mergeSort fun p q => decide (p.2 ≤ q.2)).length < 64 := by rw [pm2.length_eq]; exact R.few
    have hlen : ((L1.mergeSort fun p q => decide (p.2 ≤ q.2)).map fun q => V.ref q.1).length ≤ sizeLine := by rw [List.length_map, sizeLine_eq]; omega
    have hn : H p = none := I.hok.fresh hp
    have hv : Vals ((L1.mergeSort fun p q => decide (p.2 ≤ q.2)).map fun q => V.ref q.1) out.toList := by rw [hout]; exact vals_of_refs _
    have J : Inv X pins σ (upd H p (.lst ((L1.mergeSort fun p q => decide (p.2 ≤ q.2)).map fun q => V.ref q.1))) { s with heap := s'.heap, gens := s'.gens, drawn := s'.drawn, toks := s'.toks } :=
      I.call (ch := []) (Un.laid k hp hn) (I.hok.laid k hp ⟨hlen, out.toList, c, hv, hg⟩) (by rw [g]; exact I.bare) (fun _ z => nomatch z)
    have e : s' = { s with heap := s'.heap, gens := s'.gens, drawn := s'.drawn, toks := s'.toks } := by
      cases s'
      cases s
      cases o
      rfl
    rw [e]
    exact ⟨.ref p, _, J, rfl, q L1 p pm ((pm.map (·.2)).nodup_iff.mpr R.nd) hn⟩
end
section
variable {P : Program} {w : World} {A : Around} {s : Shared} {E : Value → Shared → Prop}
/-- sorted(t), t a tuple of rows -/
theorem sorted_rows {a : Addr} {items : Array Value} {L : List (Addr × List Int)} {Q : Value → Shared → Prop} (ht : s.heap.IsTuple a items) (hi : items.toList = L.map fun q => Value.ref q.1) (hT : ∀ q ∈ L, IsT P w s.heap q.2 q.1) (hl : L.length ≤ 1000)
    (hu : A.units + 65 < cLine) (hal : PySem.W.AllAlike (L.map tkey)) (hk : PySem.W.Sortable (L.map tkey)) (hdp : ∀ q ∈ L, (tkey q).depth ≤ 10)
    (hQ : ∀ (h' : Heap) (s' : Shared) (out : Array Value) (c : Nat), (∀ b o, s.heap.get? b = some o → h'.get? b = some o) → (∀ b o, h'.get? b = some o → s'.heap.get? b = some o) → s'.gens = s.gens → s'.os = s.os →
      s'.heap.get? h'.objs.size = some (seqObj "list" out c) → out.toList = (L.mergeSort (PySem.W.dataLe false tkey)).map (fun q => Value.ref q.1) → Q (.ref h'.objs.size) s') :
    wpAny (model P w) A (call (.builtin "sorted") [.ref a]) Q E s := by
  obtain ⟨o, ho, hc, n, hd⟩ := ht
  have hz : items.size = L.length := by rw [← Array.length_toList, hi, List.length_map]
  refine Calls.call_function_entry kind_sorted plain_sorted entry_sorted (args_sorted1 _) ?_
  unfold Builtin.«sorted»
  refine wpAny_bind (m := checkCount "sorted" 1 1 _) (wpAny_pure ?_)
  refine wpAny_bind (wpAny_collect_seq a (.inr rfl) ho hc hd (fun h' k1 => ?_) (by rw [sizeLine_eq]; omega))
  rw [hi]
  refine wpAny_bind (wpAny_newList ?_ (by rw [List.length_map, sizeLine_eq]; omega))
  have hoL : (h'.push (seqObj "list" (L.map fun q => Value.ref q.1).toArray 0)).get? h'.objs.size = some (seqObj "list" (L.map fun q => Value.ref q.1).toArray 0) := Heap.get?_push_size _ rfl
  have tk : ∀ q ∈ L, IsT P w (h'.push (seqObj "list" (L.map fun q => Value.ref q.1).toArray 0)) q.2 q.1 := fun q hq => isT_keep (hT q hq) fun b u e => Heap.get?_push_of_some _ (k1 b u e)
  refine wpAny_bind (wpAny_holding (PySem.W.list_sort_data (s := { s with heap := h'.push (seqObj "list" (L.map fun q => Value.ref q.1).toArray 0) }) hoL (each_refs L) (each_readsT tk) hal hk (by rw [sizeLine_eq]; omega) (fun b hb => ?_) fun out a1 a2 => ?_))
  · have := hdp b hb
    have e : (A.in1).units = A.units + 1 := rfl
    omega
  · obtain ⟨c, hc2⟩ := sortedHeap_at (vs := L.map fun q => Value.ref q.1) (out := out.toArray) hoL
    refine wpAny_pure ⟨_, rfl, hQ h' _ out.toArray c k1 (fun b u q => ?_) rfl rfl hc2 (refs_each a2)⟩
    have hlt := Heap.lt_size q
    show (sortedHeap (h'.push (seqObj "list" (L.map fun q => Value.ref q.1).toArray 0)) h'.objs.size (L.map fun q => Value.ref q.1) out.toArray).get? b = some u
    rw [sortedHeap_old (Nat.ne_of_lt hlt) (by rw [size_push']; exact Nat.lt_succ_of_lt hlt)]
    exact Heap.get?_push_of_some _ q
end
def rSrt (K : PySem.W.Frag) : List V → Hp → VK → Prop := fun vs H Q => ∃ (a : Addr) (L : List (Addr × List Int)), vs = [V.ref a] ∧ SqT K H a (L.map fun q => V.ref q.1) ∧ (∀ p ∈ L, SqT K H p.1 (p.2.map V.int)) ∧ (∀ p ∈ L, p.2 ≠ []) ∧ L.length ≤ 1000 ∧
  ∀ p, H p = none → Q (.ref p) (upd H p (.lst ((L.mergeSort fun p q => decide (p.2 ≤ q.2)).map fun q => V.ref q.1)))
section
variable {X : Cx}
theorem cr_srt (hc : X.calm = true) (hu : X.A.units + 65 < cLine) : CallR X (.builtin "sorted") (rSrt X.K) := by
  intro pins s σ H vs us Q I r h
  obtain ⟨a, L, rfl, ha, hk, hne, hl, q⟩ := h
  rw [Vals.ref1 r]
  obtain ⟨its, rv, ht, hz⟩ := I.tuple ha
  refine sorted_rows (P := X.prog) (w := X.w) ht (by simpa using refs_of_vals rv) (fun p hp => I.isT (hk p hp)) hl hu (fun d hd d' hd' => ?_) (.inl fun d hd => ?_) (fun q _ => tkey_depth q) fun h' s' out c k1 k2 g o hg hout => ?_
  · obtain ⟨x, _, rfl⟩ := List.mem_map.mp hd
    obtain ⟨y, _, rfl⟩ := List.mem_map.mp hd'
    exact alike_ii x.2 y.2
  · obtain ⟨x, hx, rfl⟩ := List.mem_map.mp hd
    cases e : x.2 with
    | nil => exact absurd e (hne x hx)
    | cons n ns => exact ⟨.int n, ns.map .int, by show PyData.tuple (x.2.map .int) = _; rw [e]; rfl⟩
  · rw [tkey_le] at hout
    have I1 : Inv X pins σ H { s with heap := h' } := I.kept (t' := s.toks) k1
    have hn : H h'.objs.size = none := I1.hok.fresh (Nat.le_refl _)
    have hlen : ((L.mergeSort fun p q => decide (p.2 ≤ q.2)).map fun q => V.ref q.1).length ≤ sizeLine := by rw [List.length_map, (List.mergeSort_perm _ _).length_eq, sizeLine_eq]; omega
    have hv : Vals ((L.mergeSort fun p q => decide (p.2 ≤ q.2)).map fun q => V.ref q.1) out.toList := by rw [hout]; exact vals_of_refs _
    have J : Inv X pins σ (upd H h'.objs.size (.lst ((L.mergeSort fun p q => decide (p.2 ≤ q.2)).map fun q => V.ref q.1))) { s with heap := s'.heap, gens := s'.gens, drawn := s'.drawn, toks := s'.toks } :=
      Inv.call (s := { s with heap := h' }) I1 (ch := []) (Un.laid k2 (Nat.le_refl _) hn) (I1.hok.laid k2 (Nat.le_refl _) ⟨hlen, out.toList, c, hv, hg⟩) (by rw [g]; exact I.bare) (fun _ z => nomatch z)
    have e : s' = { s with heap := s'.heap, gens := s'.gens, drawn := s'.drawn, toks := s'.toks } := by
      cases s'
      cases s
      cases o
      rfl
    rw [e]
    exact ⟨.ref h'.objs.size, _, J, rfl, q _ hn⟩
end
theorem keysOf_some : ∀ {ds : List D} {ks : List (List Int)}, keysOf ds = some ks → ds = ks.map ktup
  | [], ks, h => by cases h; rfl
  | d :: ds, ks, h => by
    unfold keysOf at h
    cases e : tupI d with
    | none => rw [e] at h; cases h
    | some k =>
      rw [e] at h
      cases e2 : keysOf ds with
      | none => rw [e2] at h; cases h
      | some ks2 =>
        rw [e2] at h
        cases h
        rw [List.map_cons, ← keysOf_some e2]
        congr 1
        cases d with
        | tup xs => exact congrArg D.tup (asInts_some e)
        | _ => cases e
/-- the items' addresses, with what they hold -/
theorem reps_keys {K : PySem.W.Frag} {H : Hp} : ∀ {ks : List (List Int)} {vs : List V}, Reps K H (ks.map ktup) vs → ∃ L : List (Addr × List Int), vs = L.map (fun p => V.ref p.1) ∧ L.map (·.2) = ks ∧ ∀ p ∈ L, H p.1 = some (.tup (p.2.map V.int))
  | [], _, .nil => ⟨[], rfl, rfl, fun p hp => by cases hp⟩
  | k :: ks, _, .cons r t => by
    obtain ⟨L, e1, e2, e3⟩ := reps_keys t
    obtain ⟨a, vs, rfl, h1, h2⟩ := Rep.tupI r
    have h3 := h2.intsI
    subst h3
    refine ⟨(a, k) :: L, by rw [e1]; rfl, by rw [List.map_cons, e2], fun p hp => ?_⟩
    rcases List.mem_cons.mp hp with rfl | hp
    · exact h1
    · exact e3 p hp
theorem reps_of_keys {K : PySem.W.Frag} {H : Hp} : ∀ {L : List (Addr × List Int)}, (∀ p ∈ L, H p.1 = some (.tup (p.2.map V.int))) → Reps K H ((L.map (·.2)).map ktup) (L.map fun p => V.ref p.1)
  | [], _ => .nil
  | p :: L, h => .cons (.tup (h p (by simp)) Reps.ints) (reps_of_keys fun q hq => h q (by simp [hq]))
theorem sortK_of {ks : List (List Int)} {L L1 : List (Addr × List Int)} (h1 : ∀ p ∈ L, p.2 ∈ ks) (h2 : ∀ k ∈ ks, k ∈ L.map (·.2)) (pm : L1.Perm L) (nd : (L1.map (·.2)).Nodup) : (L1.mergeSort fun p q => decide (p.2 ≤ q.2)).map (·.2) = sortK ks := by
  rw [List.map_mergeSort (r := fun p q : Addr × List Int => decide (p.2 ≤ q.2)) (s := fun a b => decide (a ≤ b)) (f := fun p : Addr × List Int => p.2) (fun a _ b _ => rfl)]
  unfold sortK
  have anti : ∀ x y : List Int, decide (x ≤ y) = true → decide (y ≤ x) = true → x = y := fun x y h h' => List.le_antisymm (of_decide_eq_true h) (of_decide_eq_true h')
  have trans : ∀ a b c : List Int, decide (a ≤ b) = true → decide (b ≤ c) = true → decide (a ≤ c) = true := fun a b c h h' => decide_eq_true (List.le_trans (of_decide_eq_true h) (of_decide_eq_true h'))
  have total : ∀ a b : List Int, (decide (a ≤ b) || decide (b ≤ a)) = true := fun a b => by
    rcases List.le_total a b with h | h
    · rw [decide_eq_true h, Bool.true_or]
    · rw [decide_eq_true h, Bool.or_true]
  have pp : (L1.map (·.2)).Perm (dd ks) := by
    refine (List.perm_ext_iff_of_nodup nd (nodup_dd ks)).mpr fun k => ?_
    rw [mem_dd]
    constructor
    · intro hk
      obtain ⟨p, hp, rfl⟩ := List.mem_map.mp hk
      exact h1 p (pm.mem_iff.mp hp)
    · intro hk
      exact (pm.map (·.2)).mem_iff.mpr (h2 k hk)
  have p2 : ((L1.map (·.2)).mergeSort fun a b => decide (a ≤ b)).Perm ((dd ks).mergeSort fun a b => decide (a ≤ b)) := (List.mergeSort_perm _ _).trans (pp.trans (List.mergeSort_perm _ _).symm)
  exact p2.eq_of_pairwise (fun a b _ _ h h' => anti a b h h') (List.pairwise_mergeSort trans total _) (List.pairwise_mergeSort trans total _)

theorem metI_go : ∀ (ns σ : List Int), σ.Nodup → (ns.foldl (fun σ k => if σ.any (· == k) then σ else σ ++ [k]) σ).Nodup ∧ ∀ k, k ∈ ns.foldl (fun σ k => if σ.any (· == k) then σ else σ ++ [k]) σ ↔ k ∈ σ ∨ k ∈ ns
  | [], σ, h => ⟨h, fun k => by simp⟩
  | n :: ns, σ, h => by
    rw [List.foldl_cons]
    by_cases q : σ.any (· == n) = true
    · rw [if_pos q]
      obtain ⟨a, b⟩ := metI_go ns σ h
      refine ⟨a, fun k => ?_⟩
      rw [b k, List.mem_cons]
      have hm : n ∈ σ := by simpa using q
      exact ⟨fun z => z.elim .inl fun z => .inr (.inr z), fun z => z.elim .inl fun z => z.elim (fun e => .inl (e ▸ hm)) .inr⟩
    · rw [if_neg q]
      have hm : n ∉ σ := by simpa using q
      obtain ⟨a, b⟩ := metI_go ns (σ ++ [n]) (List.nodup_append.mpr ⟨h, by simp, fun x hx y hy e => hm (by simp at hy; rw [← hy, ← e]; exact hx)⟩)
      refine ⟨a, fun k => ?_⟩
      rw [b k, List.mem_append, List.mem_singleton, List.mem_cons]
      exact or_assoc
theorem metI_spec (ns : List Int) : (metI ns).Nodup ∧ ∀ k, k ∈ metI ns ↔ k ∈ ns := by
  obtain ⟨a, b⟩ := metI_go ns [] List.nodup_nil
  exact ⟨a, fun k => (b k).trans (by simp)⟩
theorem sortI_of {ns ms : List Int} (h1 : ms.Pairwise (· < ·)) (h2 : ∀ k, k ∈ ms ↔ k ∈ ns) : ms = sortI ns := by
  obtain ⟨a, b⟩ := metI_spec ns
  have nd : ms.Nodup := by
    refine List.Pairwise.imp (fun {a b} h (e : a = b) => ?_) h1
    omega
  have p1 : ms.Perm (metI ns) := (List.perm_ext_iff_of_nodup nd a).mpr fun k => (h2 k).trans (b k).symm
  have p2 : ms.Perm (sortI ns) := p1.trans (List.mergeSort_perm _ _).symm
  have s2 := List.pairwise_mergeSort (le := fun a b : Int => decide (a ≤ b)) (fun a b c h h' => decide_eq_true (Int.le_trans (of_decide_eq_true h) (of_decide_eq_true h'))) (fun a b => by
    rcases Int.le_total a b with h | h
    · rw [decide_eq_true h, Bool.true_or]
    · rw [decide_eq_true h, Bool.or_true]) (metI ns)
  exact p2.eq_of_pairwise (fun a b _ _ h h' => Int.le_antisymm h h') (h1.imp fun h => Int.le_of_lt h) (s2.imp fun h => of_decide_eq_true h)
theorem ssetK_cases (xs : List D) (r : R D) : (∃ ks : List (List Int), xs = ks.map ktup ∧ ks.length < 64 ∧ (∀ k ∈ ks, k ≠ []) ∧ ssetK xs r = .ok (.lst ((sortK ks).map ktup))) ∨ ssetK xs r = .stuck ∨ ssetK xs r = r := by
  unfold ssetK
  cases e : keysOf xs with
  | none => exact .inr (.inr rfl)
  | some ks =>
    by_cases h : (decide (ks.length < 64) && ks.all (fun k => !k.isEmpty)) = true
    · have h' := h
      simp only [Bool.and_eq_true, decide_eq_true_eq, List.all_eq_true, Bool.not_eq_true'] at h'
      refine .inl ⟨ks, keysOf_some e, h'.1, fun k hk e => ?_, by simp only [if_pos h]⟩
      have := h'.2 k hk
      rw [e] at this
      cases this
    · exact .inr (.inl (by simp only [if_neg h]))
theorem nodup_fit {α : Type} [DecidableEq α] : ∀ (l m : List α), l.Nodup → (∀ x ∈ l, x ∈ m) → l.length ≤ m.length
  | [], m, _, _ => Nat.zero_le _
  | x :: l, m, nd, h => by
    have hx := h x List.mem_cons_self
    obtain ⟨n1, n2⟩ := List.nodup_cons.mp nd
    have ih := nodup_fit l (m.erase x) n2 fun y hy => (List.mem_erase_of_ne (fun e => n1 (by rw [← e]; exact hy))).mpr (h y (List.mem_cons_of_mem _ hy))
    rw [List.length_erase_of_mem hx] at ih
    have := List.length_pos_of_mem hx
    rw [List.length_cons]
    omega
theorem nodup_dd_len {ks : List (List Int)} {L : List (Addr × List Int)} (h1 : ∀ p ∈ L, p.2 ∈ ks) (nd : (L.map (·.2)).Nodup) : L.length ≤ (dd ks).length := by
  have q := nodup_fit _ (dd ks) nd fun k hk => by
    obtain ⟨p, hp, rfl⟩ := List.mem_map.mp hk
    exact mem_dd.mpr (h1 p hp)
  rwa [List.length_map] at q
theorem ssetB_cases (xs : List D) (r : R D) : (∃ ks : List (List Int), xs = ks.map ktup ∧ (dd ks).length ≤ 62 ∧ (∀ k ∈ ks, k ≠ []) ∧ ssetB xs r = .ok (.lst ((sortK ks).map ktup))) ∨ ssetB xs r = r := by
  unfold ssetB
  cases e : keysOf xs with
  | none => exact .inr rfl
  | some ks =>
    by_cases h : bigK ks = true
    · have h' := h
      unfold bigK at h'
      simp only [Bool.and_eq_true, decide_eq_true_eq, List.all_eq_true, Bool.not_eq_true'] at h'
      refine .inl ⟨ks, keysOf_some e, h'.2.1, fun k hk e => ?_, by simp only [if_pos h]⟩
      have := h'.2.2 k hk
      rw [e] at this
      cases this
    · exact .inr (by simp only [if_neg h])
theorem sset_cases (d : D) : (∃ ks : List (List Int), d = .lst (ks.map ktup) ∧ (dd ks).length ≤ 62 ∧ (∀ k ∈ ks, k ≠ []) ∧ D.sset d = .ok (.lst ((sortK ks).map ktup))) ∨ (∃ ks : List (List Int), (d = .lst (ks.map ktup) ∨ d = .tup (ks.map ktup)) ∧ ks.length < 64 ∧ (∀ k ∈ ks, k ≠ []) ∧ D.sset d = .ok (.lst ((sortK ks).map ktup))) ∨ (∃ ns : List Int, d = .lst (ns.map D.int) ∧ ns.length < 64 ∧ D.sset d = .ok (.lst ((sortI ns).map D.int))) ∨ D.sset d = .stuck := by
  unfold D.sset
  split
  · rename_i xs
    rcases ssetB_cases xs (ssetK xs (ssetI xs)) with ⟨ks, rfl, h1, h2, h3⟩ | hb
    · exact .inl ⟨ks, rfl, h1, h2, h3⟩
    rw [hb]
    refine .inr ?_
    rcases ssetK_cases xs (ssetI xs) with ⟨ks, rfl, h1, h2, h3⟩ | h | h
    · exact .inl ⟨ks, .inl rfl, h1, h2, h3⟩
    · exact .inr (.inr h)
    · rw [h]
      unfold ssetI
      cases e : asInts xs with
      | none => exact .inr (.inr rfl)
      | some ns =>
        by_cases hl : ns.length < 64
        · exact .inr (.inl ⟨ns, by rw [asInts_some e], hl, by simp only [if_pos hl]⟩)
        · exact .inr (.inr (by simp only [if_neg hl]))
  · rename_i xs
    rcases ssetK_cases xs .stuck with ⟨ks, rfl, h1, h2, h3⟩ | h | h
    · exact .inr (.inl ⟨ks, .inr rfl, h1, h2, h3⟩)
    · exact .inr (.inr (.inr h))
    · exact .inr (.inr (.inr h))
  · exact .inr (.inr (.inr rfl))
section
variable {X : Cx} {W : WX} {a : Expr} {fa : Env → R D}
theorem sset_lay {Hi H1 : Hp} {ks : List (List Int)} {L L' L1 : List (Addr × List Int)} {c : Addr} {Q : VK} {E : XK} (sub : Ex Hi H1) (e2 : L.map (·.2) = ks) (e3 : ∀ p ∈ L, Hi p.1 = some (.tup (p.2.map V.int))) (m1 : ∀ p ∈ L', p ∈ L) (m2 : ∀ p ∈ L, p.2 ∈ L'.map (·.2)) (hn : H1 c = none) (hp1 : PstD X.K X.mg Hi H1 (.ok (.lst ((sortK ks).map ktup))) Q E) (pm : L1.Perm L') (nd : (L1.map (·.2)).Nodup) {t : Addr} (hn2 : upd H1 c (SetTO X.prog X.w c L') t = none) : Q (.ref t) (upd (upd H1 c (SetTO X.prog X.w c L')) t (.lst ((L1.mergeSort fun p q => decide (p.2 ≤ q.2)).map fun q => V.ref q.1))) := by
  have hs := sortK_of (ks := ks) (L := L') (L1 := L1) (fun p hp => by rw [← e2]; exact List.mem_map.mpr ⟨p, m1 p hp, rfl⟩) (fun k hk => by
    rw [← e2] at hk
    obtain ⟨p, hp, rfl⟩ := List.mem_map.mp hk
    exact m2 p hp) pm nd
  have hin : ∀ q ∈ (L1.mergeSort fun p q => decide (p.2 ≤ q.2)), Hi q.1 = some (.tup (q.2.map V.int)) := fun q hq => e3 q (m1 q (pm.mem_iff.mp ((List.mergeSort_perm _ _).mem_iff.mp hq)))
  have rr := reps_of_keys (K := X.K) hin
  rw [hs] at rr
  have l0 : Le Hi H1 Hi (upd H1 c (SetTO X.prog X.w c L')) := Le.new0 sub hn
  exact hp1 _ _ _ (l0.trans (Le.new1 l0.sub hn2)) (mk_lst l0.sub rr hn2)
theorem sset_srt {Hi H1 : Hp} {ks : List (List Int)} {L L' : List (Addr × List Int)} {c : Addr} {Q : VK} {E : XK} (sub : Ex Hi H1) (e2 : L.map (·.2) = ks) (h2 : ∀ k ∈ ks, k ≠ []) (e3 : ∀ p ∈ L, Hi p.1 = some (.tup (p.2.map V.int))) (m1 : ∀ p ∈ L', p ∈ L) (m2 : ∀ p ∈ L, p.2 ∈ L'.map (·.2)) (hn : H1 c = none) (hp1 : PstD X.K X.mg Hi H1 (.ok (.lst ((sortK ks).map ktup))) Q E) : rSortedD X.K X.prog X.w [V.ref c] (upd H1 c (SetTO X.prog X.w c L')) Q := by
  have ne : ∀ p ∈ L', H1 p.1 = some (.tup (p.2.map V.int)) := fun p hp => sub _ _ (e3 p (m1 p hp))
  have ne2 : ∀ p ∈ L', p.1 ≠ c := fun p hp e => by
    have := ne p hp
    rw [e, hn] at this
    cases this
  exact ⟨c, L', rfl, upd_same, fun p hp => SqT.of (by rw [upd_ne (ne2 p hp)]; exact ne p hp), fun p hp => h2 p.2 (by rw [← e2]; exact List.mem_map.mpr ⟨p, m1 p hp, rfl⟩), fun L1 pp pm nd hn2 => sset_lay sub e2 e3 m1 m2 hn hp1 pm nd hn2⟩
theorem se_sset {p p2 q2 pos : Pos} (hc : X.calm = true) (hu : X.A.units + 65 < cLine) (hgs : glOk X.env.scope "sorted" = true) (hms : X.mg "sorted" = none) (hg : glOk X.env.scope "set" = true) (hm : X.mg "set" = none) (hpl : plain a = true) (ha : SE X W a fa) :
    SE X W (.Call (.Name "sorted" p) [.Call (.Name "set" p2) [a] [] q2] [] pos) (fun ρ => do
    let x ← fa ρ
    D.sset x) := by
  obtain ⟨g1, g2, g3⟩ := gl_of hgs
  obtain ⟨k1, k2, k3⟩ := gl_of hg
  have hset : PE X (.Call (.Name "set" p2) [a] [] q2) _ := pe_callTy ((cr_few hc (by omega)).or ((cr_setOfT hc (by omega)).or ((cr_setOfTT hc (by omega)).or (cr_setOfI hc)))) k1 hm (by decide +kernel) (pa_cons ha pa_nil (star_cons hpl)) k3 k2 (star_cons hpl) rfl
  refine PE.imp (pe_callB ((cr_sortedD hc hu).or (cr_sortedI hc)) g1 hms (by decide +kernel) (pa_cons hset pa_nil (star_cons rfl)) g3 g2 (star_cons rfl) rfl) fun σ H Q ⟨ρ, Hs, he, hr, hp⟩ => ⟨ρ, Hs, he, hr, hp.bind fun d _ v Hi H1 l rv hp1 => ?_⟩
  rcases sset_cases d with ⟨ks, rfl, h1, h2, h3⟩ | ⟨ks, hd, h1, h2, h3⟩ | ⟨ns, rfl, h1, h3⟩ | h
  · rw [h3] at hp1
    obtain ⟨b, vs, rfl, q1, q2⟩ := rv.lstI
    obtain ⟨L, e1, e2, e3⟩ := reps_keys q2
    subst e1
    have few : ∀ L' : List (Addr × List Int), (∀ p ∈ L', p ∈ L) → (L'.map (·.2)).Nodup → L'.length + 1 < 64 := fun L' m nd => by
      have := nodup_dd_len (ks := ks) (fun p hp => by rw [← e2]; exact List.mem_map.mpr ⟨p, m p hp, rfl⟩) nd
      omega
    exact .inl ⟨b, L, ⟨rfl, SqL.of (l.sub _ _ q1), fun p hp => SqT.of (l.sub _ _ (e3 p hp))⟩, few, fun c L' hn m1 m2 => .inl (sset_srt l.sub e2 h2 e3 m1 m2 hn hp1)⟩
  · rw [h3] at hp1
    rcases hd with rfl | rfl
    · obtain ⟨b, vs, rfl, q1, q2⟩ := rv.lstI
      obtain ⟨L, e1, e2, e3⟩ := reps_keys q2
      subst e1
      exact .inr (.inl ⟨b, L, rfl, SqL.of (l.sub _ _ q1), fun p hp => SqT.of (l.sub _ _ (e3 p hp)), by rw [← List.length_map (f := (·.2)), e2]; exact h1, fun c L' hn m1 m2 => .inl (sset_srt l.sub e2 h2 e3 m1 m2 hn hp1)⟩)
    · obtain ⟨b, vs, rfl, q1, q2⟩ := rv.tupI
      obtain ⟨L, e1, e2, e3⟩ := reps_keys q2
      subst e1
      exact .inr (.inr (.inl ⟨b, L, rfl, SqT.of (l.sub _ _ q1), fun p hp => SqT.of (l.sub _ _ (e3 p hp)), by rw [← List.length_map (f := (·.2)), e2]; exact h1, fun c L' hn m1 m2 => .inl (sset_srt l.sub e2 h2 e3 m1 m2 hn hp1)⟩))
  · rw [h3] at hp1
    obtain ⟨b, vs, rfl, q1, q2⟩ := rv.lstI
    have ev := q2.intsI
    subst ev
    refine .inr (.inr (.inr ⟨b, ns, rfl, SqL.of (l.sub _ _ q1), h1, fun c n hn hle => .inr ⟨c, fun j => decide (j ∈ ns), n, rfl, upd_same, by omega, fun ms t pw hm hn2 => ?_⟩⟩))
    have e := sortI_of (ns := ns) pw fun k => by rw [hm k]; exact decide_eq_true_iff
    have l0 : Le Hi H1 Hi (upd H1 c (SetO X.w c (fun j => decide (j ∈ ns)) n)) := Le.new0 l.sub hn
    refine hp1 _ _ _ (l0.trans (Le.new1 l0.sub hn2)) ?_
    rw [← e]
    exact mk_lst l0.sub Reps.ints hn2
  · rw [h] at hp1
    exact hp1.elim
theorem srt_cases (d : D) : (∃ ks : List (List Int), d = .tup (ks.map ktup) ∧ ks.length ≤ 1000 ∧ (∀ k ∈ ks, k ≠ []) ∧ D.srt d = .ok (.lst ((ks.mergeSort fun a b => decide (a ≤ b)).map ktup))) ∨ D.srt d = .stuck := by
  unfold D.srt
  split
  · rename_i xs
    cases e : keysOf xs with
    | none => exact .inr rfl
    | some ks =>
      by_cases h : (decide (ks.length ≤ 1000) && ks.all (fun k => !k.isEmpty && decide (k.length ≤ 100))) = true
      · have h' := h
        simp only [Bool.and_eq_true, decide_eq_true_eq, List.all_eq_true, Bool.not_eq_true'] at h'
        refine .inl ⟨ks, by rw [keysOf_some e], h'.1, fun k hk e => ?_, by simp only [if_pos h]⟩
        have := (h'.2 k hk).1
        rw [e] at this
        cases this
      · exact .inr (by simp only [if_neg h])
  · exact .inr rfl
theorem se_srt {p pos : Pos} (hc : X.calm = true) (hu : X.A.units + 65 < cLine) (hgs : glOk X.env.scope "sorted" = true) (hms : X.mg "sorted" = none) (hpl : plain a = true) (ha : SE X W a fa) :
    SE X W (.Call (.Name "sorted" p) [a] [] pos) (fun ρ => do
    let x ← fa ρ
    D.srt x) := by
  obtain ⟨g1, g2, g3⟩ := gl_of hgs
  refine PE.imp (pe_callB (cr_srt hc hu) g1 hms (by decide +kernel) (pa_cons ha pa_nil (star_cons hpl)) g3 g2 (star_cons hpl) rfl) fun σ H Q ⟨ρ, Hs, he, hr, hp⟩ => ⟨ρ, Hs, he, hr, hp.bind fun d _ v Hi H1 l rv hp1 => ?_⟩
  rcases srt_cases d with ⟨ks, rfl, h1, h2, h3⟩ | h
  · rw [h3] at hp1
    obtain ⟨b, vs, rfl, q1, q2⟩ := rv.tupI
    obtain ⟨L, e1, e2, e3⟩ := reps_keys q2
    subst e1
    refine ⟨b, L, rfl, SqT.of (l.sub _ _ q1), fun p hp => SqT.of (l.sub _ _ (e3 p hp)), fun p hp => h2 p.2 (by rw [← e2]; exact List.mem_map.mpr ⟨p, hp, rfl⟩), by rw [← List.length_map (f := (·.2)), e2]; exact h1, fun t hn => ?_⟩
    have rr := reps_of_keys (K := X.K) (L := L.mergeSort fun p q => decide (p.2 ≤ q.2)) (H := Hi) fun q hq => e3 q ((List.mergeSort_perm _ _).mem_iff.mp hq)
    have hs : (L.mergeSort fun p q => decide (p.2 ≤ q.2)).map (·.2) = ks.mergeSort fun a b => decide (a ≤ b) := by
      rw [List.map_mergeSort (r := fun p q : Addr × List Int => decide (p.2 ≤ q.2)) (s := fun a b => decide (a ≤ b)) (f := fun p : Addr × List Int => p.2) (fun a _ b _ => rfl), e2]
    rw [hs] at rr
    exact hp1 _ _ _ (Le.new1 l.sub hn) (mk_lst l.sub rr hn)
  · rw [h] at hp1
    exact hp1.elim
theorem se_dic0 {pos0 : Pos} : SE X W (.Dict [] [] pos0) (fun _ => .ok .dic) :=
  PE.imp pe_dnewK fun σ H Q ⟨ρ, Hs, he, hr, hp⟩ => fun p hn => hp _ _ _ (Le.new1 he hn) (.dic upd_same)
theorem ints_vals : ∀ {ns : List Int} {us : List Value}, Vals (ns.map V.int) us → PyProof.Rows.IntsAre us ns
  | [], _, .nil => .nil
  | n :: ns, _, .cons r t => by
    obtain ⟨k, rfl⟩ := r
    exact .cons n k (ints_vals t)
theorem range_vals (ns : List Int) : (List.range ns.length).map (fun i => ns.getD i 0) = ns := by
  apply List.ext_getElem (by simp)
  intro i h1 h2
  simp [h2]
theorem met_is (ns : List Int) : PyProof.Rows.firstMet (fun i => ns.getD i 0) ns.length = metI ns := by
  unfold PyProof.Rows.firstMet metI
  rw [range_vals]
  rfl
theorem metI_le (ns : List Int) : (metI ns).length ≤ ns.length := by
  rw [← met_is]
  exact PyProof.Rows.firstMet_length_le _ _
theorem se_lset {p p2 q2 pos : Pos} (hc : X.calm = true) (hgs : glOk X.env.scope "len" = true) (hms : X.mg "len" = none) (hg : glOk X.env.scope "set" = true) (hm : X.mg "set" = none) (hpl : plain a = true) (ha : SE X W a fa) :
    SE X W (.Call (.Name "len" p) [.Call (.Name "set" p2) [a] [] q2] [] pos) (fun ρ => do
    let x ← fa ρ
    D.lset x) := by
  obtain ⟨g1, g2, g3⟩ := gl_of hgs
  obtain ⟨k1, k2, k3⟩ := gl_of hg
  refine ⟨fun pins s σ H Q I h => ?_⟩
  obtain ⟨ρ, Hs, he, hr, hp⟩ := h
  refine Call_ (ld_blt I g1 hms PySem.boot_len ?_)
  refine PyProof.Rows.callWith_builtin1 (PyProof.Rows.args_cons ?_ rfl) rfl rfl
  refine Call_ (ld_blt I k1 hm PyProof.Rows.boot_set ?_)
  have na : starEach [a] X.env = (false, eval a X.env) :: starEach [] X.env := star_cons hpl
  refine PyProof.Rows.callWith_type1 (PyProof.Rows.args_cons (thn (ha.run pins s σ H (fun v H1 => ∃ ns : List Int, ∃ l : Addr, v = V.ref l ∧ SqL X.K H1 l (ns.map V.int) ∧ ns.length ≤ 4000 ∧ Q (.int (metI ns).length) H1) I ⟨ρ, Hs, he, hr, hp.bind fun d _ v Hi H1 l rv hp1 => ?_⟩) fun v s1 ⟨x, H1, I1, r1, q1⟩ => PyProof.Rows.args_nil ?_) na) na rfl
  · cases d with
    | lst xs =>
      cases hi : asInts xs with
      | none => simp [D.lset, hi] at hp1; exact hp1.elim
      | some ns =>
        by_cases hz : ns.length ≤ 4000
        · have hq : PstD X.K X.mg Hi H1 (.ok (.int (metI ns).length)) Q (fun c d H' => W c d σ H') := by simpa [D.lset, hi, hz] using hp1
          have ex := asInts_some hi
          subst ex
          obtain ⟨b, vs, rfl, e1, e2⟩ := rv.lstI
          have ev := e2.intsI
          subst ev
          exact ⟨ns, b, rfl, SqL.of (l.sub _ _ e1), hz, hq.now l.sub (.int _)⟩
        · simp [D.lset, hi, hz] at hp1
          exact hp1.elim
    | _ => exact hp1.elim
  · obtain ⟨ns, b, rfl, hq, hl, q1⟩ := q1
    cases r1
    obtain ⟨its, r, pl, hz⟩ := I1.list hq
    have hlen : its.toArray.size = ns.length := by rw [List.size_toArray, ← r.length, List.length_map]
    refine call_set_list (I1.ok.hd hc) pl.isList (by simpa using ints_vals r) (by rw [hlen]; unfold scanBound; omega) fun h' tk hS hk => ?_
    refine PyProof.Rows.args_nil ?_
    rw [hlen, met_is] at hS
    have hle := metI_le ns
    obtain ⟨o, es, ep, t, ho, hex, hd, _, _, _, hf, hn⟩ := hS
    have I2 : Inv X pins σ H1 { s1 with heap := h', toks := tk } := I1.kept fun b o e => hk b o (Heap.lt_size e) e
    exact call_len_set ho hex hd hf (by rw [hn] <;> omega) ⟨.int (metI ns).length, H1, I2.tok _, ⟨_, by rw [hn]⟩, q1⟩
end
end Py

namespace Py
open PySem PySem.Spec PyProof.Rows L2
section
variable {X : Cx} {W : WX} {a b : Expr} {fa fb : Env → R D} {pos : Pos}
theorem se_dix (hu : X.A.units + 9 < cLine) (hpl : NoSl b) (ha : SE X W a fa) (hb : SE X W b fb) : SE X W (.Subscript a b pos) (fun ρ => do
    let x ← fa ρ
    let y ← fb ρ
    D.dix x y) := by
  refine PE.imp (pe_dgetN hu ha hb hpl) fun σ H Q ⟨ρ, Hs, he, hr, hp⟩ => ⟨ρ, Hs, he, hr, hp.bind fun d _ v Hi H1 l rv hp1 => ⟨ρ, Hi, l.sub, hr.mono l.old, hp1.bind fun d2 _ v2 Hj H2 l2 rv2 hp2 => ?_⟩⟩
  cases d with
  | dct ks ys =>
    cases d2 with
    | str x =>
      have hp2 : PstD X.K X.mg Hj H2 (match (ks.zip ys).lookup x with | some d => .ok d | none => .stuck) Q _ := hp2
      cases q : (ks.zip ys).lookup x with
      | none => rw [q] at hp2; exact hp2.elim
      | some d =>
        rw [q] at hp2
        obtain ⟨p, kvs, rfl, e1, e2, r⟩ := (rv.mono l2.old).dctI
        obtain ⟨u, h1, h2⟩ := dct_lk e2 r q
        rw [rv2.strI]
        refine ⟨p, u, rfl, .inl ?_, hp2.now l2.sub h2⟩
        rw [← h1]
        exact DGet.k (k := Sum.inr x) (l2.sub _ _ e1)
    | _ => exact hp2.elim
  | dkt zs =>
    obtain ⟨a, o, xs, rfl, e1, D1, r1⟩ := (rv.mono l2.old).dktI
    cases d2 with
    | tup ds =>
      match ds, rv2, hp2 with
      | [.int p, .tup [.int x, .int y]], rv2, hp2 =>
        have hp2 : PstD X.K X.mg Hj H2 (match dkGet zs (p, x, y) with
          | some (some i) => .ok (.int i)
          | some none => .ok .non
          | none => .stuck) Q _ := hp2
        obtain ⟨b, vs, rfl, f1, f2⟩ := rv2.tupI
        cases f2 with
        | cons g1 f2 =>
          cases f2 with
          | cons g2 f2 =>
            cases f2
            obtain ⟨c, us, rfl, k1, k2⟩ := g2.tupI
            cases k2 with
            | cons j1 k2 =>
              cases k2 with
              | cons j2 k2 =>
                cases k2
                have g1 := g1.intI
                have j1 := j1.intI
                have j2 := j2.intI
                subst g1 j1 j2
                have kb : KeyAt H2 (p, x, y) b := ⟨c, l2.sub _ _ f1, l2.sub _ _ k1⟩
                cases q : dkGet zs (p, x, y) with
                | none => rw [q] at hp2; exact hp2.elim
                | some yy =>
                  refine ⟨a, oV yy, rfl, .inr ⟨o, xs, zs, (p, x, y), b, yy, l2.sub _ _ e1, D1, r1.mono fun b xs => l2.sub b _, rfl, kb, q, rfl⟩, ?_⟩
                  rw [q] at hp2
                  cases yy with
                  | none => exact hp2.now l2.sub .non
                  | some i => exact hp2.now l2.sub (.int i)
    | _ => exact hp2.elim
  | _ => cases d2 <;> exact hp2.elim
theorem se_din (no : Bool) (hu : X.A.units + 1 < cLine) (ha : SE X W a fa) (hb : SE X W b fb) : PC X (if no then .NotIn else .In) a b (tD X.K X.mg W (fun ρ => do
    let x ← fa ρ
    let y ← fb ρ
    D.din no x y)) := by
  have key : ∀ (σ : L2.St) (H : Hp) (Q : VK), tD X.K X.mg W (fun ρ => do
      let x ← fa ρ
      let y ← fb ρ
      D.din no x y) σ H Q → (tD X.K X.mg W fa) σ H fun y H1 => (tD X.K X.mg W fb) σ H1 fun x H2 => ∃ a o, x = .ref a ∧ DGet H2 a y o ∧ Q (.bl (if no then !o.isSome else o.isSome)) H2 := fun σ H Q ⟨ρ, Hs, he, hr, hp⟩ =>
    ⟨ρ, Hs, he, hr, hp.bind fun d _ v Hi H1 l rv hp1 => ⟨ρ, Hi, l.sub, hr.mono l.old, hp1.bind fun d2 _ v2 Hj H2 l2 rv2 hp2 => by
      cases d with
      | str x =>
        cases d2 with
        | dct ks ys =>
          have hp2 : PstD X.K X.mg Hj H2 (.ok (.bl (if no then !ks.contains x else ks.contains x))) Q _ := hp2
          obtain ⟨p, kvs, rfl, e1, e2, r⟩ := rv2.dctI
          rw [rv.strI]
          refine ⟨p, valV kvs (Sum.inr x), rfl, DGet.k (k := Sum.inr x) (l2.sub _ _ e1), ?_⟩
          rw [dct_has e2]
          exact hp2.now l2.sub (.bl _)
        | _ => exact hp2.elim
      | _ => exact hp2.elim⟩⟩
  cases no with
  | false => exact ⟨fun pins s σ H Q I h => (pc_din hu ha hb).run pins s σ H Q I (key σ H Q h)⟩
  | true => exact ⟨fun pins s σ H Q I h => (pc_dnotin hu ha hb).run pins s σ H Q I (key σ H Q h)⟩
end
theorem lookup_none {x : Str} : ∀ {ks : List Str} {ys : List D}, ks.length = ys.length → (ks.zip ys).lookup x = none → ks.contains x = false
  | [], _, _, _ => rfl
  | k :: ks, [], h, _ => by simp at h
  | k :: ks, y :: ys, h, q => by
    rw [List.zip_cons_cons, List.lookup_cons] at q
    rw [List.contains_cons]
    cases e : x == k with
    | true => rw [e] at q; cases q
    | false =>
      rw [e] at q
      rw [Bool.false_or]
      exact lookup_none (by simpa using h) q
section
variable {X : Cx} {W : WX}

theorem isStrC_s {a : Str} {e : Expr} (h : isStrC a e = true) : PE X e (tC (.str a)) := by
  unfold isStrC at h
  cases q : xConst e with
  | none => rw [q] at h; cases h
  | some c =>
    rw [q] at h
    obtain ⟨j, p, rfl⟩ := xConst_s q
    cases c <;> simp [Cst.is] at h
    subst h
    exact pe_str
theorem pps_ddl {pos : Pos} : ∀ {t : List (Str × Str)} {ks : List (Option Expr)} {vs : List Expr}, chkD t ks vs = true → PPs X pos ks vs (t.map fun p => (tC (.str p.1), tC (.str p.2))) ∧ ks.all (·.isSome) = true ∧ ks.length = vs.length ∧ ks.length = t.length
  | [], [], [], _ => ⟨pps_nil, rfl, rfl, rfl⟩
  | p :: t, some k :: ks, v :: vs, h => by
    simp only [chkD, Bool.and_eq_true] at h
    obtain ⟨a, b, c, d⟩ := pps_ddl (pos := pos) h.2
    exact ⟨pps_cons (isStrC_s h.1.1) (isStrC_s h.1.2) a, by simpa using b, by simp [c], by simp [d]⟩
  | [], [], _ :: _, h => by cases h
  | [], _ :: _, _, h => by cases h
  | _ :: _, [], _, h => by cases h
  | _ :: _, none :: _, _, h => by cases h
  | _ :: _, some _ :: _, [], h => by cases h
theorem tPairs_c : ∀ {t : List (Str × Str)} {σ : L2.St} {H : Hp} {Q : List (V × V) → Hp → Prop}, Q (t.map fun p => (V.str p.1, V.str p.2)) H → tPairs (t.map fun p => (tC (.str p.1), tC (.str p.2))) σ H Q
  | [], _, _, _, h => h
  | p :: t, σ, H, Q, h => tPairs_c (t := t) (σ := σ) (H := H) (Q := fun ps H3 => Q ((V.str p.1, V.str p.2) :: ps) H3) h
theorem merge_nd : ∀ (more acc : List (Key × V)), (more.map (·.1)).Nodup → (∀ p ∈ more, valV acc p.1 = none) → mergeK acc more = acc ++ more
  | [], acc, _, _ => by rw [List.append_nil]; rfl
  | p :: r, acc, hn, ha => by
    rw [List.map_cons, List.nodup_cons] at hn
    show mergeK (putK acc p.1 p.2) r = _
    rw [putK_new p.2 (ha p (by simp)), merge_nd r _ hn.2 fun q hq => ?_, List.append_assoc]
    · rfl
    · rw [valV_snoc _ _ _ _ (ha p (by simp)), if_neg (fun e : q.1 = p.1 => hn.1 (List.mem_map.mpr ⟨q, hq, e⟩))]
      exact ha q (by simp [hq])
theorem se_ddl {t : List (Str × Str)} {ks : List (Option Expr)} {vs : List Expr} {pos : Pos} (h : chkD t ks vs = true) (hl : t.length ≤ 15) (h0 : t ≠ []) : SE X W (.Dict ks vs pos) (fun _ => ddlD t) := by
  obtain ⟨a, b, c, d⟩ := pps_ddl (X := X) (pos := pos) h
  refine PE.imp (pe_disp a b c (fun e => h0 (List.length_eq_zero_iff.mp (by rw [← d, e]; rfl))) (by omega)) fun σ H Q ⟨ρ, Hs, he, hr, hp⟩ => ?_
  intro p hn
  refine tPairs_c ⟨upd_same, t.map fun q => ((Sum.inr q.1 : Key), V.str q.2), by rw [List.map_map]; rfl, by rw [List.length_map]; exact hl, ?_⟩
  unfold ddlD at hp
  by_cases nd : t.length ≤ 15 ∧ t ≠ [] ∧ (t.map (·.1)).Nodup
  · rw [if_pos nd] at hp
    have e : mergeK [] (t.map fun q => ((Sum.inr q.1 : Key), V.str q.2)) = t.map fun q => ((Sum.inr q.1 : Key), V.str q.2) := by
      rw [merge_nd _ _ ?_ fun _ _ => rfl, List.nil_append]
      have := nd.2.2
      rw [List.map_map]
      have e2 : (t.map ((fun x : Key × V => x.1) ∘ fun q : Str × Str => ((Sum.inr q.1 : Key), V.str q.2))) = (t.map (·.1)).map Sum.inr := by rw [List.map_map]; rfl
      rw [e2]
      exact List.Pairwise.map _ (fun a b hab z => hab (Sum.inr.inj z)) this
    rw [e, upd_upd]
    refine hp _ _ _ (Le.new1 he hn) (.dct upd_same (by rw [List.map_map, List.map_map]; rfl) ?_)
    rw [List.map_map]
    have : Reps X.K (upd Hs p (.dK (t.map fun q => ((Sum.inr q.1 : Key), V.str q.2)))) ((t.map (·.2)).map D.str) ((t.map (·.2)).map V.str) := Reps.strs
    rw [List.map_map, List.map_map] at this
    exact this
  · rw [if_neg nd] at hp
    exact hp.elim
theorem se_dgt {a b c : Expr} {fa fb fc : Env → R D} {ap pos : Pos} (hu : X.A.units + 1 < cLine) (ha : SE X W a fa) (hb : SE X W b fb) (hc : SE X W c fc) (ho : baseOk a = true) (hl : (ap.endLine == pos.line) = true) (h1 : plain b = true) (h2 : plain c = true) : SE X W (.Call (.Attribute a "get" ap) [b, c] [] pos) (fun ρ => do
    let x ← fa ρ
    if x.isDc then do
      let y ← fb ρ
      let z ← fc ρ
      D.dgt x y z
    else .stuck) := by
  have st : starEach [b, c] X.env = [(false, eval b X.env), (false, eval c X.env)] := (star_cons h1).trans (by rw [star_cons h2]; rfl)
  have m : M2 X a "get" ap b c pos := ⟨base_of ho, by rw [st]; rfl, hl, by rw [st]; rfl⟩
  refine PE.imp (pe_dget2 hu ha hb hc m) fun σ H Q ⟨ρ, Hs, he, hr, hp⟩ => ⟨ρ, Hs, he, hr, hp.bind fun d _ v Hi H1 l rv hp1 => ?_⟩
  cases d with
  | dct ks ys =>
    have hp1 : PstD X.K X.mg Hi H1 (fb ρ >>= fun y => fc ρ >>= fun z => D.dgt (.dct ks ys) y z) Q _ := hp1
    obtain ⟨p, kvs, rfl, e1, e2, r⟩ := rv.dctI
    refine ⟨p, rfl, .inl ⟨kvs, .inl (l.sub _ _ e1)⟩, ρ, Hi, l.sub, hr.mono l.old, hp1.bind fun d2 _ v2 Hj H2 l2 rv2 hp2 => ⟨ρ, Hj, l2.sub, (hr.mono l.old).mono l2.old, hp2.bind fun d3 _ v3 Hk H3 l3 rv3 hp3 => ?_⟩⟩
    cases d2 with
    | str x =>
      have hp3 : PstD X.K X.mg Hk H3 (match (ks.zip ys).lookup x with | some d => .ok d | none => .ok d3) Q _ := hp3
      have e1' := l3.sub _ _ (l3.old _ _ (l2.old _ _ e1))
      have r' := (r.mono l2.old).mono l3.old
      rw [rv2.strI]
      refine ⟨valV kvs (Sum.inr x), DGet.k (k := Sum.inr x) e1', ?_⟩
      cases q : (ks.zip ys).lookup x with
      | none =>
        rw [q] at hp3
        have : valV kvs (Sum.inr x) = none := by
          have h1 := dct_has (x := x) e2
          have h2 : ks.contains x = false := by
            have hlen : ks.length = ys.length := by
              have a1 := congrArg List.length e2
              rw [List.length_map, List.length_map] at a1
              have a2 := r.length
              rw [List.length_map] at a2
              omega
            exact lookup_none hlen q
          rw [h2] at h1
          cases z : valV kvs (Sum.inr x) with
          | none => rfl
          | some _ => rw [z] at h1; cases h1
        rw [this]
        exact hp3.now l3.sub rv3
      | some d =>
        rw [q] at hp3
        obtain ⟨u, h1, h2⟩ := dct_lk e2 r' q
        rw [h1]
        exact hp3.now l3.sub h2
    | _ => exact hp3.elim
  | _ => exact hp1.elim
end
theorem noSl {b : Expr} (h : plain b = true) : NoSl b := fun ov iv => by
  cases b <;> first | rfl | (cases h; done)
theorem din_bl {no : Bool} {a b d : D} (h : D.din no a b = .ok d) : ∃ k, d = .bl k := by
  unfold D.din at h
  split at h
  · cases h; exact ⟨_, rfl⟩
  · cases h
theorem dinB {X : Cx} {W : WX} {a b : Expr} {fa fb : Env → R D} {pos : Pos} (no : Bool) (hpl : plain b = true) (h : PC X (if no then .NotIn else .In) a b (tD X.K X.mg W (fun ρ => do
    let x ← fa ρ
    let y ← fb ρ
    D.din no x y))) : SE X W (.Compare a [if no then .NotIn else .In] [b] pos) (fun ρ => do
    let x ← fa ρ
    let y ← fb ρ
    D.din no x y) ∧ SB X W (.Compare a [if no then .NotIn else .In] [b] pos) (fun ρ => (do
    let x ← fa ρ
    let y ← fb ρ
    D.din no x y) >>= D.truth) := by
  have h1 : behindInMarks (if no then .NotIn else .In) b = false := by
    cases b <;> first | (cases no <;> rfl) | cases hpl
  refine ⟨pe_cmp h h1, PT.imp (pt_cmp h h1) fun σ H Q ⟨ρ, Hs, he, hr, hp⟩ => ?_⟩
  refine ⟨ρ, Hs, he, hr, hp.bind fun d ed v Hi H1 l rv hp1 => ?_⟩
  obtain ⟨x, _, h2⟩ := bind_some ed
  obtain ⟨y, _, h3⟩ := bind_some h2
  obtain ⟨k, rfl⟩ := din_bl h3
  exact ⟨k, rv.blI, Pst.now (d := k) hp1 l.sub rfl⟩
theorem few1g {X : Cx} {b : Expr} {cpos : Pos} (hst : starEach [b] X.env = [(false, eval b X.env)]) : ((backTo cpos (starEach [b] X.env)).all (fun x => !x.1) && (backToKw cpos (keywordEach [] X.env)).all (fun x => x.1.isSome)
    && decide (([b] : List Expr).length + ([] : List Keyword).length + (if ([] : List Keyword).isEmpty then 0 else 1) < 30)) = true := by
  rw [hst]
  rfl
section
variable {X : Cx} {W : WX} {b : Expr} {fb : Env → R D} {p pos ap : Pos} {x : Str} {d : Addr} {tb : List (Str × Str)}
theorem se_kix (hx : glOk X.env.scope x = true) (hm : X.mg x = some (.ref d)) (T : KTab X.K X.w d tb) (hpl : PlainIx b) (hb : SE X W b fb) : SE X W (.Subscript (.Name x p) b pos) (fun ρ => do
    let y ← fb ρ
    kixD tb y) := by
  obtain ⟨h1, h2, _⟩ := gl_of hx
  obtain ⟨es, n, D⟩ := T.kd
  refine PE.imp (pe_ix (ix_kdict (X := X)) (pe_glob (v := .ref d) h1 hm rfl h2) hb hpl) fun σ H Q ⟨ρ, Hs, he, hr, hp⟩ => ⟨ρ, Hs, he, hr, hp.bind fun y _ v Hi H1 l rv hp1 => ?_⟩
  cases y with
  | str z =>
    have hp1 : PstD X.K X.mg Hi H1 (match tb.lookup z with | some v => .ok (.str v) | none => .stuck) Q _ := hp1
    obtain ⟨r, e1, e2⟩ := T.val z
    cases q : tb.lookup z with
    | none => rw [q] at hp1; exact hp1.elim
    | some y =>
      rw [q] at hp1 e2
      obtain ⟨t, rfl⟩ := e2
      rw [rv.strI]
      exact ⟨d, z, .str y, rfl, rfl, ⟨es, n, _, D.at_, D.lit, e1, t, rfl⟩, hp1.now l.sub (.str _)⟩
  | _ => exact hp1.elim
theorem se_kget (hx : glOk X.env.scope x = true) (hm : X.mg x = some (.ref d)) (T : KTab X.K X.w d tb) (hb : SE X W b fb) (hl : (ap.endLine == pos.line) = true) (hst : starEach [b] X.env = [(false, eval b X.env)]) : SE X W (.Call (.Attribute (.Name x p) "get" ap) [b] [] pos) (fun ρ => do
    let y ← fb ρ
    kgetD tb y) := by
  obtain ⟨h1, h2, _⟩ := gl_of hx
  obtain ⟨es, n, D⟩ := T.kd
  refine ⟨fun pins s σ H Q I ⟨ρ, Hs, he, hr, hp⟩ => ?_⟩
  refine wpAny_Call_method rfl (few1g hst) hl PySem.F.plainAttrs_dict PySem.F.slot_dict_get PySem.F.type_dict_get (thn ((pe_glob (v := .ref d) h1 hm rfl h2).run pins s σ H (fun v H1 => v = .ref d ∧ H1 = H) I ⟨rfl, rfl⟩) fun u s1 ⟨x0, H1, I1, rx, e0, e3⟩ => ?_)
  subst e0 e3
  obtain rfl : u = Value.ref d := rx
  have M1 := PySem.W.mapOf_K (prog := X.prog) (w := X.w) I1.kIn D.at_ D.lit
  refine ⟨M1.typeIs, fun b q => ?_, ?_⟩
  · cases q
    exact ⟨_, I1.kIn _ _ D.at_, rfl⟩
  rw [hst]
  refine Calls.callWith_builtin rfl (Calls.evalArgs_plain (Calls.spliced_cons (thn (hb.run pins s1 σ H1 _ I1 ⟨ρ, Hs, he, hr, hp.bind fun y _ v Hi H2 l rv hp1 => (?_ : (∃ z o, v = .str z ∧ tb.lookup z = o ∧ Q (match o with | some y => .str y | none => .non) H2))⟩) fun iv s2 ⟨y, H2, I2, ry, z, o, ey, ez, q⟩ => Calls.spliced_nil ?_)))
  · cases y with
    | str z =>
      have hp1 : PstD X.K X.mg Hi H2 (match tb.lookup z with | some v => .ok (.str v) | none => .ok .non) Q _ := hp1
      refine ⟨z, _, rv.strI, rfl, ?_⟩
      cases q : tb.lookup z with
      | none => rw [q] at hp1; exact hp1.now l.sub .non
      | some y => rw [q] at hp1; exact hp1.now l.sub (.str _)
    | _ => exact hp1.elim
  · subst ey
    obtain ⟨t, rfl⟩ := ry
    have M2 := PySem.W.mapOf_K (prog := X.prog) (w := X.w) I2.kIn D.at_ D.lit
    obtain ⟨r, e1, e2⟩ := T.val z
    refine call_meetsIn PySem.F.slot_dict_get M2.typeIs PySem.F.entry_dict_get (PySem.F.args_dict_get_2 _ _) (meets_dict_get (strKind X.prog X.w) d (strKind_is X.prog X.w z t) D.low) ⟨_, M2, ?_⟩
    rw [PySem.W.find_K D.at_ e1]
    rw [ez] at e2
    cases o with
    | none =>
      subst e2
      exact ⟨.non, H2, I2.tok _, rfl, q⟩
    | some y =>
      obtain ⟨t2, rfl⟩ := e2
      exact ⟨.str y, H2, I2.tok _, ⟨t2, rfl⟩, q⟩
end
end Py

namespace Py
open PySem PySem.Spec PyProof.Rows L2

theorem XOk.blk {X : Cx} {C : Cfg} {cs : List Cal} {k : Nat} {s : Shared} {H : Hp} {scope : Scope} {env : PySem.Env} {fp : List Addr} (h : XOk X C cs k) : XOk (X.blk s H scope env fp) C cs k :=
  ⟨h.calm, h.names, h.nd, h.room, h.fns, h.cn, h.free, h.glob, h.exs, h.km, h.mxs⟩
theorem XOk.units {X : Cx} {C : Cfg} {cs : List Cal} {k : Nat} (h : XOk X C cs k) : X.A.units + 65 < cLine := by
  have := h.room.un
  omega
section
variable {C : Cfg} {cs : List Cal} {kk : Nat}
def EOk (C : Cfg) (cs : List Cal) (kk : Nat) (a : E) : Prop := ∀ (X : Cx) (W : WX) (e : Expr), XOk X C cs kk → Takes X W → chk C X.env.scope a e = true →
  SE X W e (ev (fnsOf cs) a) ∧ SB X W e (fun ρ => ev (fnsOf cs) a ρ >>= D.truth)
structure EsOk (C : Cfg) (cs : List Cal) (kk : Nat) (es : Es) : Prop where
  args : ∀ (X : Cx) (W : WX) (xs : List Expr), XOk X C cs kk → Takes X W → chks C X.env.scope es xs = true → SA X W xs (evs (fnsOf cs) es) ∧ (∀ x ∈ xs, plain x = true) ∧ xs.length = es.len ∧
    (es.len ≠ 0 → ∀ pos, SE X W (.BoolOp .And xs pos) (evAnd (fnsOf cs) es) ∧ SE X W (.BoolOp .Or xs pos) (evOr (fnsOf cs) es) ∧ SW X W (.BoolOp .And xs pos) (fun ρ => evAnd (fnsOf cs) es ρ >>= D.truth) ∧ SW X W (.BoolOp .Or xs pos) (fun ρ => evOr (fnsOf cs) es ρ >>= D.truth))
  part : ∀ (X : Cx) (W : WX) (o : Option Expr), XOk X C cs kk → Takes X W → chkPart C X.env.scope es o = true → SO X W o (evPart (fnsOf cs) es)
  tests : ∀ (X : Cx) (W : WX) (xs : List Expr), XOk X C cs kk → Takes X W → chkTests C X.env.scope es xs = true → PTs X xs (tDB X.K X.mg W (evTests (fnsOf cs) es))
  fs : ∀ (X : Cx) (W : WX) (xs : List Expr), XOk X C cs kk → Takes X W → chkFs C X.env.scope es xs = true → ∃ ts, PJ X xs ts ∧ ∀ (acc : Str) (σ : L2.St) (H : Hp) (Q : VK), tD X.K X.mg W (evFs (fnsOf cs) es acc) σ H Q → tJs ts acc σ H fun out H1 => Q (.str out) H1
def ItOk (C : Cfg) (cs : List Cal) (kk : Nat) (it : It) : Prop := ∀ (X : Cx) (W : WX) (tg e : Expr), XOk X C cs kk → Takes X W → chkIt C X.env.scope it e = true → (∀ a b, it = .zip a b → ∃ ks k p, tg = .Tuple ks k p) → SI X W tg e (evIt (fnsOf cs) it) ∧ plain e = true
theorem evs_len {Φ : Fns} : ∀ {es : Es} {ρ : Env} {ds : List D}, evs Φ es ρ = .ok ds → ds.length = es.len
  | .nil, ρ, ds, h => by
    rw [evs] at h
    cases h
    rfl
  | .cons e es, ρ, ds, h => by
    rw [evs] at h
    obtain ⟨x, h1, h⟩ := bind_some h
    obtain ⟨xs, h2, h⟩ := bind_some h
    cases h
    show xs.length + 1 = es.len + 1
    rw [evs_len h2]
theorem sb_plain {X : Cx} {W : WX} {e : Expr} {f : Env → R D} (h : SE X W e f) (he : ∀ whole, isTrue e X.env whole = (do let v ← whole; standAt e.pos; holding [v] (truthy v))) : SE X W e f ∧ SB X W e (fun ρ => f ρ >>= D.truth) := ⟨h, sb_of h he⟩
theorem glob_free {X : Cx} (h : XOk X C cs kk) {x : Str} (hx : C.bl.contains x = true) : X.mg x = none := h.free x (List.contains_iff_mem.mp hx)

theorem ok_var (i : Nat) : EOk C cs kk (.var i) := fun X W e hX tk h => by
  rw [chk] at h
  cases q : xName e with
  | none => rw [q] at h; cases h
  | some x =>
    rw [q] at h
    obtain ⟨p, rfl⟩ := xName_s q
    simp only [Bool.and_eq_true, decide_eq_true_eq] at h
    refine sb_plain ?_ fun _ => rfl
    have := se_var (W := W) (pos := p) (show X.N[i]? = some x by rw [hX.names]; exact h.1) h.2
    refine PE.imp this fun σ H Q hh => ?_
    obtain ⟨ρ, Hs, he, hr, hp⟩ := hh
    rw [ev] at hp
    exact ⟨ρ, Hs, he, hr, hp⟩
theorem ok_cst (c : Cst) : EOk C cs kk (.cst c) := fun X W e hX tk h => by
  rw [chk] at h
  cases q : xConst e with
  | none => rw [q] at h; cases h
  | some x =>
    rw [q] at h
    obtain ⟨j, p, rfl⟩ := xConst_s q
    refine sb_plain ?_ fun _ => rfl
    have e : ev (fnsOf cs) (.cst c) = fun _ => .ok c.d := by funext ρ; rw [ev]
    rw [e]
    exact se_cst h
theorem ok_glo (x : Str) (c : Cst) : EOk C cs kk (.glo x c) := fun X W e hX tk h => by
  rw [chk] at h
  cases q : xName e with
  | none => rw [q] at h; cases h
  | some y =>
    rw [q] at h
    obtain ⟨p, rfl⟩ := xName_s q
    simp only [Bool.and_eq_true, decide_eq_true_eq] at h
    obtain ⟨⟨⟨rfl, h2⟩, h3⟩, h4⟩ := h
    obtain ⟨u, hm, r⟩ : ∃ u, X.mg x = some u ∧ RelV c.v u := by
      have := hX.glob (x, c) (List.contains_iff_mem.mp h3)
      cases c with
      | tab t => cases h4
      | _ => exact this
    refine sb_plain ?_ fun _ => rfl
    have e : ev (fnsOf cs) (.glo x c) = fun _ => .ok c.d := by funext ρ; rw [ev]
    rw [e]
    exact se_glo h2 hm r
theorem ok_bin (o : Bop) {a b : E} (ha : EOk C cs kk a) (hb : EOk C cs kk b) : EOk C cs kk (.bin o a b) := fun X W e hX tk h => by
  rw [chk] at h
  cases q : xBin e with
  | none => rw [q] at h; cases h
  | some t =>
    obtain ⟨x, p, y⟩ := t
    rw [q] at h
    obtain ⟨pos, rfl⟩ := xBin_s q
    simp only [Bool.and_eq_true, decide_eq_true_eq] at h
    obtain ⟨⟨rfl, h2⟩, h3⟩ := h
    refine sb_plain ?_ fun _ => rfl
    have e : ev (fnsOf cs) (.bin o a b) = fun ρ => (do
      let x ← ev (fnsOf cs) a ρ
      let y ← ev (fnsOf cs) b ρ
      o.f x y) := by funext ρ; rw [ev]
    rw [e]
    exact se_bin (ha X W x hX tk h2).1 (hb X W y hX tk h3).1
theorem ok_neg {a : E} (ha : EOk C cs kk a) : EOk C cs kk (.neg a) := fun X W e hX tk h => by
  rw [chk] at h
  cases q : xUn e with
  | none => rw [q] at h; cases h
  | some t =>
    obtain ⟨o, x⟩ := t
    rw [q] at h
    obtain ⟨pos, rfl⟩ := xUn_s q
    simp only [Bool.and_eq_true, decide_eq_true_eq] at h
    obtain ⟨rfl, h2⟩ := h
    refine sb_plain ?_ fun _ => rfl
    have e : ev (fnsOf cs) (.neg a) = fun ρ => (do
      let x ← ev (fnsOf cs) a ρ
      D.negI x) := by funext ρ; rw [ev]
    rw [e]
    exact se_neg (ha X W x hX tk h2).1
theorem ok_cmp (o : Cop) {a b : E} (ha : EOk C cs kk a) (hb : EOk C cs kk b) : EOk C cs kk (.cmp o a b) := fun X W e hX tk h => by
  rw [chk] at h
  cases q : xCmp e with
  | none => rw [q] at h; cases h
  | some t =>
    obtain ⟨x, p, y⟩ := t
    rw [q] at h
    obtain ⟨pos, rfl⟩ := xCmp_s q
    simp only [Bool.and_eq_true, decide_eq_true_eq] at h
    obtain ⟨⟨⟨rfl, h1⟩, h2⟩, h3⟩ := h
    have e : ev (fnsOf cs) (.cmp o a b) = fun ρ => (do
      let x ← ev (fnsOf cs) a ρ
      let y ← ev (fnsOf cs) b ρ
      o.f x y) := by funext ρ; rw [ev]
    rw [e]
    exact ⟨se_cmp hX.units h1 (ha X W x hX tk h2).1 (hb X W y hX tk h3).1, sb_cmp hX.units h1 (ha X W x hX tk h2).1 (hb X W y hX tk h3).1⟩
theorem ok_isn (no : Bool) {a : E} (ha : EOk C cs kk a) : EOk C cs kk (.isn no a) := fun X W e hX tk h => by
  rw [chk] at h
  cases q : xCmp e with
  | none => rw [q] at h; cases h
  | some t =>
    obtain ⟨x, p, y⟩ := t
    rw [q] at h
    obtain ⟨pos, rfl⟩ := xCmp_s q
    simp only [Bool.and_eq_true, decide_eq_true_eq] at h
    obtain ⟨⟨rfl, h1⟩, h2⟩ := h
    cases q2 : xConst y with
    | none => rw [q2] at h1; cases h1
    | some c =>
      rw [q2] at h1
      obtain ⟨j, p2, rfl⟩ := xConst_s q2
      cases c with
      | none =>
        have e : ev (fnsOf cs) (.isn no a) = fun ρ => (do
          let x ← ev (fnsOf cs) a ρ
          .ok (.bl (if no then !x.isNon else x.isNon))) := by funext ρ; rw [ev]
        rw [e]
        exact ⟨se_isn (ha X W x hX tk h2).1, sb_isn (ha X W x hX tk h2).1⟩
      | _ => cases h1
theorem ok_isb (no : Bool) {a : E} (b : Bool) (ha : EOk C cs kk a) : EOk C cs kk (.isb no a b) := fun X W e hX tk h => by
  rw [chk] at h
  cases q : xCmp e with
  | none => rw [q] at h; cases h
  | some t =>
    obtain ⟨x, p, y⟩ := t
    rw [q] at h
    obtain ⟨pos, rfl⟩ := xCmp_s q
    simp only [Bool.and_eq_true, decide_eq_true_eq] at h
    obtain ⟨⟨rfl, h1⟩, h2⟩ := h
    cases q2 : xConst y with
    | none => rw [q2] at h1; cases h1
    | some c =>
      rw [q2] at h1
      obtain ⟨j, p2, rfl⟩ := xConst_s q2
      cases c with
      | bool c =>
        have h1 : (b == c) = true := h1
        have h1 := beq_iff_eq.mp h1
        subst h1
        have e : ev (fnsOf cs) (.isb no a b) = fun ρ => (do
          let x ← ev (fnsOf cs) a ρ
          D.isb no b x) := by funext ρ; rw [ev]
        rw [e]
        exact ⟨se_isb (ha X W x hX tk h2).1, sb_isb (ha X W x hX tk h2).1⟩
      | _ => cases h1
theorem ok_chain (o1 o2 : Cop) {a b c : E} (ha : EOk C cs kk a) (hb : EOk C cs kk b) (hc : EOk C cs kk c) : EOk C cs kk (.chain o1 o2 a b c) := fun X W e hX tk h => by
  rw [chk] at h
  cases q : xChain e with
  | none => rw [q] at h; cases h
  | some t =>
    obtain ⟨x, p1, p2, y, z⟩ := t
    rw [q] at h
    obtain ⟨pos, rfl⟩ := xChain_s q
    simp only [Bool.and_eq_true, decide_eq_true_eq] at h
    obtain ⟨⟨⟨⟨⟨⟨rfl, rfl⟩, h1⟩, h2⟩, h3⟩, h4⟩, h5⟩ := h
    have e : ev (fnsOf cs) (.chain o1 o2 a b c) = fun ρ => (do
      let x ← ev (fnsOf cs) a ρ
      let y ← ev (fnsOf cs) b ρ
      let r ← o1.f x y
      let k ← D.asB r
      if k then do
        let z ← ev (fnsOf cs) c ρ
        o2.f y z
      else .ok (.bl false)) := by funext ρ; rw [ev]
    rw [e]
    exact ⟨se_chain hX.units h2 (ha X W x hX tk h3).1 (hb X W y hX tk h4).1 (hc X W z hX tk h5).1, sb_chain hX.units h2 (ha X W x hX tk h3).1 (hb X W y hX tk h4).1 (hc X W z hX tk h5).1⟩
theorem ok_and {es : Es} (hs : EsOk C cs kk es) : EOk C cs kk (.and es) := fun X W e hX tk h => by
  rw [chk] at h
  cases q : xBool e with
  | none => rw [q] at h; cases h
  | some t =>
    obtain ⟨o, xs⟩ := t
    rw [q] at h
    obtain ⟨pos, rfl⟩ := xBool_s q
    simp only [Bool.and_eq_true, decide_eq_true_eq] at h
    obtain ⟨⟨rfl, h1⟩, h2⟩ := h
    have e : ev (fnsOf cs) (.and es) = evAnd (fnsOf cs) es := by funext ρ; rw [ev]
    rw [e]
    obtain ⟨_, _, _, q⟩ := hs.args X W xs hX tk h2
    obtain ⟨q1, q2, q3, q4⟩ := q h1 pos
    exact ⟨q1, q3.pt⟩
theorem ok_or {es : Es} (hs : EsOk C cs kk es) : EOk C cs kk (.or es) := fun X W e hX tk h => by
  rw [chk] at h
  cases q : xBool e with
  | none => rw [q] at h; cases h
  | some t =>
    obtain ⟨o, xs⟩ := t
    rw [q] at h
    obtain ⟨pos, rfl⟩ := xBool_s q
    simp only [Bool.and_eq_true, decide_eq_true_eq] at h
    obtain ⟨⟨rfl, h1⟩, h2⟩ := h
    have e : ev (fnsOf cs) (.or es) = evOr (fnsOf cs) es := by funext ρ; rw [ev]
    rw [e]
    obtain ⟨_, _, _, q⟩ := hs.args X W xs hX tk h2
    obtain ⟨q1, q2, q3, q4⟩ := q h1 pos
    exact ⟨q2, q4.pt⟩
theorem ok_not {a : E} (ha : EOk C cs kk a) : EOk C cs kk (.not a) := fun X W e hX tk h => by
  rw [chk] at h
  cases q : xUn e with
  | none => rw [q] at h; cases h
  | some t =>
    obtain ⟨o, x⟩ := t
    rw [q] at h
    obtain ⟨pos, rfl⟩ := xUn_s q
    simp only [Bool.and_eq_true, decide_eq_true_eq] at h
    obtain ⟨rfl, h2⟩ := h
    have e : ev (fnsOf cs) (.not a) = fun ρ => (do
      let x ← ev (fnsOf cs) a ρ
      let k ← D.truth x
      .ok (.bl (!k))) := by funext ρ; rw [ev]
    rw [e]
    exact ⟨se_not (ha X W x hX tk h2).1, sb_not (ha X W x hX tk h2).2⟩
theorem ok_tup {es : Es} (hs : EsOk C cs kk es) : EOk C cs kk (.tup es) := fun X W e hX tk h => by
  rw [chk] at h
  cases q : xTup e with
  | none => rw [q] at h; cases h
  | some xs =>
    rw [q] at h
    obtain ⟨k, pos, rfl⟩ := xTup_s q
    simp only [Bool.and_eq_true, decide_eq_true_eq] at h
    refine sb_plain ?_ fun _ => rfl
    have e : ev (fnsOf cs) (.tup es) = fun ρ => (do
      let xs ← evs (fnsOf cs) es ρ
      .ok (.tup xs)) := by funext ρ; rw [ev]
    rw [e]
    exact se_tup (hs.args X W xs hX tk h.2).1 fun ρ ds q => by rw [evs_len q]; exact h.1
theorem ok_lst {es : Es} (hs : EsOk C cs kk es) : EOk C cs kk (.lst es) := fun X W e hX tk h => by
  rw [chk] at h
  cases q : xLst e with
  | none => rw [q] at h; cases h
  | some xs =>
    rw [q] at h
    obtain ⟨pos, rfl⟩ := xLst_s q
    simp only [Bool.and_eq_true, decide_eq_true_eq] at h
    refine sb_plain ?_ fun _ => rfl
    have e : ev (fnsOf cs) (.lst es) = fun ρ => (do
      let xs ← evs (fnsOf cs) es ρ
      .ok (.lst xs)) := by funext ρ; rw [ev]
    rw [e]
    exact se_lst (hs.args X W xs hX tk h.2).1 fun ρ ds q => by rw [evs_len q]; exact h.1
theorem ok_ix {a b : E} (ha : EOk C cs kk a) (hb : EOk C cs kk b) : EOk C cs kk (.ix a b) := fun X W e hX tk h => by
  rw [chk] at h
  cases q : xSub e with
  | none => rw [q] at h; cases h
  | some t =>
    obtain ⟨x, y⟩ := t
    rw [q] at h
    obtain ⟨pos, rfl⟩ := xSub_s q
    simp only [Bool.and_eq_true] at h
    refine sb_plain ?_ fun _ => rfl
    have e : ev (fnsOf cs) (.ix a b) = fun ρ => (do
      let x ← ev (fnsOf cs) a ρ
      let y ← ev (fnsOf cs) b ρ
      D.ix x y) := by funext ρ; rw [ev]
    rw [e]
    exact se_ix h.1.1 (ha X W x hX tk h.1.2).1 (hb X W y hX tk h.2).1
theorem ok_dix {a b : E} (ha : EOk C cs kk a) (hb : EOk C cs kk b) : EOk C cs kk (.dix a b) := fun X W e hX tk h => by
  rw [chk] at h
  cases q : xSub e with
  | none => rw [q] at h; cases h
  | some t =>
    obtain ⟨x, y⟩ := t
    rw [q] at h
    obtain ⟨pos, rfl⟩ := xSub_s q
    simp only [Bool.and_eq_true] at h
    refine sb_plain ?_ fun _ => rfl
    have e : ev (fnsOf cs) (.dix a b) = fun ρ => (do
      let x ← ev (fnsOf cs) a ρ
      let y ← ev (fnsOf cs) b ρ
      D.dix x y) := by funext ρ; rw [ev]
    rw [e]
    exact se_dix (by have := hX.units; omega) (noSl h.1.1) (ha X W x hX tk h.1.2).1 (hb X W y hX tk h.2).1
theorem ok_ddl (t : List (Str × Str)) : EOk C cs kk (.ddl t) := fun X W e hX tk h => by
  rw [chk] at h
  cases q : xDisp e with
  | none => rw [q] at h; cases h
  | some u =>
    obtain ⟨ks, vs⟩ := u
    rw [q] at h
    obtain ⟨pos, rfl⟩ := xDisp_s q
    simp only [Bool.and_eq_true, decide_eq_true_eq] at h
    obtain ⟨⟨h1, h2⟩, h3⟩ := h
    refine sb_plain ?_ fun _ => rfl
    have e : ev (fnsOf cs) (.ddl t) = fun _ => ddlD t := by funext ρ; rw [ev]
    rw [e]
    exact se_ddl h1 h2 h3
theorem ok_dgt {a b c : E} (ha : EOk C cs kk a) (hb : EOk C cs kk b) (hc : EOk C cs kk c) : EOk C cs kk (.dgt a b c) := fun X W e hX tk h => by
  rw [chk] at h
  cases q : xMeth e with
  | none => rw [q] at h; cases h
  | some u =>
    obtain ⟨o, n, xs, l⟩ := u
    rw [q] at h
    obtain ⟨ap, cp, rfl, hl⟩ := xMeth_s q
    simp only [Bool.and_eq_true, decide_eq_true_eq] at h
    obtain ⟨⟨⟨⟨rfl, h1⟩, h2⟩, h3⟩, h4⟩ := h
    match xs, h4 with
    | [], h4 => cases h4
    | [_], h4 => cases h4
    | _ :: _ :: _ :: _, h4 => cases h4
    | [y, z], h4 =>
      simp only [Bool.and_eq_true] at h4
      refine sb_plain ?_ fun _ => rfl
      have e : ev (fnsOf cs) (.dgt a b c) = fun ρ => (do
        let x ← ev (fnsOf cs) a ρ
        if x.isDc then do
          let y ← ev (fnsOf cs) b ρ
          let z ← ev (fnsOf cs) c ρ
          D.dgt x y z
        else .stuck) := by funext ρ; rw [ev]
      rw [e]
      exact se_dgt (by have := hX.units; omega) (ha X W o hX tk h3).1 (hb X W y hX tk h4.1.2).1 (hc X W z hX tk h4.2).1 h2 (by rw [← hl]; exact h1) h4.1.1.1 h4.1.1.2
theorem ok_din (no : Bool) {a b : E} (ha : EOk C cs kk a) (hb : EOk C cs kk b) : EOk C cs kk (.din no a b) := fun X W e hX tk h => by
  rw [chk] at h
  cases q : xCmp e with
  | none => rw [q] at h; cases h
  | some t =>
    obtain ⟨x, p, y⟩ := t
    rw [q] at h
    obtain ⟨pos, rfl⟩ := xCmp_s q
    simp only [Bool.and_eq_true, decide_eq_true_eq] at h
    obtain ⟨⟨⟨rfl, h2⟩, h3⟩, h4⟩ := h
    have e : ev (fnsOf cs) (.din no a b) = fun ρ => (do
      let x ← ev (fnsOf cs) a ρ
      let y ← ev (fnsOf cs) b ρ
      D.din no x y) := by funext ρ; rw [ev]
    rw [e]
    exact dinB no h2 (se_din no (by have := hX.units; omega) (ha X W x hX tk h3).1 (hb X W y hX tk h4).1)
theorem ok_kix (n : Str) (t : List (Str × Str)) {a : E} (ha : EOk C cs kk a) : EOk C cs kk (.kix n t a) := fun X W e hX tk h => by
  rw [chk] at h
  cases q : xSub e with
  | none => rw [q] at h; cases h
  | some u =>
    obtain ⟨x, y⟩ := u
    rw [q] at h
    obtain ⟨pos, rfl⟩ := xSub_s q
    simp only [Bool.and_eq_true] at h
    obtain ⟨⟨h1, h2⟩, h3⟩ := h
    cases q2 : xName x with
    | none => rw [q2] at h1; cases h1
    | some z =>
      rw [q2] at h1
      obtain ⟨p, rfl⟩ := xName_s q2
      simp only [Bool.and_eq_true, decide_eq_true_eq] at h1
      obtain ⟨⟨rfl, h4⟩, h5⟩ := h1
      obtain ⟨d, hm, T⟩ : ∃ d, X.mg n = some (.ref d) ∧ KTab X.K X.w d t := hX.glob (n, .tab t) (List.contains_iff_mem.mp h5)
      refine sb_plain ?_ fun _ => rfl
      have e : ev (fnsOf cs) (.kix n t a) = fun ρ => (do
        let x ← ev (fnsOf cs) a ρ
        kixD t x) := by funext ρ; rw [ev]
      rw [e]
      exact se_kix h4 hm T (ixP h2) (ha X W y hX tk h3).1
theorem ok_kget (n : Str) (t : List (Str × Str)) {a : E} (ha : EOk C cs kk a) : EOk C cs kk (.kget n t a) := fun X W e hX tk h => by
  rw [chk] at h
  cases q : xMeth e with
  | none => rw [q] at h; cases h
  | some u =>
    obtain ⟨o, m, xs, l⟩ := u
    rw [q] at h
    obtain ⟨ap, cp, rfl, hl⟩ := xMeth_s q
    simp only [Bool.and_eq_true, decide_eq_true_eq] at h
    obtain ⟨⟨⟨rfl, h1⟩, h2⟩, h4⟩ := h
    match xs, h4 with
    | [], h4 => cases h4
    | _ :: _ :: _, h4 => cases h4
    | [y], h4 =>
      simp only [Bool.and_eq_true] at h4
      cases q2 : xName o with
      | none => rw [q2] at h2; cases h2
      | some z =>
        rw [q2] at h2
        obtain ⟨p, rfl⟩ := xName_s q2
        simp only [Bool.and_eq_true, decide_eq_true_eq] at h2
        obtain ⟨⟨rfl, h5⟩, h6⟩ := h2
        obtain ⟨d, hm, T⟩ : ∃ d, X.mg n = some (.ref d) ∧ KTab X.K X.w d t := hX.glob (n, .tab t) (List.contains_iff_mem.mp h6)
        refine sb_plain ?_ fun _ => rfl
        have e : ev (fnsOf cs) (.kget n t a) = fun ρ => (do
          let x ← ev (fnsOf cs) a ρ
          kgetD t x) := by funext ρ; rw [ev]
        rw [e]
        exact se_kget h5 hm T (ha X W y hX tk h4.2).1 (by rw [← hl]; exact h1) (star_cons h4.1)
theorem ok_sl {a : E} {lo hi : Es} (ha : EOk C cs kk a) (hl : EsOk C cs kk lo) (hh : EsOk C cs kk hi) : EOk C cs kk (.sl a lo hi) := fun X W e hX tk h => by
  rw [chk] at h
  cases q : xSub e with
  | none => rw [q] at h; cases h
  | some t =>
    obtain ⟨x, y⟩ := t
    rw [q] at h
    obtain ⟨pos, rfl⟩ := xSub_s q
    cases q2 : xSlice y with
    | none => simp only [q2] at h; cases h
    | some t =>
      obtain ⟨l, u⟩ := t
      simp only [q2, Bool.and_eq_true] at h
      obtain ⟨p2, rfl⟩ := xSlice_s q2
      refine sb_plain ?_ fun _ => rfl
      have e : ev (fnsOf cs) (.sl a lo hi) = fun ρ => (do
        let x ← ev (fnsOf cs) a ρ
        let l ← evPart (fnsOf cs) lo ρ
        let h ← evPart (fnsOf cs) hi ρ
        D.sl x l h) := by funext ρ; rw [ev]
      rw [e]
      exact se_sl (ha X W x hX tk h.1.1).1 (hl.part X W l hX tk h.1.2) (hh.part X W u hX tk h.2)
theorem ok_call (k : Nat) {es : Es} (hs : EsOk C cs kk es) : EOk C cs kk (.call k es) := fun X W e hX tk h => by
  rw [chk] at h
  cases q : xCall e with
  | none => rw [q] at h; cases h
  | some t =>
    obtain ⟨x, xs⟩ := t
    rw [q] at h
    obtain ⟨p, pos, rfl⟩ := xCall_s q
    simp only [Bool.and_eq_true, decide_eq_true_eq] at h
    obtain ⟨⟨⟨⟨h1, h0⟩, h2⟩, h3⟩, h4⟩ := h
    rw [hX.cn, List.getElem?_map] at h1
    rw [hX.km, List.getElem?_map] at h0
    cases q2 : cs[k]? with
    | none => rw [q2] at h1; cases h1
    | some cal =>
      rw [q2] at h1
      rw [q2] at h0
      have h1 : some (cal.name, cal.ps.length) = some (x, es.len) := h1
      have h0 : some (cal.cls, cal.own) = some ([], []) := h0
      simp only [Option.some.injEq, Prod.mk.injEq] at h1 h0
      obtain ⟨rfl, h5⟩ := h1
      obtain ⟨a1, a2, a3, _⟩ := hs.args X W xs hX tk h4
      refine sb_plain ?_ fun _ => rfl
      have e : ev (fnsOf cs) (.call k es) = fun ρ => (do
        let xs ← evs (fnsOf cs) es ρ
        if xs.length = cal.ps.length then cal.g xs else .stuck) := by
        funext ρ
        rw [ev]
        congr 1
        funext ds
        show (match (fnsOf cs)[k]? with | some (n, g) => if ds.length = n then g ds else .stuck | none => .stuck) = _
        unfold fnsOf
        rw [List.getElem?_map, q2]
        rfl
      rw [e]
      cases xs with
      | nil => exact absurd a3.symm h2
      | cons y ys => exact se_call tk (hX.fns cal (List.mem_of_getElem? q2)) h0.1 h0.2 hX.room h3 a2 a1
theorem ok_bi (b : Bi) {es : Es} (hs : EsOk C cs kk es) : EOk C cs kk (.bi b es) := fun X W e hX tk h => by
  rw [chk] at h
  cases q : xCall e with
  | none => rw [q] at h; cases h
  | some t =>
    obtain ⟨x, xs⟩ := t
    rw [q] at h
    obtain ⟨p, pos, rfl⟩ := xCall_s q
    simp only [Bool.and_eq_true, decide_eq_true_eq] at h
    obtain ⟨⟨⟨⟨rfl, h1⟩, h2⟩, h3⟩, h4⟩ := h
    obtain ⟨a1, a2, a3, _⟩ := hs.args X W xs hX tk h4
    refine sb_plain ?_ fun _ => rfl
    have e : ev (fnsOf cs) (.bi b es) = fun ρ => (do
      let xs ← evs (fnsOf cs) es ρ
      b.f xs) := by funext ρ; rw [ev]
    rw [e]
    cases xs with
    | nil => exact absurd a3.symm h2
    | cons y ys => exact se_bi hX.calm hX.units h3 (glob_free hX h1) a2 a1
theorem ok_isi {a : E} (t : Ty) (ha : EOk C cs kk a) : EOk C cs kk (.isi a t) := fun X W e hX tk h => by
  rw [chk] at h
  cases q : xCall e with
  | none => rw [q] at h; cases h
  | some u =>
    obtain ⟨x, xs⟩ := u
    rw [q] at h
    obtain ⟨p, pos, rfl⟩ := xCall_s q
    simp only [Bool.and_eq_true, decide_eq_true_eq] at h
    obtain ⟨⟨⟨rfl, h1⟩, h2⟩, h3⟩ := h
    match xs, h3 with
    | [y, z], h3 =>
      simp only [Bool.and_eq_true] at h3
      obtain ⟨⟨h4, h5⟩, h6⟩ := h3
      cases q2 : xName z with
      | none => rw [q2] at h4; cases h4
      | some n =>
        rw [q2] at h4
        obtain ⟨p2, rfl⟩ := xName_s q2
        simp only [Bool.and_eq_true, decide_eq_true_eq] at h4
        obtain ⟨⟨rfl, h7⟩, h8⟩ := h4
        refine sb_plain ?_ fun _ => rfl
        have e : ev (fnsOf cs) (.isi a t) = fun ρ => (do
          let x ← ev (fnsOf cs) a ρ
          .ok (.bl (x.isTy t))) := by funext ρ; rw [ev]
        rw [e]
        exact se_isi h2 (glob_free hX h1) h8 (glob_free hX h7) h5 (ha X W y hX tk h6).1
    | [], h3 => cases h3
    | [_], h3 => cases h3
    | _ :: _ :: _ :: _, h3 => cases h3
def isxB (c k : Str) : Bool := if c = "ValueError" ∨ c = "PurseError" then true else decide (k = c)
theorem isx_ok {c k : Str} {ys : List D} {r : D} (h : D.isx c (.exv k ys) = .ok r) : r = .bl (isxB c k) := by
  have h : (if c = "ValueError" ∨ c = "PurseError" then R.ok (D.bl true) else if (exFld c).isSome then .ok (.bl (decide (k = c))) else .stuck) = .ok r := h
  unfold isxB
  split at h
  · rw [if_pos (by assumption)]; cases h; rfl
  · rw [if_neg (by assumption)]
    split at h
    · cases h; rfl
    · cases h
theorem se_isx {X : Cx} {W : WX} {a z : Expr} {fa : Env → R D} {p pos : Pos} {u : V} {uu : Value} {c : Str} (hg : glOk X.env.scope "isinstance" = true) (hm : X.mg "isinstance" = none) (hcv : ClsV u uu) (hz : PE X z (tC u)) (hzs : starEach [z] X.env = (false, eval z X.env) :: starEach [] X.env) (hpl : plain a = true) (hpz : plain z = true) (ha : SE X W a fa)
    (hN : PySem.W.kitOne X.K (.type "NoneType") uu = some false) (hE : ∀ k C' fo', exFld k = some fo' → PySem.W.nsIn X.K mainGlobals k = some (some (.ref C')) → PySem.W.kitOne X.K (.ref C') uu = some (isxB c k)) :
    SE X W (.Call (.Name "isinstance" p) [a, z] [] pos) (fun ρ => do
    let x ← fa ρ
    D.isx c x) := by
  obtain ⟨g1, g2, g3⟩ := gl_of hg
  refine PE.imp (pe_callB call_isx2 g1 hm (by decide +kernel) (pa_cons ha (pa_cons hz pa_nil hzs) (star_cons hpl)) g3 g2 (star_cons hpl) (star_any fun x hx => by
    have e : x = z := by simpa using hx
    subst e
    exact hpz)) fun σ H Q ⟨ρ, Hs, he, hr, hp⟩ => ⟨ρ, Hs, he, hr, hp.bind fun d _ v Hi H1 l rv hp1 => ?_⟩
  cases rv with
  | non =>
    have hp1 : PstD X.K X.mg Hi H1 (if exName c then .ok (.bl false) else .stuck) Q _ := hp1
    split at hp1
    · exact .inr ⟨.non, u, .type "NoneType", uu, false, rfl, hcv, .base .non, hN, Pst.now (d := D.bl false) hp1 l.sub (.bl _)⟩
    · exact hp1.elim
  | @exv0 a B C k h1 h2 h3 h4 =>
    cases hr1 : D.isx c (.exv k []) with
    | ok r =>
      rw [hr1] at hp1
      have e := isx_ok hr1
      subst e
      exact .inl ⟨_, _, _, none, _, _, _, rfl, h3, l.sub _ _ h4, (fun _ z => nomatch z), hcv, hE _ _ _ h1 h2, hp1.now l.sub (.bl _)⟩
    | exc x => rw [hr1] at hp1; unfold D.isx at hr1; simp only at hr1; split at hr1 <;> first | cases hr1 | (split at hr1 <;> cases hr1)
    | stuck => rw [hr1] at hp1; exact hp1.elim
  | @exv1 a B C dd k f y v h1 h2 h3 h4 h5 h6 r =>
    cases hr1 : D.isx c (.exv k [y]) with
    | ok r =>
      rw [hr1] at hp1
      have e := isx_ok hr1
      subst e
      exact .inl ⟨_, _, _, some _, _, _, _, rfl, h3, l.sub _ _ h5, (fun _ z => by cases z; exact ⟨_, l.sub _ _ h6⟩), hcv, hE _ _ _ h1 h2, hp1.now l.sub (.bl _)⟩
    | exc x => rw [hr1] at hp1; unfold D.isx at hr1; simp only at hr1; split at hr1 <;> first | cases hr1 | (split at hr1 <;> cases hr1)
    | stuck => rw [hr1] at hp1; exact hp1.elim
  | _ => exact hp1.elim
theorem ex_same {P : Program} {w : World} {K : PySem.W.Frag} {mg : Str → Option Value} {base : Heap} {B C : Addr} {k : Str} {fo : Option Str} (T : ExAll P w K mg base B) (h : exFld k = some fo) (hn : PySem.W.nsIn K mainGlobals k = some (some (.ref C))) : ExC K B C := by
  obtain ⟨C', h1, h2, h3, _⟩ := T.one k fo h (by rw [T.mgo k C hn]; exact fun z => nomatch z)
  rw [hn] at h1
  cases h1
  exact h3
theorem pe_own {X : Cx} {x : Str} {C : Addr} {pos : Pos} (h : glOk X.env.scope x = true) (hm : X.mg x = some (.ref C)) : PE X (.Name x pos) (tC (.ref C)) := by
  obtain ⟨h1, h2, _⟩ := gl_of h
  exact pe_glob h1 hm rfl h2
theorem ok_isx {a : E} (c : Str) (ha : EOk C cs kk a) : EOk C cs kk (.isx a c) := fun X W e hX tk h => by
  rw [chk] at h
  cases q : xCall e with
  | none => rw [q] at h; cases h
  | some u =>
    obtain ⟨x, xs⟩ := u
    rw [q] at h
    obtain ⟨p, pos, rfl⟩ := xCall_s q
    simp only [Bool.and_eq_true, decide_eq_true_eq] at h
    obtain ⟨⟨⟨⟨⟨rfl, h1⟩, h2⟩, hex⟩, hnm⟩, h3⟩ := h
    match xs, h3 with
    | [y, z], h3 =>
      simp only [Bool.and_eq_true] at h3
      obtain ⟨⟨h4, h5⟩, h6⟩ := h3
      cases q2 : xName z with
      | none => rw [q2] at h4; cases h4
      | some n =>
        rw [q2] at h4
        obtain ⟨p2, rfl⟩ := xName_s q2
        simp only [Bool.and_eq_true, decide_eq_true_eq] at h4
        obtain ⟨⟨⟨rfl, h7⟩, h8⟩, h10⟩ := h4
        refine sb_plain ?_ fun _ => rfl
        have e : ev (fnsOf cs) (.isx a n) = fun ρ => (do
          let x ← ev (fnsOf cs) a ρ
          D.isx n x) := by funext ρ; rw [ev]
        rw [e]
        obtain ⟨⟨B, T⟩, _, hxn⟩ := hX.exs hex
        by_cases hv : n = "ValueError"
        · subst hv
          have h9 : C.bl.contains ("ValueError" : Str) = true := by simpa using h8
          obtain ⟨k1, k2, k3⟩ := gl_of h7
          exact se_isx h2 (glob_free hX h1) (.ty "ValueError") (pe_bltn k1 (glob_free hX h9) (by decide +kernel) rfl k3 k2) rfl h5 rfl (ha X W y hX tk h6).1 (kit_ty (by decide +kernel)) fun k C' fo' hk hn => by
            rw [(ex_same T hk hn).tV]; rfl
        · by_cases hp : n = "PurseError"
          · subst hp
            exact se_isx h2 (glob_free hX h1) (.own B) (pe_own h7 T.mP) rfl h5 rfl (ha X W y hX tk h6).1 T.nonP fun k C' fo' hk hn => by
              rw [(ex_same T hk hn).tP]; rfl
          · have hf : (exFld n).isSome = true := by
              unfold exName at hnm
              simpa [hv, hp] using hnm
            obtain ⟨fo, hf⟩ := Option.isSome_iff_exists.mp hf
            obtain ⟨Cn, c1, c2, c3, _⟩ := T.one n fo hf (hxn n (by simpa [hv, hp] using h10))
            exact se_isx h2 (glob_free hX h1) (.own Cn) (pe_own h7 c2) rfl h5 rfl (ha X W y hX tk h6).1 (T.non _ _ _ hf c1) fun k C' fo' hk hn => by
              rw [T.two _ _ _ _ _ _ hk hf hn c1]
              unfold isxB
              rw [if_neg (by simp [hv, hp])]
    | [], h3 => cases h3
    | [_], h3 => cases h3
    | _ :: _ :: _ :: _, h3 => cases h3
theorem pa_own {X : Cx} {base : Heap} {B : Addr} {xn : List Str} (T : ExAll X.prog X.w X.K X.mg base B) (hxn : ∀ c ∈ xn, X.mg c ≠ none) : ∀ {cs : List Str} {es : List Expr}, chkOwn xn X.env.scope cs es = true → ∃ As : List Addr, As.length = cs.length ∧ PA X es (fun σ H Q => Q (As.map V.ref) H) ∧ Paired ClsV (As.map V.ref) (As.map Value.ref) ∧
    ∀ k C fo, exFld k = some fo → PySem.W.nsIn X.K mainGlobals k = some (some (.ref C)) → PySem.W.kitAny X.K (.ref C) (As.map Value.ref) = some (cs.any fun c => decide (k = c))
  | [], es, h => by
    have e : es = [] := by simpa [chkOwn] using h
    subst e
    exact ⟨[], rfl, pa_nil, .nil, fun _ _ _ _ _ => kitAny_nil⟩
  | c :: cs, [], h => by cases h
  | c :: cs, e :: es, h => by
    rw [chkOwn] at h
    simp only [Bool.and_eq_true] at h
    cases q : xName e with
    | none => rw [q] at h; cases h.1
    | some n =>
      rw [q] at h
      obtain ⟨p, rfl⟩ := xName_s q
      obtain ⟨h1, h2⟩ := h
      simp only [Bool.and_eq_true, decide_eq_true_eq] at h1
      obtain ⟨⟨⟨rfl, h3⟩, h4⟩, h5⟩ := h1
      obtain ⟨fo, hf⟩ := Option.isSome_iff_exists.mp h4
      obtain ⟨Cn, c1, c2, c3, _⟩ := T.one n fo hf (hxn n (List.contains_iff_mem.mp h5))
      obtain ⟨As, i0, i1, i2, i3⟩ := pa_own T hxn h2
      refine ⟨Cn :: As, by simp [i0], pa_cons (pe_own h3 c2) i1 (star_cons rfl), .cons (.own Cn) i2, fun k C fo' hk hn => ?_⟩
      have e1 := T.two _ _ _ _ _ _ hk hf hn c1
      refine kitAny_cons e1 (fun hb => ?_) fun hb => ?_
      · rw [i3 k C fo' hk hn, List.any_cons, hb, Bool.false_or]
      · rw [List.any_cons, hb, Bool.true_or]
theorem ok_isxs {a : E} (ks : List Str) (ha : EOk C cs kk a) : EOk C cs kk (.isxs a ks) := fun X W e hX tk h => by
  rw [chk] at h
  cases q : xCall e with
  | none => rw [q] at h; cases h
  | some u =>
    obtain ⟨x, xs⟩ := u
    rw [q] at h
    obtain ⟨p, pos, rfl⟩ := xCall_s q
    simp only [Bool.and_eq_true, decide_eq_true_eq] at h
    obtain ⟨⟨⟨⟨⟨rfl, h1⟩, h2⟩, hex⟩, hlen⟩, h3⟩ := h
    match xs, h3 with
    | [y, z], h3 =>
      simp only [Bool.and_eq_true] at h3
      obtain ⟨⟨h4, h5⟩, h6⟩ := h3
      cases q2 : xTup z with
      | none => rw [q2] at h4; cases h4
      | some ns =>
        rw [q2] at h4
        obtain ⟨k0, p2, rfl⟩ := xTup_s q2
        refine sb_plain ?_ fun _ => rfl
        have e : ev (fnsOf cs) (.isxs a ks) = fun ρ => (do
          let x ← ev (fnsOf cs) a ρ
          D.isxs ks x) := by funext ρ; rw [ev]
        rw [e]
        obtain ⟨⟨B, T⟩, _, hxn⟩ := hX.exs hex
        obtain ⟨As, i0, i1, i2, i3⟩ := pa_own T hxn h4
        obtain ⟨g1, g2, g3⟩ := gl_of h2
        refine PE.imp (pe_callB call_isxT g1 (glob_free hX h1) (by decide +kernel) (pa_cons (ha X W y hX tk h6).1 (pa_cons (pe_tup i1) pa_nil (star_cons rfl)) (star_cons h5)) g3 g2 (star_cons h5) (star_any fun x hx => by
          have e : x = .Tuple ns k0 p2 := by simpa using hx
          subst e
          rfl)) fun σ H Q ⟨ρ, Hs, he, hr, hp⟩ => ⟨ρ, Hs, he, hr, hp.bind fun d _ v Hi H1 l rv hp1 => ⟨?_, fun tp hn => ?_⟩⟩
        · rw [List.length_map, size_eq, i0]; omega
        · have l0 := Le.new0 (o := .tup (As.map V.ref)) l.sub hn
          have hp2 := Pst.step (Rel := Rep X.K) l0 hp1
          cases rv with
          | @exv0 a B C k h1 h2 h3 h4 =>
            have hp2 : PstD X.K X.mg Hi (upd H1 tp (.tup (As.map V.ref))) (if (ks.all fun c => (exFld c).isSome) then .ok (.bl (ks.any fun c => decide (k = c))) else .stuck) Q _ := hp2
            split at hp2
            · exact ⟨_, _, _, _, none, _, _, _, rfl, h3, l0.sub _ _ h4, (fun _ z => nomatch z), upd_same, i2, i3 _ _ _ h1 h2, Pst.now (d := D.bl _) hp2 l0.sub (.bl _)⟩
            · exact hp2.elim
          | @exv1 a B C dd k f y v h1 h2 h3 h4 h5 h6 r =>
            have hp2 : PstD X.K X.mg Hi (upd H1 tp (.tup (As.map V.ref))) (if (ks.all fun c => (exFld c).isSome) then .ok (.bl (ks.any fun c => decide (k = c))) else .stuck) Q _ := hp2
            split at hp2
            · exact ⟨_, _, _, _, some _, _, _, _, rfl, h3, l0.sub _ _ h5, (fun _ z => by cases z; exact ⟨_, l0.sub _ _ h6⟩), upd_same, i2, i3 _ _ _ h1 h2, Pst.now (d := D.bl _) hp2 l0.sub (.bl _)⟩
            · exact hp2.elim
          | _ => exact hp2.elim
    | [], h3 => cases h3
    | [_], h3 => cases h3
    | _ :: _ :: _ :: _, h3 => cases h3
theorem ok_fld {a : E} (f : Str) (ha : EOk C cs kk a) : EOk C cs kk (.fld a f) := fun X W e hX tk h => by
  rw [chk] at h
  cases q : xAttr e with
  | none => rw [q] at h; cases h
  | some u =>
    obtain ⟨o, g⟩ := u
    rw [q] at h
    obtain ⟨p, rfl⟩ := xAttr_s q
    simp only [Bool.and_eq_true, decide_eq_true_eq] at h
    obtain ⟨⟨rfl, h1⟩, h2⟩ := h
    cases z : xName o with
    | none => rw [z] at h1; cases h1
    | some x =>
      obtain ⟨px, rfl⟩ := xName_s z
      refine sb_plain ?_ fun _ => rfl
      have e : ev (fnsOf cs) (.fld a g) = fun ρ => (do
        let x ← ev (fnsOf cs) a ρ
        D.fld g x) := by funext ρ; rw [ev]
      rw [e]
      refine PE.imp (pe_xk (ha X W (.Name x px) hX tk h2).1 rfl) fun σ H Q ⟨ρ, Hs, he, hr, hp⟩ => ⟨ρ, Hs, he, hr, hp.bind fun d _ v Hi H1 l rv hp1 => ?_⟩
      cases rv with
      | exv1 h1 h2 h3 h4 h5 h6 r =>
        have hp1 : PstD X.K X.mg Hi H1 (if _ then _ else _) Q _ := hp1
        split at hp1
        · rename_i hf
          rw [h1] at hf
          cases hf
          exact ⟨_, _, _, _, _, rfl, h3, h4, l.sub _ _ h5, l.sub _ _ h6, hp1.now l.sub r⟩
        · exact hp1.elim
      | _ => exact hp1.elim
theorem ok_minD {a : E} (ha : EOk C cs kk a) : EOk C cs kk (.minD a) := fun X W e hX tk h => by
  rw [chk] at h
  cases q : xCallK e with
  | none => rw [q] at h; cases h
  | some u =>
    obtain ⟨x, xs, n, d⟩ := u
    rw [q] at h
    obtain ⟨p, pos, r, rfl⟩ := xCallK_s q
    simp only [Bool.and_eq_true, decide_eq_true_eq] at h
    obtain ⟨⟨⟨⟨⟨rfl, h1⟩, h2⟩, rfl⟩, h4⟩, h3⟩ := h
    cases q2 : xConst d with
    | none => rw [q2] at h4; cases h4
    | some c =>
      rw [q2] at h4
      obtain ⟨j, p2, rfl⟩ := xConst_s q2
      cases c with
      | none =>
        match xs, h3 with
        | [y], h3 =>
          simp only [Bool.and_eq_true] at h3
          refine sb_plain ?_ fun _ => rfl
          have e : ev (fnsOf cs) (.minD a) = fun ρ => (do
            let x ← ev (fnsOf cs) a ρ
            D.minD x) := by funext ρ; rw [ev]
          rw [e]
          exact se_minD hX.calm hX.units h2 (glob_free hX h1) h3.1 (ha X W y hX tk h3.2).1
        | [], h3 => cases h3
        | _ :: _ :: _, h3 => cases h3
      | _ => cases h4
theorem ok_lrange1 {a : E} (ha : EOk C cs kk a) : EOk C cs kk (.lrange1 a) := fun X W e hX tk h => by
  rw [chk] at h
  cases q : xCall e with
  | none => rw [q] at h; cases h
  | some u =>
    obtain ⟨x, xs⟩ := u
    rw [q] at h
    obtain ⟨p, pos, rfl⟩ := xCall_s q
    simp only [Bool.and_eq_true, decide_eq_true_eq] at h
    obtain ⟨⟨⟨rfl, h1⟩, h2⟩, h3⟩ := h
    match xs, h3 with
    | [y], h3 =>
      cases q2 : xCall y with
      | none => simp only [q2] at h3; cases h3
      | some u =>
        obtain ⟨x2, ys⟩ := u
        simp only [q2, Bool.and_eq_true, decide_eq_true_eq] at h3
        obtain ⟨p2, pos2, rfl⟩ := xCall_s q2
        obtain ⟨⟨⟨rfl, h4⟩, h5⟩, h6⟩ := h3
        match ys, h6 with
        | [z], h6 =>
          simp only [Bool.and_eq_true] at h6
          refine sb_plain ?_ fun _ => rfl
          have e : ev (fnsOf cs) (.lrange1 a) = fun ρ => (do
            let x ← ev (fnsOf cs) a ρ
            let l ← D.rangeOf [x]
            if l.length ≤ 16777216 then .ok (.lst l) else .stuck) := by funext ρ; rw [ev]
          rw [e]
          exact se_lrange1 hX.calm h2 (glob_free hX h1) h5 (glob_free hX h4) h6.1 (ha X W z hX tk h6.2).1
        | [], h6 => cases h6
        | _ :: _ :: _, h6 => cases h6
    | [], h3 => cases h3
    | _ :: _ :: _, h3 => cases h3
theorem ok_slk {a k : E} (ha : EOk C cs kk a) (hk : EOk C cs kk k) : EOk C cs kk (.slk a k) := fun X W e hX tk h => by
  rw [chk] at h
  cases q : xStep e with
  | none => rw [q] at h; cases h
  | some u =>
    obtain ⟨x, y⟩ := u
    rw [q] at h
    obtain ⟨p, pos, rfl⟩ := xStep_s q
    simp only [Bool.and_eq_true] at h
    refine sb_plain ?_ fun _ => rfl
    have e : ev (fnsOf cs) (.slk a k) = fun ρ => (do
      let x ← ev (fnsOf cs) a ρ
      let y ← ev (fnsOf cs) k ρ
      D.slk x y) := by funext ρ; rw [ev]
    rw [e]
    exact se_slk (ha X W x hX tk h.1).1 (hk X W y hX tk h.2).1
theorem ok_idx {a b : E} (ha : EOk C cs kk a) (hb : EOk C cs kk b) : EOk C cs kk (.idx a b) := fun X W e hX tk h => by
  rw [chk] at h
  cases q : xMeth e with
  | none => rw [q] at h; cases h
  | some u =>
    obtain ⟨o, n, xs, l⟩ := u
    rw [q] at h
    obtain ⟨ap, cp, rfl, hl⟩ := xMeth_s q
    simp only [Bool.and_eq_true, decide_eq_true_eq] at h
    obtain ⟨⟨⟨⟨rfl, h1⟩, h2⟩, h3⟩, h4⟩ := h
    cases z : xName o with
    | none => rw [z] at h2; cases h2
    | some x =>
      obtain ⟨px, rfl⟩ := xName_s z
      match xs, h4 with
      | [], h4 => cases h4
      | _ :: _ :: _, h4 => cases h4
      | [y], h4 =>
        simp only [Bool.and_eq_true] at h4
        refine sb_plain ?_ fun _ => rfl
        have e : ev (fnsOf cs) (.idx a b) = fun ρ => (do
          let x ← ev (fnsOf cs) a ρ
          if x.isL then do
            let y ← ev (fnsOf cs) b ρ
            D.idx x y
          else .stuck) := by funext ρ; rw [ev]
        rw [e]
        exact se_idx (ha X W (.Name x px) hX tk h3).1 (hb X W y hX tk h4.2).1 (by rw [← hl]; exact h1) h4.1
theorem ok_sm (m : Sm) {a b : E} (ha : EOk C cs kk a) (hb : EOk C cs kk b) : EOk C cs kk (.sm m a b) := fun X W e hX tk h => by
  rw [chk] at h
  cases q : xMeth e with
  | none => rw [q] at h; cases h
  | some u =>
    obtain ⟨o, n, xs, l⟩ := u
    rw [q] at h
    obtain ⟨ap, cp, rfl, hl⟩ := xMeth_s q
    simp only [Bool.and_eq_true, decide_eq_true_eq] at h
    obtain ⟨⟨⟨⟨rfl, h1⟩, h2⟩, h3⟩, h4⟩ := h
    match xs, h4 with
    | [], h4 => cases h4
    | _ :: _ :: _, h4 => cases h4
    | [y], h4 =>
      simp only [Bool.and_eq_true] at h4
      refine sb_plain ?_ fun _ => rfl
      have e : ev (fnsOf cs) (.sm m a b) = fun ρ => (do
        let x ← ev (fnsOf cs) a ρ
        if x.isS then do
          let y ← ev (fnsOf cs) b ρ
          D.sm m x y
        else .stuck) := by funext ρ; rw [ev]
      rw [e]
      exact pe_sm m (ha X W o hX tk h3).1 (hb X W y hX tk h4.2).1 h2 (by rw [← hl]; exact h1) (star_cons h4.1)
theorem ok_fs {es : Es} (hs : EsOk C cs kk es) : EOk C cs kk (.fs es) := fun X W e hX tk h => by
  rw [chk] at h
  cases q : xJoin e with
  | none => rw [q] at h; cases h
  | some xs =>
    rw [q] at h
    obtain ⟨p, rfl⟩ := xJoin_s q
    simp only [Bool.and_eq_true, decide_eq_true_eq] at h
    obtain ⟨h1, h2⟩ := h
    refine sb_plain ?_ fun _ => rfl
    have e : ev (fnsOf cs) (.fs es) = evFs (fnsOf cs) es Str.empty := by funext ρ; rw [ev]
    rw [e]
    obtain ⟨ts, a1, a2⟩ := hs.fs X W xs hX tk h2
    match xs, h1, a1 with
    | v1 :: v2 :: rest, _, a1 => exact PE.imp (pe_joined a1) fun σ H Q hq => a2 _ σ H Q hq
theorem ok_tix {a b : E} (ha : EOk C cs kk a) (hb : EOk C cs kk b) : EOk C cs kk (.tix a b) := fun X W e hX tk h => by
  rw [chk] at h
  cases q : xMeth e with
  | none => rw [q] at h; cases h
  | some u =>
    obtain ⟨o, n, xs, l⟩ := u
    rw [q] at h
    obtain ⟨ap, cp, rfl, hl⟩ := xMeth_s q
    simp only [Bool.and_eq_true, decide_eq_true_eq] at h
    obtain ⟨⟨⟨⟨rfl, h1⟩, h2⟩, h3⟩, h4⟩ := h
    cases z : xName o with
    | none => rw [z] at h2; cases h2
    | some x =>
      obtain ⟨px, rfl⟩ := xName_s z
      match xs, h4 with
      | [], h4 => cases h4
      | _ :: _ :: _, h4 => cases h4
      | [y], h4 =>
        simp only [Bool.and_eq_true] at h4
        refine sb_plain ?_ fun _ => rfl
        have e : ev (fnsOf cs) (.tix a b) = fun ρ => (do
          let x ← ev (fnsOf cs) a ρ
          if x.isF then do
            let y ← ev (fnsOf cs) b ρ
            D.tix x y
          else .stuck) := by funext ρ; rw [ev]
        rw [e]
        exact se_tix (ha X W (.Name x px) hX tk h3).1 (hb X W y hX tk h4.2).1 (by rw [← hl]; exact h1) h4.1
theorem ok_ftup {a : E} (ha : EOk C cs kk a) : EOk C cs kk (.ftup a) := fun X W e hX tk h => by
  rw [chk] at h
  cases q : xCall e with
  | none => rw [q] at h; cases h
  | some u =>
    obtain ⟨x, xs⟩ := u
    rw [q] at h
    obtain ⟨fp, cp, rfl⟩ := xCall_s q
    simp only [Bool.and_eq_true, decide_eq_true_eq] at h
    obtain ⟨⟨⟨rfl, h1⟩, h2⟩, h3⟩ := h
    match xs, h3 with
    | [], h3 => cases h3
    | _ :: _ :: _, h3 => cases h3
    | [y], h3 =>
      simp only [Bool.and_eq_true] at h3
      refine sb_plain ?_ fun _ => rfl
      have e : ev (fnsOf cs) (.ftup a) = fun ρ => (do
        let x ← ev (fnsOf cs) a ρ
        D.ftup x) := by funext ρ; rw [ev]
      rw [e]
      exact se_ftup h2 (glob_free hX h1) h3.1 (ha X W y hX tk h3.2).1
theorem ok_srt {a : E} (ha : EOk C cs kk a) : EOk C cs kk (.srt a) := fun X W e hX tk h => by
  rw [chk] at h
  cases q : xCall e with
  | none => rw [q] at h; cases h
  | some u =>
    obtain ⟨x, xs⟩ := u
    rw [q] at h
    obtain ⟨fp, cp, rfl⟩ := xCall_s q
    simp only [Bool.and_eq_true, decide_eq_true_eq] at h
    obtain ⟨⟨⟨rfl, h1⟩, h2⟩, h3⟩ := h
    match xs, h3 with
    | [], h3 => cases h3
    | _ :: _ :: _, h3 => cases h3
    | [y], h3 =>
      simp only [Bool.and_eq_true] at h3
      refine sb_plain ?_ fun _ => rfl
      have e : ev (fnsOf cs) (.srt a) = fun ρ => (do
        let x ← ev (fnsOf cs) a ρ
        D.srt x) := by funext ρ; rw [ev]
      rw [e]
      exact se_srt hX.calm hX.units h2 (glob_free hX h1) h3.1 (ha X W y hX tk h3.2).1
theorem ok_dic0 : EOk C cs kk .dic0 := fun X W e hX tk h => by
  rw [chk] at h
  obtain ⟨p, rfl⟩ := xDic_s h
  refine sb_plain ?_ fun _ => rfl
  have e : ev (fnsOf cs) .dic0 = fun _ => .ok .dic := by funext ρ; rw [ev]
  rw [e]
  exact se_dic0
theorem ok_lset {a : E} (ha : EOk C cs kk a) : EOk C cs kk (.lset a) := fun X W e hX tk h => by
  rw [chk] at h
  cases q : xCall e with
  | none => rw [q] at h; cases h
  | some u =>
    obtain ⟨x, xs⟩ := u
    rw [q] at h
    obtain ⟨p, pos, rfl⟩ := xCall_s q
    simp only [Bool.and_eq_true, decide_eq_true_eq] at h
    obtain ⟨⟨⟨rfl, h1⟩, h2⟩, h3⟩ := h
    match xs, h3 with
    | [y], h3 =>
      cases q2 : xCall y with
      | none => simp only [q2] at h3; cases h3
      | some u =>
        obtain ⟨x2, ys⟩ := u
        simp only [q2, Bool.and_eq_true, decide_eq_true_eq] at h3
        obtain ⟨p2, pos2, rfl⟩ := xCall_s q2
        obtain ⟨⟨⟨rfl, h4⟩, h5⟩, h6⟩ := h3
        match ys, h6 with
        | [z], h6 =>
          simp only [Bool.and_eq_true] at h6
          refine sb_plain ?_ fun _ => rfl
          have e : ev (fnsOf cs) (.lset a) = fun ρ => (do
            let x ← ev (fnsOf cs) a ρ
            D.lset x) := by funext ρ; rw [ev]
          rw [e]
          exact se_lset hX.calm h2 (glob_free hX h1) h5 (glob_free hX h4) h6.1 (ha X W z hX tk h6.2).1
        | [], h6 => cases h6
        | _ :: _ :: _, h6 => cases h6
    | [], h3 => cases h3
    | _ :: _ :: _, h3 => cases h3
theorem ok_sset {a : E} (ha : EOk C cs kk a) : EOk C cs kk (.sset a) := fun X W e hX tk h => by
  rw [chk] at h
  cases q : xCall e with
  | none => rw [q] at h; cases h
  | some u =>
    obtain ⟨x, xs⟩ := u
    rw [q] at h
    obtain ⟨p, pos, rfl⟩ := xCall_s q
    simp only [Bool.and_eq_true, decide_eq_true_eq] at h
    obtain ⟨⟨⟨rfl, h1⟩, h2⟩, h3⟩ := h
    match xs, h3 with
    | [y], h3 =>
      cases q2 : xCall y with
      | none => simp only [q2] at h3; cases h3
      | some u =>
        obtain ⟨x2, ys⟩ := u
        simp only [q2, Bool.and_eq_true, decide_eq_true_eq] at h3
        obtain ⟨p2, pos2, rfl⟩ := xCall_s q2
        obtain ⟨⟨⟨rfl, h4⟩, h5⟩, h6⟩ := h3
        match ys, h6 with
        | [z], h6 =>
          simp only [Bool.and_eq_true] at h6
          refine sb_plain ?_ fun _ => rfl
          have e : ev (fnsOf cs) (.sset a) = fun ρ => (do
            let x ← ev (fnsOf cs) a ρ
            D.sset x) := by funext ρ; rw [ev]
          rw [e]
          exact se_sset hX.calm hX.units h2 (glob_free hX h1) h5 (glob_free hX h4) h6.1 (ha X W z hX tk h6.2).1
        | [], h6 => cases h6
        | _ :: _ :: _, h6 => cases h6
    | [], h3 => cases h3
    | _ :: _ :: _, h3 => cases h3
theorem ok_lrange2 {a b : E} (ha : EOk C cs kk a) (hb : EOk C cs kk b) : EOk C cs kk (.lrange2 a b) := fun X W e hX tk h => by
  rw [chk] at h
  cases q : xCall e with
  | none => rw [q] at h; cases h
  | some u =>
    obtain ⟨x, xs⟩ := u
    rw [q] at h
    obtain ⟨p, pos, rfl⟩ := xCall_s q
    simp only [Bool.and_eq_true, decide_eq_true_eq] at h
    obtain ⟨⟨⟨rfl, h1⟩, h2⟩, h3⟩ := h
    match xs, h3 with
    | [y], h3 =>
      cases q2 : xCall y with
      | none => simp only [q2] at h3; cases h3
      | some u =>
        obtain ⟨x2, ys⟩ := u
        simp only [q2, Bool.and_eq_true, decide_eq_true_eq] at h3
        obtain ⟨p2, pos2, rfl⟩ := xCall_s q2
        obtain ⟨⟨⟨rfl, h4⟩, h5⟩, h6⟩ := h3
        match ys, h6 with
        | [z, z2], h6 =>
          simp only [Bool.and_eq_true] at h6
          obtain ⟨⟨⟨h7, h8⟩, h9⟩, h10⟩ := h6
          refine sb_plain ?_ fun _ => rfl
          have e : ev (fnsOf cs) (.lrange2 a b) = fun ρ => (do
            let x ← ev (fnsOf cs) a ρ
            let y ← ev (fnsOf cs) b ρ
            let l ← D.rangeOf [x, y]
            if l.length ≤ 16777216 then .ok (.lst l) else .stuck) := by funext ρ; rw [ev]
          rw [e]
          exact se_lrange2 hX.calm h2 (glob_free hX h1) h5 (glob_free hX h4) h7 h8 (ha X W z hX tk h9).1 (hb X W z2 hX tk h10).1
        | [], h6 => cases h6
        | [_], h6 => cases h6
        | _ :: _ :: _ :: _, h6 => cases h6
    | [], h3 => cases h3
    | _ :: _ :: _, h3 => cases h3
theorem blk_fn {X : Cx} {s : Shared} {H : Hp} {raw : Scope} {env : PySem.Env} {fp : List Addr} : ∀ x, raw.names.lookup x = some .cell → (X.blk s H raw env fp).fn x = true := fun x h => by
  show (raw.names.lookup x == some .cell) = true
  rw [h]
  rfl
theorem ok_lc (t : Tgt) {it : It} {ifs : Es} {el : E} (hi : ItOk C cs kk it) (hf : EsOk C cs kk ifs) (he : EOk C cs kk el) : EOk C cs kk (.lc t it ifs el) := fun X W e hX tk h => by
  rw [chk] at h
  cases q : xLc e with
  | none => rw [q] at h; cases h
  | some u =>
    obtain ⟨x, tg, i, fs, raw⟩ := u
    rw [q] at h
    obtain ⟨pos, rfl⟩ := xLc_s q
    simp only [Bool.and_eq_true, decide_eq_true_eq] at h
    obtain ⟨⟨⟨⟨⟨⟨⟨h1, h2⟩, h3⟩, h4⟩, h5⟩, h6⟩, h7⟩, h8⟩ := h
    refine sb_plain ?_ fun _ => rfl
    have e : ev (fnsOf cs) (.lc t it ifs el) = fun ρ => (do
      let xs ← evIt (fnsOf cs) it ρ
      if xs.length ≤ 16777215 then do
        let l ← lcGo (lcF (evTests (fnsOf cs) ifs) (ev (fnsOf cs) el) t ρ) xs
        .ok (.lst l)
      else .stuck) := by
      funext ρ
      rw [ev]
      rfl
    rw [e]
    obtain ⟨i1, i2⟩ := hi X W tg i hX tk h2 fun a b z => by
      subst z
      cases t with
      | nm i => cases h3
      | tp is =>
        have h4 : (match xTup tg with | some es => chkNames C.N (relS raw X.env.scope) raw is es | none => false) = true := h4
        cases q3 : xTup tg with
        | none => rw [q3] at h4; cases h4
        | some ks =>
          obtain ⟨k, p, rfl⟩ := xTup_s q3
          exact ⟨_, _, _, rfl⟩
    refine PE.imp (pe_lc (own := ownOf C.N t) (g := gOf X.K t) (tt := tDB X.K X.mg WN (evTests (fnsOf cs) ifs)) (te := tD X.K X.mg WN (ev (fnsOf cs) el)) hX.calm (by rw [hX.names]; exact hX.nd) i1 (blkOk_by (by rw [hX.names]; exact h1)) (fun s H C' cl fp => ?_) (fun s H C' cl fp => ?_) (fun s H C' cl fp => ?_) (folded_ok i2)) fun σ H Q hh => ?_
    · exact pg_of (X := X.blk s H raw (compEnvC raw cl C' X.env) fp) hX.calm (by exact hX.names) hX.nd rfl blk_fn h4
    · exact hf.tests (X.blk s H raw (compEnvC raw cl C' X.env) fp) WN fs hX.blk takes0 h5
    · exact (he (X.blk s H raw (compEnvC raw cl C' X.env) fp) WN x hX.blk takes0 h6).1
    · rw [h7]
      exact lc_imp h8 hh
theorem oks_nil : EsOk C cs kk .nil where
  args := fun X W xs hX tk h => by
    rw [chks] at h
    have e : xs = [] := by simpa using h
    subst e
    refine ⟨?_, by simp, rfl, fun h => absurd rfl h⟩
    have e : evs (fnsOf cs) .nil = fun _ => .ok [] := by funext ρ; rw [evs]
    rw [e]
    exact sa_nil
  part := fun X W o hX tk h => by
    rw [chkPart] at h
    have e : o = none := by simpa using h
    subst e
    have e : evPart (fnsOf cs) .nil = fun _ => .ok none := by funext ρ; rw [evPart]
    rw [e]
    exact so_none
  tests := fun X W xs hX tk h => by
    rw [chkTests] at h
    have e : xs = [] := by simpa using h
    subst e
    have e : evTests (fnsOf cs) .nil = fun _ => .ok true := by funext ρ; rw [evTests]
    rw [e]
    exact ⟨fun pins s σ H Q I ⟨ρ, Hs, he, hr, hp⟩ => pts_nil.run pins s σ H Q I (Pst.now (d := true) hp he rfl)⟩
  fs := fun X W xs hX tk h => by
    rw [chkFs] at h
    have e : xs = [] := by simpa using h
    subst e
    refine ⟨[], .nil, fun acc σ H Q ⟨ρ, Hs, he, hr, hp⟩ => ?_⟩
    rw [evFs] at hp
    exact hp.now he (.str _)
theorem oks_cons {a : E} {as : Es} (ha : EOk C cs kk a) (hs : EsOk C cs kk as) : EsOk C cs kk (.cons a as) where
  args := fun X W xs hX tk h => by
    cases xs with
    | nil => rw [chks] at h; cases h
    | cons x xs =>
      rw [chks] at h
      simp only [Bool.and_eq_true] at h
      obtain ⟨⟨h1, h2⟩, h3⟩ := h
      obtain ⟨a1, a2⟩ := ha X W x hX tk h2
      obtain ⟨b1, b2, b3, b4⟩ := hs.args X W xs hX tk h3
      have e : evs (fnsOf cs) (.cons a as) = fun ρ => (do
        let x ← ev (fnsOf cs) a ρ
        let xs ← evs (fnsOf cs) as ρ
        .ok (x :: xs)) := by funext ρ; rw [evs]
      refine ⟨by rw [e]; exact sa_cons h1 a1 b1, fun y hy => ?_, congrArg (· + 1) b3, fun _ pos => ?_⟩
      · rcases List.mem_cons.mp hy with rfl | hy
        · exact h1
        · exact b2 y hy
      · cases as with
        | nil =>
          have e0 : xs = [] := List.eq_nil_of_length_eq_zero b3
          subst e0
          have e1 : evAnd (fnsOf cs) (.cons a .nil) = ev (fnsOf cs) a := by funext ρ; rw [evAnd]
          have e2 : evOr (fnsOf cs) (.cons a .nil) = ev (fnsOf cs) a := by funext ρ; rw [evOr]
          rw [e1, e2]
          exact ⟨se_and1 a1, se_or1 a1, sw_and1 a2, sw_or1 a2⟩
        | cons a' as' =>
          cases xs with
          | nil => cases b3
          | cons y ys =>
            obtain ⟨c1, c2, c3, c4⟩ := b4 (by show as'.len + 1 ≠ 0; omega) pos
            have e1 : evAnd (fnsOf cs) (.cons a (.cons a' as')) = fun ρ => (do
              let x ← ev (fnsOf cs) a ρ
              let k ← D.truth x
              if k then evAnd (fnsOf cs) (.cons a' as') ρ else .ok x) := by funext ρ; rw [evAnd]
            have e2 : evOr (fnsOf cs) (.cons a (.cons a' as')) = fun ρ => (do
              let x ← ev (fnsOf cs) a ρ
              let k ← D.truth x
              if k then .ok x else evOr (fnsOf cs) (.cons a' as') ρ) := by funext ρ; rw [evOr]
            rw [e1, e2]
            exact ⟨se_and a1 c1, se_or a1 c2, sw_and a2 c3, sw_or a2 c4⟩
  part := fun X W o hX tk h => by
    cases as with
    | cons _ _ => simp [chkPart] at h
    | nil =>
      cases o with
      | none => simp [chkPart] at h
      | some x =>
        have h : chk C X.env.scope a x = true := by simpa [chkPart] using h
        have e : evPart (fnsOf cs) (.cons a .nil) = fun ρ => (do
          let x ← ev (fnsOf cs) a ρ
          D.asI x) := by funext ρ; rw [evPart]
        rw [e]
        exact so_some (ha X W x hX tk h).1
  tests := fun X W xs hX tk h => by
    match as, xs, h with
    | .nil, [x], h =>
      have h : chk C X.env.scope a x = true := by simpa [chkTests] using h
      have e : evTests (fnsOf cs) (.cons a .nil) = fun ρ => ev (fnsOf cs) a ρ >>= D.truth := by funext ρ; rw [evTests]
      rw [e]
      exact pts_one (ha X W x hX tk h).2
    | .nil, [], h => simp [chkTests] at h
    | .nil, _ :: _ :: _, h => simp [chkTests] at h
    | .cons _ _, _, h => simp [chkTests] at h
  fs := fun X W xs hX tk h => by
    cases xs with
    | nil => rw [chkFs] at h; cases h
    | cons x xs =>
      rw [chkFs] at h
      rw [Bool.and_eq_true] at h
      obtain ⟨h1, h2⟩ := h
      obtain ⟨ts, b1, b2⟩ := hs.fs X W xs hX tk h2
      have e0 : ∀ acc, evFs (fnsOf cs) (.cons a as) acc = fun ρ => (do
        let x ← ev (fnsOf cs) a ρ
        let y ← D.fmtOf acc x
        evFs (fnsOf cs) as y ρ) := fun acc => by funext ρ; rw [evFs]
      cases q : xFmt x with
      | some y =>
        rw [q] at h1
        obtain ⟨p, rfl⟩ := xFmt_s q
        refine ⟨_, .cons (pe_fmt (ha X W y hX tk h1).1) b1, fun acc σ H Q hq => ?_⟩
        rw [e0] at hq
        exact fmt_part hq fun y σ H => b2 y σ H Q
      | none =>
        rw [q] at h1
        obtain ⟨z, rfl, q2⟩ := chkFix_s h1
        obtain ⟨j, p, rfl⟩ := xConst_s q2
        refine ⟨_, .cons (se_cst (W := W) (x := .str z) (k := .str z) (decide_eq_true rfl)) b1, fun acc σ H Q hq => ?_⟩
        rw [e0] at hq
        have e1 : ev (fnsOf cs) (.cst (.str z)) = fun _ => .ok (.str z) := by funext ρ; rw [ev]; rfl
        rw [e1] at hq
        exact fix_part hq fun y σ H => b2 y σ H Q
theorem oki_val {a : E} (ha : EOk C cs kk a) : ItOk C cs kk (.val a) := fun X W tg e hX tk h hz => by
  rw [chkIt] at h
  simp only [Bool.and_eq_true] at h
  refine ⟨?_, h.1⟩
  have e : evIt (fnsOf cs) (.val a) = fun ρ => (do
    let x ← ev (fnsOf cs) a ρ
    D.items x) := by funext ρ; rw [evIt]
  rw [e]
  exact si_val (ha X W _ hX tk h.2).1
theorem oki_range {es : Es} (hs : EsOk C cs kk es) : ItOk C cs kk (.range es) := fun X W tg e hX tk h hz => by
  rw [chkIt] at h
  cases q : xCall e with
  | none => rw [q] at h; cases h
  | some u =>
    obtain ⟨x, xs⟩ := u
    rw [q] at h
    obtain ⟨p, pos, rfl⟩ := xCall_s q
    simp only [Bool.and_eq_true, decide_eq_true_eq] at h
    obtain ⟨⟨⟨⟨rfl, h1⟩, h2⟩, h3⟩, h4⟩ := h
    refine ⟨?_, rfl⟩
    obtain ⟨a1, a2, a3, _⟩ := hs.args X W xs hX tk h4
    have e : evIt (fnsOf cs) (.range es) = fun ρ => (do
      let xs ← evs (fnsOf cs) es ρ
      D.rangeOf xs) := by funext ρ; rw [evIt]
    rw [e]
    match xs, a1, a2, a3 with
    | [y], a1, a2, a3 => exact si_range1 h2 (glob_free hX h1) (a2 y (by simp)) a1 fun ρ ds q => by rw [evs_len q, ← a3]; rfl
    | [y, z], a1, a2, a3 => exact si_range2 h2 (glob_free hX h1) (a2 y (by simp)) (a2 z (by simp)) a1 fun ρ ds q => by rw [evs_len q, ← a3]; rfl
    | [], a1, a2, a3 => rcases h3 with h3 | h3 <;> (rw [← a3] at h3; cases h3)
    | _ :: _ :: _ :: _, a1, a2, a3 => rcases h3 with h3 | h3 <;> (rw [← a3] at h3; simp at h3)
theorem oki_range3 {es : Es} (hs : EsOk C cs kk es) : ItOk C cs kk (.range3 es) := fun X W tg e hX tk h hz => by
  rw [chkIt] at h
  cases q : xCall e with
  | none => rw [q] at h; cases h
  | some u =>
    obtain ⟨x, xs⟩ := u
    rw [q] at h
    obtain ⟨p, pos, rfl⟩ := xCall_s q
    simp only [Bool.and_eq_true, decide_eq_true_eq] at h
    obtain ⟨⟨⟨⟨rfl, h1⟩, h2⟩, h3⟩, h4⟩ := h
    refine ⟨?_, rfl⟩
    obtain ⟨a1, a2, a3, _⟩ := hs.args X W xs hX tk h4
    have e : evIt (fnsOf cs) (.range3 es) = fun ρ => (do
      let xs ← evs (fnsOf cs) es ρ
      D.range3 xs) := by funext ρ; rw [evIt]
    rw [e]
    match xs, a1, a2, a3 with
    | [y, z, u], a1, a2, a3 => exact si_range3 h2 (glob_free hX h1) a2 a1
    | [], a1, a2, a3 => rw [← a3] at h3; cases h3
    | [_], a1, a2, a3 => rw [← a3] at h3; cases h3
    | [_, _], a1, a2, a3 => rw [← a3] at h3; cases h3
    | _ :: _ :: _ :: _ :: _, a1, a2, a3 => rw [← a3] at h3; simp at h3
theorem oki_zip {a b : E} (ha : EOk C cs kk a) (hb : EOk C cs kk b) : ItOk C cs kk (.zip a b) := fun X W tg e hX tk h hz => by
  rw [chkIt] at h
  obtain ⟨ks, k, tp, rfl⟩ := hz a b rfl
  cases q : xCall e with
  | none => rw [q] at h; cases h
  | some u =>
    obtain ⟨x, xs⟩ := u
    rw [q] at h
    obtain ⟨p, pos, rfl⟩ := xCall_s q
    simp only [Bool.and_eq_true, decide_eq_true_eq] at h
    obtain ⟨⟨⟨rfl, h1⟩, h2⟩, h3⟩ := h
    refine ⟨?_, rfl⟩
    have e : evIt (fnsOf cs) (.zip a b) = fun ρ => (do
      let x ← ev (fnsOf cs) a ρ
      let y ← ev (fnsOf cs) b ρ
      D.zipOf x y) := by funext ρ; rw [evIt]
    rw [e]
    match xs, h3 with
    | [y, z], h3 =>
      simp only [Bool.and_eq_true] at h3
      obtain ⟨⟨⟨h4, h5⟩, h6⟩, h7⟩ := h3
      exact si_zip h2 (glob_free hX h1) h4 h5 (ha X W y hX tk h6).1 (hb X W z hX tk h7).1
    | [], h3 => cases h3
    | [_], h3 => cases h3
    | _ :: _ :: _ :: _, h3 => cases h3
theorem lookup_reps {K : PySem.W.Frag} {H : Hp} {f : Str} {d : D} : ∀ {fs : List (Str × V)} {ys : List D}, Reps K H ys (fs.map (·.2)) → ((fs.map (·.1)).zip ys).lookup f = some d → ∃ v, fs.lookup f = some v ∧ Rep K H d v
  | [], _, .nil, h => by simp at h
  | (n, v) :: fs, y :: ys, .cons r t, h => by
    rw [List.map_cons, List.zip_cons_cons, List.lookup_cons] at h
    rw [List.lookup_cons]
    cases e : f == n with
    | true =>
      rw [e] at h
      cases h
      exact ⟨v, rfl, r⟩
    | false =>
      rw [e] at h
      exact lookup_reps t h
theorem lookup_no {f : Str} : ∀ {fs : List (Str × V)}, (fs.map (·.1)).contains f = false → fs.lookup f = none
  | [], _ => rfl
  | (n, v) :: fs, h => by
    rw [List.map_cons, List.contains_cons, Bool.or_eq_false_iff] at h
    rw [List.lookup_cons, h.1]
    exact lookup_no h.2
theorem ok_fat {a : E} (f : Str) (ha : EOk C cs kk a) : EOk C cs kk (.fat a f) := fun X W e hX tk h => by
  rw [chk] at h
  cases q : xAttr e with
  | none => rw [q] at h; cases h
  | some u =>
    obtain ⟨o, g⟩ := u
    rw [q] at h
    obtain ⟨p, rfl⟩ := xAttr_s q
    simp only [Bool.and_eq_true, decide_eq_true_eq] at h
    obtain ⟨⟨⟨rfl, h0⟩, h1⟩, h2⟩ := h
    cases z : xName o with
    | none => rw [z] at h1; cases h1
    | some x =>
      obtain ⟨px, rfl⟩ := xName_s z
      refine sb_plain ?_ fun _ => rfl
      have e : ev (fnsOf cs) (.fat a g) = fun ρ => (do
        let x ← ev (fnsOf cs) a ρ
        D.fat g x) := by funext ρ; rw [ev]
      rw [e]
      refine PE.imp (pe_fld (ha X W (.Name x px) hX tk h2).1 rfl) fun σ H Q ⟨ρ, Hs, he, hr, hp⟩ => ⟨ρ, Hs, he, hr, hp.bind fun d _ v Hi H1 l rv hp1 => ?_⟩
      cases d with
      | obj c ns ys =>
        obtain ⟨p1, C1, dx, fs, rfl, e1, T, rfl, r1⟩ := rv.objI
        have hp1 : PstD X.K X.mg Hi H1 (match ((fs.map (·.1)).zip ys).lookup g with | some d => .ok d | none => .stuck) Q _ := hp1
        cases lk : ((fs.map (·.1)).zip ys).lookup g with
        | none => rw [lk] at hp1; exact hp1.elim
        | some d =>
          rw [lk] at hp1
          obtain ⟨v, lv, r2⟩ := lookup_reps r1 lk
          exact ⟨_, _, _, _, v, rfl, l.sub _ _ e1, T.cl, T.na g (List.contains_iff_mem.mp h0), lv, hp1.now l.sub r2⟩
      | _ => exact hp1.elim
/-- what an object must be for such a call -/
theorem ob_is {K : PySem.W.Frag} {H : Hp} {m : Str} {cs : List Str} {d : D} {v : V} (r : Rep K H d v) (h : d.isOb m cs = true) : ∃ c ns ys p C dx fs, d = .obj c ns ys ∧ v = .ref p ∧ H p = some (.ins C dx fs) ∧ ObK K c C ∧ c ∈ cs ∧ fs.lookup m = none := by
  cases d with
  | obj c ns ys =>
    obtain ⟨p1, C1, dx, fs, rfl, e1, T, rfl, r1⟩ := r.objI
    have h : (cs.contains c && !(fs.map (·.1)).contains m) = true := h
    rw [Bool.and_eq_true, Bool.not_eq_true'] at h
    exact ⟨c, _, ys, p1, C1, dx, fs, rfl, rfl, e1, T, List.contains_iff_mem.mp h.1, lookup_no h.2⟩
  | _ => cases h
theorem ob_meth {P : Program} {w : World} {K : PySem.W.Frag} {mg : Str → Option Value} {base : Heap} {k : Nat} {cal : Cal} {c : Str} {C : Addr} (F : cal.Ok P w K mg base k) (hn : cal.name ≠ "__init__") (hc : c ∈ cal.cls) (T : ObK K c C) : BMeth K C cal.name cal.f := by
  obtain ⟨C2, h1, h2⟩ := F.mt hn c hc
  rw [T.nm] at h1
  cases h1
  exact h2
/-- the tree of o.m(..), o a name -/
theorem way_of {x m : Str} {px ap cp : Pos} {es : List Expr} {env : PySem.Env} (hpl : ∀ e ∈ es, plain e = true) (hf : es.length < 20) (hl : (ap.endLine == cp.line) = true) :
    eval (.Call (.Attribute (.Name x px) m ap) es [] cp) env = (do
      let u ← eval (.Name x px) env
      standAt ap.atName
      let (fn, one) ← holding [u] (getMethod u m (do return (← importBound (.Name x px) env).getD true))
      callWith cp fn one (backTo cp (starEach es env)) (backToKw cp (keywordEach [] env))) := by
  have al : (backTo cp (starEach es env)).all (fun x => !x.1) = true := by
    have := star_any (pos := cp) (env := env) hpl
    rw [List.all_eq_true]
    intro y hy
    rw [List.any_eq_false] at this
    have := this y hy
    simpa using this
  have few : methodCallForm (es.length + ([] : List Keyword).length) (backTo cp (starEach es env)) (backToKw cp (keywordEach [] env)) = true := by
    unfold methodCallForm
    rw [al]
    show (true && true && decide (es.length + 0 + 0 < 30)) = true
    rw [decide_eq_true (by omega)]
    rfl
  rw [arm_eval_Call, show attributeBase (.Name x px) m env (eval (.Name x px) env) = eval (.Name x px) env from rfl]
  unfold methodCall calleeOf methodCallPos
  rw [few]
  simp only [if_true, hl, Bool.not_true, Bool.false_or]
  rfl
theorem ok_meth (m : Str) (k : Nat) (cl : List Str) {a : E} {es : Es} (ha : EOk C cs kk a) (hs : EsOk C cs kk es) : EOk C cs kk (.meth m k cl a es) := fun X W e hX tk h => by
  rw [chk] at h
  cases q : xMeth e with
  | none => rw [q] at h; cases h
  | some u =>
    obtain ⟨o, n, xs, l⟩ := u
    rw [q] at h
    obtain ⟨ap, cp, rfl, hl⟩ := xMeth_s q
    simp only [Bool.and_eq_true, decide_eq_true_eq] at h
    obtain ⟨⟨⟨⟨⟨⟨⟨⟨rfl, h1⟩, h2⟩, h3⟩, h4⟩, hf⟩, h5⟩, h6⟩, h7⟩ := h
    cases z : xName o with
    | none => rw [z] at h5; cases h5
    | some x =>
      obtain ⟨px, rfl⟩ := xName_s z
      rw [hX.cn, List.getElem?_map] at h3
      rw [hX.km, List.getElem?_map] at h4
      cases q2 : cs[k]? with
      | none => rw [q2] at h3; cases h3
      | some cal =>
        rw [q2] at h3 h4
        have h3 : some (cal.name, cal.ps.length) = some (n, es.len + 1) := h3
        have h4 : some (cal.cls, cal.own) = some (cl, []) := h4
        simp only [Option.some.injEq, Prod.mk.injEq] at h3 h4
        obtain ⟨rfl, h8⟩ := h3
        obtain ⟨rfl, h9⟩ := h4
        obtain ⟨a1, a2, a3, _⟩ := hs.args X W xs hX tk h7
        refine sb_plain ?_ fun _ => rfl
        have F := hX.fns cal (List.mem_of_getElem? q2)
        have e : ev (fnsOf cs) (.meth cal.name k cal.cls a es) = fun ρ => (do
          let x ← ev (fnsOf cs) a ρ
          if x.isOb cal.name cal.cls then do
            let xs ← evs (fnsOf cs) es ρ
            if xs.length + 1 = cal.ps.length then cal.g (x :: xs) else .stuck
          else .stuck) := by
          funext ρ
          rw [ev]
          congr 1
          funext d
          split
          · congr 1
            funext ds
            show (match (fnsOf cs)[k]? with | some (n, g) => if ds.length + 1 = n then g (d :: ds) else .stuck | none => .stuck) = _
            unfold fnsOf
            rw [List.getElem?_map, q2]
            rfl
          · rfl
        rw [e]
        have fin : ∀ (σ : L2.St) (H : Hp) (Q : VK), tD X.K X.mg W (fun ρ => (do
          let x ← ev (fnsOf cs) a ρ
          if x.isOb cal.name cal.cls then do
            let xs ← evs (fnsOf cs) es ρ
            if xs.length + 1 = cal.ps.length then cal.g (x :: xs) else .stuck
          else .stuck)) σ H Q → tMethQ X.K cal.name cal.f (spOf X.K X.mg cal.ps.length cal.g) (WE W) (tD X.K X.mg W (ev (fnsOf cs) a)) (tDL X.K X.mg W (evs (fnsOf cs) es)) σ H Q := by
          rintro σ H Q ⟨ρ, Hs, he, hr, hp⟩
          refine ⟨ρ, Hs, he, hr, hp.bind fun d _ v Hi H1 l rv hp1 => ?_⟩
          by_cases ob : d.isOb cal.name cal.cls = true
          · rw [if_pos ob] at hp1
            obtain ⟨c, ns, ys, p1, C1, dx, fs, rfl, rfl, e1, T, hc, lk⟩ := ob_is rv ob
            refine ⟨p1, C1, dx, fs, rfl, l.sub _ _ e1, T.cl, (ob_meth F h2 hc T).mt, lk, ρ, Hi, l.sub, hr.mono l.old, hp1.bind fun ds _ vs Hj H2 l2 rvs hp2 => ?_⟩
            by_cases hn : ds.length + 1 = cal.ps.length
            · rw [if_pos hn] at hp2
              exact ⟨Hj, _ :: ds, l2.sub, .cons (rv.mono l2.old) rvs, hn, hp2⟩
            · rw [if_neg hn] at hp2
              exact hp2.elim
          · rw [if_neg ob] at hp1
            exact hp1.elim
        cases xs with
        | nil =>
          refine PE.imp (pe_methQ0 (ha X W (.Name x px) hX tk h6).1 (F.fn h9) hX.room F.bd (fun σ => passAt tk σ) (way_of (fun x hx => a2 x hx) (by rw [a3]; exact hf) (hl ▸ h1))) fun σ H Q hh => ?_
          obtain ⟨ρ, Hs, he, hr, hp⟩ := fin σ H Q hh
          refine ⟨ρ, Hs, he, hr, ?_⟩
          have e0 : es = .nil := by
            cases es with
            | nil => rfl
            | cons _ _ => simp [Es.len] at a3
          subst e0
          refine Pst.imp hp fun v H1 ⟨p1, C1, dx, fs, b1, b2, b3, b4, b5, ρ2, Hs2, c1, c2, c3⟩ => ⟨p1, C1, dx, fs, b1, b2, b3, b4, b5, ?_⟩
          rw [evs] at c3
          exact c3.now c1 .nil
        | cons y ys => exact PE.imp (pe_methQ (ha X W (.Name x px) hX tk h6).1 (F.fn h9) hX.room F.bd (fun σ => passAt tk σ) a1 (star_cons (a2 y (by simp))) (star_any fun x hx => a2 x (by simp [hx])) (way_of (fun x hx => a2 x hx) (by rw [a3]; exact hf) (hl ▸ h1))) fin
/-- e.m as a value -/
def tBnd (K : PySem.W.Frag) (m : Str) (g : Addr) (ta : TE) : TE := fun σ H Q => ta σ H fun x H1 => ∃ a C dx fs, x = .ref a ∧ H1 a = some (.ins C dx fs) ∧ Cls K C ∧ BMeth K C m g ∧ fs.lookup m = none ∧ ∀ p, H1 p = none → Q (.ref p) (upd H1 p (.met g a))
theorem pe_bnd {X : Cx} {e : Expr} {m : Str} {g : Addr} {ta : TE} {pos : Pos} (he : PE X e ta) (hb : attributeBase e m X.env (eval e X.env) = eval e X.env) : PE X (.Attribute e m pos) (tBnd X.K m g ta) := by
  refine ⟨fun pins s σ H Q I h => ?_⟩
  refine attr_of hb (thn (he.run pins s σ H _ I h) fun u s1 ⟨x, H1, I1, rx, a, C, dx, fs, ex, ea, c, k, l, q⟩ => ?_)
  subst ex
  exact op_getbound I1 ea c k l rx q
theorem keysM_at {g : D → R D} : ∀ {xs : List D} {is : List Int}, keysM g xs = .ok is → is.length = xs.length ∧ ∀ i d, xs[i]? = some d → g d = .ok (.int (is.getD i 0))
  | [], is, h => by cases h; exact ⟨rfl, fun i d e => by simp at e⟩
  | x :: xs, is, h => by
    unfold keysM at h
    cases e1 : g x with
    | ok v =>
      cases v with
      | int n =>
        rw [e1] at h
        cases e2 : keysM g xs with
        | ok l =>
          rw [e2] at h
          cases h
          obtain ⟨a, b⟩ := keysM_at e2
          refine ⟨by rw [List.length_cons, List.length_cons, a], fun i d e => ?_⟩
          cases i with
          | zero =>
            simp at e
            subst e
            rw [e1]
            rfl
          | succ i => exact b i d (by simpa using e)
        | exc x => rw [e2] at h; cases h
        | stuck => rw [e2] at h; cases h
      | _ => rw [e1] at h; cases h
    | exc x => rw [e1] at h; cases h
    | stuck => rw [e1] at h; cases h
theorem tupl_refs {K : PySem.W.Frag} {H : Hp} : ∀ {ds : List D} {vs : List V}, Reps K H ds vs → ds.all D.isTupl = true → ∀ x ∈ vs, ∃ b, x = V.ref b
  | _, _, .nil, _, x, hx => by cases hx
  | d :: ds, v :: vs, .cons r t, h, x, hx => by
    rw [List.all_cons, Bool.and_eq_true] at h
    rcases List.mem_cons.mp hx with rfl | hx
    · cases d with
      | tup xs =>
        obtain ⟨p, _, e, _⟩ := r.tupI
        exact ⟨p, e⟩
      | _ => cases h.1
    · exact tupl_refs t h.2 x hx
theorem ok_mxk (mx : Bool) (m : Str) (k : Nat) (cl : List Str) {a b : E} (ha : EOk C cs kk a) (hb : EOk C cs kk b) : EOk C cs kk (.mxk mx m k cl a b) := fun X W e hX tk h => by
  rw [chk] at h
  cases q : xCallK e with
  | none => rw [q] at h; cases h
  | some u =>
    obtain ⟨x, xs, n, d⟩ := u
    rw [q] at h
    obtain ⟨p, pos, r, rfl⟩ := xCallK_s q
    simp only [Bool.and_eq_true, decide_eq_true_eq] at h
    obtain ⟨⟨⟨⟨⟨⟨⟨⟨⟨rfl, hmx⟩, h1⟩, h2⟩, rfl⟩, h3⟩, h4⟩, h5⟩, h6⟩, h7⟩ := h
    cases z : xAttr d with
    | none => rw [z] at h6; cases h6
    | some u =>
      obtain ⟨o, g⟩ := u
      rw [z] at h6
      obtain ⟨pa, rfl⟩ := xAttr_s z
      simp only [Bool.and_eq_true, decide_eq_true_eq] at h6
      obtain ⟨⟨rfl, h8⟩, h9⟩ := h6
      cases z2 : xName o with
      | none => rw [z2] at h8; cases h8
      | some xo =>
        obtain ⟨px, rfl⟩ := xName_s z2
        rw [hX.cn, List.getElem?_map] at h4
        rw [hX.km, List.getElem?_map] at h5
        cases q2 : cs[k]? with
        | none => rw [q2] at h4; cases h4
        | some cal =>
          rw [q2] at h4 h5
          have k4 : some (cal.name, cal.ps.length) = some (g, 2) := h4
          have k5 : some (cal.cls, cal.own) = some (cl, []) := h5
          clear h4 h5
          simp only [Option.some.injEq, Prod.mk.injEq] at k4 k5
          obtain ⟨rfl, k4⟩ := k4
          obtain ⟨rfl, k5⟩ := k5
          obtain ⟨j, rfl, fns⟩ := hX.mxs hmx
          have F := fns cal (List.mem_of_getElem? q2)
          match xs, h7 with
          | [], h7 => cases h7
          | _ :: _ :: _, h7 => cases h7
          | [y], h7 =>
            simp only [Bool.and_eq_true] at h7
            refine sb_plain ?_ fun _ => rfl
            have e : ev (fnsOf cs) (.mxk mx cal.name k cal.cls a b) = fun ρ => (do
              let x ← ev (fnsOf cs) a ρ
              let y ← ev (fnsOf cs) b ρ
              if y.isOb cal.name cal.cls then D.mxk mx (fun d => cal.g [y, d]) x else .stuck) := by
              funext ρ
              rw [ev]
              congr 1
              funext d
              congr 1
              funext d2
              have z : (fnsOf cs)[k]? = some (cal.ps.length, cal.g) := by
                unfold fnsOf
                rw [List.getElem?_map, q2]
                rfl
              rw [z]
              simp only [k4, if_true]
            rw [e]
            have pb : PE X (.Attribute (.Name xo px) cal.name pa) (tBnd X.K cal.name cal.f (tD X.K X.mg W (ev (fnsOf cs) b))) := pe_bnd (hb X W (.Name xo px) hX tk h9).1 rfl
            obtain ⟨g1, g2, g3⟩ := gl_of h2
            have cr : CallRK X (.builtin (if mx then "max" else "min")) [("key" : Str)] (fun vs zs H Q => ∃ l qq aa xs f, vs = [.ref l] ∧ zs = [.ref qq] ∧ KeyW X (spOf X.K X.mg cal.ps.length cal.g) H l qq aa cal.f xs f ∧ ∀ H' v, (∀ b o, H b = some o → H' b = some o) → xs[argBest (btOf mx f) (xs.length - 1)]? = some v → Q v H') := by
              rintro pins s σ H vs zs us ws Q I r1 r2 ⟨l, qq, aa, xs, f, rfl, rfl, kw, res⟩
              rw [Vals.ref1 r1, Vals.ref1 r2]
              exact run_mxk I kw (F.fn k5) hX.room F.bd res
            have boot : bootBuiltins (if mx then ("max" : Str) else ("min" : Str)) = some (.builtin (if mx then "max" else "min")) := by cases mx <;> decide +kernel
            refine PE.imp (pe_callBK cr g1 (glob_free hX h1) boot (pa_cons (ha X W y hX tk h7.2).1 pa_nil (star_cons h7.1)) (pk_cons pb pk_nil) g3 g2 (by rw [star_cons h7.1]; rfl) (by rw [star_cons h7.1]; rfl)) fun σ H Q ⟨ρ, Hs, he, hr, hp⟩ => ⟨ρ, Hs, he, hr, hp.bind fun d1 _ v Hi H1 l1 rv hp1 => ?_⟩
            refine ⟨ρ, Hi, l1.sub, hr.mono l1.old, hp1.bind fun d2 _ v2 Hj H2 l2 rv2 hp2 => ?_⟩
            by_cases ob : d2.isOb cal.name cal.cls = true
            · rw [if_pos ob] at hp2
              obtain ⟨c, ns, ys, p1, C1, dx, fs, rfl, rfl, e1, T, hc, lk⟩ := ob_is rv2 ob
              refine ⟨p1, C1, dx, fs, rfl, l2.sub _ _ e1, T.cl, ob_meth F h3 hc T, lk, fun pm hpm => ?_⟩
              cases d1 with
              | lst xs =>
                obtain ⟨pl, vs, rfl, el, rl⟩ := (rv.mono l2.old).lstI
                have hp2 : PstD X.K X.mg Hj H2 (if xs.all D.isTupl then (match keysM (fun d => cal.g [.obj c ns ys, d]) xs with | .ok is => (match xs[argBest (btOf mx fun i => is.getD i 0) (xs.length - 1)]? with | some d => .ok d | none => .stuck) | _ => .stuck) else .stuck) Q (fun c d H' => W c d σ H') := hp2
                by_cases tl : xs.all D.isTupl = true
                · rw [if_pos tl] at hp2
                  cases ks : keysM (fun d => cal.g [.obj c ns ys, d]) xs with
                  | ok is =>
                    rw [ks] at hp2
                    obtain ⟨kl, kat⟩ := keysM_at ks
                    cases bs : xs[argBest (btOf mx fun i => is.getD i 0) (xs.length - 1)]? with
                    | none => simp only [bs] at hp2; exact hp2.elim
                    | some d =>
                      simp only [bs] at hp2
                      have nm : ∀ a o, H2 a = some o → upd H2 pm (.met cal.f p1) a = some o := fun a o h => by rw [upd_ne (ne_of_none h hpm)]; exact h
                      have ne0 : vs ≠ [] := fun z => by
                        subst z
                        cases rl
                        simp at bs
                      refine ⟨pl, pm, p1, vs, fun i => is.getD i 0, rfl, rfl, ⟨nm _ _ (l2.sub _ _ el), upd_same, ne0, tupl_refs rl tl, fun i v hv H' hH' => ?_⟩, fun H' v hH' hv => ?_⟩
                      · obtain ⟨di, hdi, rdi⟩ := rl.getV hv
                        refine ⟨Hj, [.obj c ns ys, di], fun a o h => hH' a o (nm a o (l2.sub a o h)), .cons rv2 (.cons rdi .nil), k4.symm, ?_⟩
                        rw [kat i di hdi]
                        exact fun v2 Hk H3 l3 r3 => ⟨r3.intI, l3.ex⟩
                      · rw [← rl.length] at hv
                        obtain ⟨v', hv', rd⟩ := rl.get bs
                        rw [hv] at hv'
                        cases hv'
                        exact hp2 v Hj H' ⟨Ex.refl _, fun a o h => hH' a o (nm a o h), fun a o h => hH' a o (nm a o (l2.sub a o h)), fun _ _ h => .inl h⟩ rd
                  | exc x => rw [ks] at hp2; exact hp2.elim
                  | stuck => rw [ks] at hp2; exact hp2.elim
                · rw [if_neg tl] at hp2
                  exact hp2.elim
              | _ => exact hp2.elim
            · rw [if_neg ob] at hp2
              exact hp2.elim
mutual
theorem ok_E : ∀ a : E, EOk C cs kk a
  | .var i => ok_var i
  | .cst c => ok_cst c
  | .glo x c => ok_glo x c
  | .bin o a b => ok_bin o (ok_E a) (ok_E b)
  | .neg a => ok_neg (ok_E a)
  | .cmp o a b => ok_cmp o (ok_E a) (ok_E b)
  | .isn no a => ok_isn no (ok_E a)
  | .isb no a b => ok_isb no b (ok_E a)
  | .chain o1 o2 a b c => ok_chain o1 o2 (ok_E a) (ok_E b) (ok_E c)
  | .and es => ok_and (ok_Es es)
  | .or es => ok_or (ok_Es es)
  | .not a => ok_not (ok_E a)
  | .tup es => ok_tup (ok_Es es)
  | .lst es => ok_lst (ok_Es es)
  | .ix a b => ok_ix (ok_E a) (ok_E b)
  | .dix a b => ok_dix (ok_E a) (ok_E b)
  | .din no a b => ok_din no (ok_E a) (ok_E b)
  | .ddl t => ok_ddl t
  | .dgt a b c => ok_dgt (ok_E a) (ok_E b) (ok_E c)
  | .kix n t a => ok_kix n t (ok_E a)
  | .kget n t a => ok_kget n t (ok_E a)
  | .sl a lo hi => ok_sl (ok_E a) (ok_Es lo) (ok_Es hi)
  | .call k es => ok_call k (ok_Es es)
  | .bi b es => ok_bi b (ok_Es es)
  | .isi a t => ok_isi t (ok_E a)
  | .minD a => ok_minD (ok_E a)
  | .lrange1 a => ok_lrange1 (ok_E a)
  | .lrange2 a b => ok_lrange2 (ok_E a) (ok_E b)
  | .sset a => ok_sset (ok_E a)
  | .slk a k => ok_slk (ok_E a) (ok_E k)
  | .idx a b => ok_idx (ok_E a) (ok_E b)
  | .ftup a => ok_ftup (ok_E a)
  | .srt a => ok_srt (ok_E a)
  | .tix a b => ok_tix (ok_E a) (ok_E b)
  | .lc t it ifs e => ok_lc t (ok_It it) (ok_Es ifs) (ok_E e)
  | .isx a c => ok_isx c (ok_E a)
  | .fld a f => ok_fld f (ok_E a)
  | .isxs a cs => ok_isxs cs (ok_E a)
  | .dic0 => ok_dic0
  | .lset a => ok_lset (ok_E a)
  | .fat a f => ok_fat f (ok_E a)
  | .meth m k cl a es => ok_meth m k cl (ok_E a) (ok_Es es)
  | .mxk mx m k cl a b => ok_mxk mx m k cl (ok_E a) (ok_E b)
  | .sm m a b => ok_sm m (ok_E a) (ok_E b)
  | .fs es => ok_fs (ok_Es es)
theorem ok_Es : ∀ es : Es, EsOk C cs kk es
  | .nil => oks_nil
  | .cons e es => oks_cons (ok_E e) (ok_Es es)
theorem ok_It : ∀ it : It, ItOk C cs kk it
  | .val a => oki_val (ok_E a)
  | .range es => oki_range (ok_Es es)
  | .zip a b => oki_zip (ok_E a) (ok_E b)
  | .range3 es => oki_range3 (ok_Es es)
end
end
end Py

namespace Py
open PySem PySem.Spec PyProof.Rows L2

def lcFX (ft : Env → R Bool) (fe : Env → R D) (t : Tgt) (ρ : Env) (x : D) : R (Option D) := do
  let ρ' ← (t.bind x ρ).nox
  let k ← (ft ρ').nox
  if k then (fe ρ' >>= fun y => .ok (some y)) else .ok none
def lcGoX (f : D → R (Option D)) : List D → R (List D)
  | [] => .ok []
  | x :: xs => f x >>= fun o => lcGoX f xs >>= fun l => (match o with
    | some d => .ok (d :: l)
    | none => .ok l)
theorem lcGoX_cons {f : D → R (Option D)} {x : D} {xs : List D} {acc : List D} (g : List D → R D) : (lcGoX f (x :: xs) >>= fun l => g (acc ++ l)) = (f x >>= fun o => match o with
    | some y => lcGoX f xs >>= fun l => g ((acc ++ [y]) ++ l)
    | none => lcGoX f xs >>= fun l => g (acc ++ l)) := by
  show ((f x >>= fun o => lcGoX f xs >>= fun l => (match o with
    | some d => R.ok (d :: l)
    | none => .ok l)) >>= _) = _
  rw [R.bind_assoc]
  congr 1
  funext o
  rw [R.bind_assoc]
  cases o with
  | some y => simp
  | none => simp
section
variable {X : Cx} {W : WX} {tg iter elt : Expr} {ifs : List Expr} {raw : Scope} {pos : Pos} {fi : Env → R (List D)} {ft : Env → R Bool} {fe : Env → R D} {t : Tgt}
theorem lc_impX {σ : L2.St} {H : Hp} {Q : VK} (nd : t.ixs.Nodup) (h : tD X.K X.mg W (fun ρ => do
    let xs ← fi ρ
    if xs.length ≤ 16777215 then do
      let l ← lcGoX (lcFX ft fe t ρ) xs
      .ok (.lst l)
    else .stuck) σ H Q) : tLcX (iD X.K X.mg W fi) (gOf X.K t) (tDB X.K X.mg WN ft) (fun σ0 => tD X.K X.mg (fun c d _ H => W c d σ0 H) fe) t.ixs σ H Q := by
  obtain ⟨ρ, Hs, he, hr, hp⟩ := h
  refine ⟨ρ, Hs, he, hr, Pst.bind (Rel2 := Rep X.K) hp fun ds _ J Hs1 H1 l1 wk hp1 => ?_⟩
  intro DD hD
  by_cases hz : ds.length ≤ 16777215
  · rw [if_pos hz] at hp1
    have hr1 := hr.mono l1.old
    refine ⟨fun i m H' => m = ds.length - i ∧ i ≤ ds.length ∧ ∃ Hi acc vacc, Le Hs1 H1 Hi H' ∧ Hi DD = none ∧ H' DD = some (.lst vacc) ∧ Reps X.K Hi acc vacc ∧ acc.length ≤ i ∧
      PstD X.K X.mg Hs1 H1 (lcGoX (lcFX ft fe t ρ) (ds.drop i) >>= fun l => .ok (.lst (acc ++ l))) Q (fun c d H' => W c d σ H'),
      ⟨ds.length, by simp, Nat.zero_le _, Hs1, [], [], Le.new0 l1.sub hD, fresh_s l1.sub hD, upd_same, .nil, Nat.le_refl _, by simpa using hp1⟩, ?_⟩
    rintro i m H' ⟨rfl, hi, Hi, acc, vacc, le, hDi, hDl, ra, hacc, hrest⟩
    by_cases hlt : i < ds.length
    · refine .inr ⟨wk.go i H' (le.old.trans le.sub) hlt, fun H'' => ∃ m', m' < ds.length - i ∧ (m' = ds.length - (i + 1) ∧ i + 1 ≤ ds.length ∧ ∃ Hi acc vacc, Le Hs1 H1 Hi H'' ∧ Hi DD = none ∧ H'' DD = some (.lst vacc) ∧ Reps X.K Hi acc vacc ∧ acc.length ≤ i + 1 ∧
        PstD X.K X.mg Hs1 H1 (lcGoX (lcFX ft fe t ρ) (ds.drop (i + 1)) >>= fun l => .ok (.lst (acc ++ l))) Q (fun c d H' => W c d σ H')), fun H'' h => h, fun x H2 hy => ?_⟩
      have hd : ds[i]? = some ds[i] := List.getElem?_eq_getElem hlt
      obtain ⟨Hj, l2, rx⟩ := wk.yld i Hi H' x H2 _ le.old le.sub hd hy
      rw [List.drop_eq_getElem_cons hlt] at hrest
      rw [lcGoX_cons (fun l => .ok (.lst l))] at hrest
      have hDj : Hj DD = none := by
        cases z : Hj DD with
        | none => rfl
        | some o =>
          rcases l2.new DD o z with q | q
          · rw [hDi] at q; cases q
          · rw [hDl] at q; cases q
      cases q1 : t.bind ds[i] ρ with
      | stuck => rw [show lcFX ft fe t ρ ds[i] = .stuck by unfold lcFX; rw [q1]; rfl] at hrest; exact hrest.elim
      | exc x => rw [show lcFX ft fe t ρ ds[i] = .stuck by unfold lcFX; rw [q1]; rfl] at hrest; exact hrest.elim
      | ok ρ' =>
      cases q3 : ft ρ' with
      | stuck => rw [show lcFX ft fe t ρ ds[i] = .stuck by unfold lcFX; rw [q1]; simp only [R.nox, R.bind_ok]; rw [q3]; rfl] at hrest; exact hrest.elim
      | exc x => rw [show lcFX ft fe t ρ ds[i] = .stuck by unfold lcFX; rw [q1]; simp only [R.nox, R.bind_ok]; rw [q3]; rfl] at hrest; exact hrest.elim
      | ok k =>
        have e0 : lcFX ft fe t ρ ds[i] = if k then (fe ρ' >>= fun y => .ok (some y)) else .ok none := by
          unfold lcFX
          rw [q1]
          simp only [R.nox, R.bind_ok]
          rw [q3]
          rfl
        rw [e0] at hrest
        refine tgt_run (ρ := ρ) q1 rx l2.sub ((erel_wipe ((hr1.mono le.old).mono l2.old))) fun σ' hr' ⟨us, hus⟩ => ?_
        refine ⟨?_, ρ', Hj, l2.sub, hr', ?_⟩
        · rw [hus, wipe_fold _ _ fun p hp => (List.of_mem_zip hp).1, wipe_wipe]
        · rw [q3]
          intro b Hk H3 l3 hb
          subst hb
          have hDk : Hk DD = none := by
            cases z : Hk DD with
            | none => rfl
            | some o =>
              rcases l3.new DD o z with q | q
              · rw [hDj] at q; cases q
              · rw [l2.ex DD _ hDl] at q; cases q
          cases k with
          | true =>
            rw [if_pos rfl] at hrest
            refine iteT ⟨ρ', Hk, l3.sub, hr'.mono l3.old, ?_⟩
            cases q5 : fe ρ' with
            | stuck => rw [q5] at hrest; exact hrest.elim
            | exc x =>
              rw [q5] at hrest
              intro c d Hm H4 l4 rx
              exact hrest c d Hm H4 (((le.trans l2).trans l3).trans l4) rx
            | ok y =>
            rw [q5] at hrest
            simp only [R.bind_ok] at hrest
            intro v Hm H4 l4 rv
            have hD4 : H4 DD = some (.lst vacc) := l4.ex _ _ (l3.ex _ _ (l2.ex _ _ hDl))
            have hDm : Hm DD = none := by
              cases z : Hm DD with
              | none => rfl
              | some o =>
                rcases l4.new DD o z with q | q
                · rw [hDk] at q; cases q
                · rw [l3.ex DD _ (l2.ex DD _ hDl)] at q; cases q
            have lall : Le Hs1 H1 Hm H4 := ((le.trans l2).trans l3).trans l4
            have hlen : vacc.length < sizeLine := by
              rw [size_eq, ← ra.length]
              omega
            refine ⟨vacc, hD4, hlen, ds.length - (i + 1), by omega, rfl, by omega, Hm, acc ++ [y], vacc ++ [v], ⟨lall.old, fun a o h => ?_, fun a o h => ?_, lall.new⟩, hDm, upd_same, (((ra.mono l2.old).mono l3.old).mono l4.old).append (.cons rv .nil), by simp; omega, hrest⟩
            · rw [upd_ne (ne_of_none h hD)]
              exact lall.ex a o h
            · rw [upd_ne (ne_of_none h hDm)]
              exact lall.sub a o h
          | false =>
            rw [if_neg (by decide)] at hrest
            simp only [R.bind_ok] at hrest
            have lall : Le Hs1 H1 Hk H3 := (le.trans l2).trans l3
            exact iteF ⟨ds.length - (i + 1), by omega, rfl, by omega, Hk, acc, vacc, lall, hDk, l3.ex _ _ (l2.ex _ _ hDl), (ra.mono l2.old).mono l3.old, by omega, hrest⟩
    · refine .inl ⟨wk.stop i H' (le.old.trans le.sub) (by omega), ?_⟩
      have e : ds.drop i = [] := List.drop_eq_nil_of_le (by omega)
      rw [e] at hrest
      have hrest : PstD X.K X.mg Hs1 H1 (.ok (.lst (acc ++ []))) Q _ := hrest
      rw [List.append_nil] at hrest
      have ns : Hs1 DD = none := fresh_s l1.sub hD
      refine hrest (.ref DD) (upd Hi DD (.lst vacc)) H' ⟨fun a o h => ?_, le.ex, fun a o h => ?_, fun a o h => ?_⟩ (.lst upd_same (ra.mono (Ex.new hDi)))
      · rw [upd_ne (ne_of_none h ns)]
        exact le.old a o h
      · by_cases e : a = DD
        · subst e
          rw [upd_same] at h
          cases h
          exact hDl
        · rw [upd_ne e] at h
          exact le.sub a o h
      · by_cases e : a = DD
        · subst e
          exact .inr hD
        · rw [upd_ne e] at h
          exact le.new a o h
  · rw [if_neg hz] at hp1
    exact hp1.elim
end
section
variable {C : Cfg} {cs : List Cal} {kk : Nat}
theorem takesN {Y : Cx} : Takes Y WN := fun u s' x => by
  obtain ⟨_, _, _, _, _, _, _, _, _, _, _, _, _, _, _, _, w⟩ := x
  exact w.elim
/-- e.m(..), its arguments without exceptions -/
def methX (Φ : Fns) (m : Str) (k : Nat) (cl : List Str) (a : E) (es : Es) (ρ : Env) : R D := (ev Φ a ρ).nox >>= fun x => if x.isOb m cl then (evs Φ es ρ).nox >>= fun xs => (match Φ[k]? with
    | some (n, g) => if xs.length + 1 = n then g (x :: xs) else .stuck
    | none => .stuck) else .stuck
theorem ok_methX (m : Str) (k : Nat) (cl : List Str) {a : E} {es : Es} (ha : EOk C cs kk a) (hs : EsOk C cs kk es) {Y : Cx} {W0 : XK} {e : Expr} (hX : XOk Y C cs kk) (pas : ∀ σ, PassesAt (L2.CX Y.prog Y.w) Y σ W0) (h : chk C Y.env.scope (.meth m k cl a es) e = true) :
    PE Y e (tD Y.K Y.mg (fun c d _ H => W0 c d H) (methX (fnsOf cs) m k cl a es)) := by
  rw [chk] at h
  cases q : xMeth e with
  | none => rw [q] at h; cases h
  | some u =>
    obtain ⟨o, n, xs, l⟩ := u
    rw [q] at h
    obtain ⟨ap, cp, rfl, hl⟩ := xMeth_s q
    simp only [Bool.and_eq_true, decide_eq_true_eq] at h
    obtain ⟨⟨⟨⟨⟨⟨⟨⟨rfl, h1⟩, h2⟩, h3⟩, h4⟩, hf⟩, h5⟩, h6⟩, h7⟩ := h
    cases z : xName o with
    | none => rw [z] at h5; cases h5
    | some x =>
      obtain ⟨px, rfl⟩ := xName_s z
      rw [hX.cn, List.getElem?_map] at h3
      rw [hX.km, List.getElem?_map] at h4
      cases q2 : cs[k]? with
      | none => rw [q2] at h3; cases h3
      | some cal =>
        rw [q2] at h3 h4
        have h3 : some (cal.name, cal.ps.length) = some (n, es.len + 1) := h3
        have h4 : some (cal.cls, cal.own) = some (cl, []) := h4
        simp only [Option.some.injEq, Prod.mk.injEq] at h3 h4
        obtain ⟨rfl, h8⟩ := h3
        obtain ⟨rfl, h9⟩ := h4
        obtain ⟨a1, a2, a3, _⟩ := hs.args Y WN xs hX takesN h7
        have F := hX.fns cal (List.mem_of_getElem? q2)
        have eg : (fnsOf cs)[k]? = some (cal.ps.length, cal.g) := by
          unfold fnsOf
          rw [List.getElem?_map, q2]
          rfl
        have fin : ∀ (σ : L2.St) (H : Hp) (Q : VK), tD Y.K Y.mg (fun c d _ H => W0 c d H) (methX (fnsOf cs) cal.name k cal.cls a es) σ H Q → tMethQ Y.K cal.name cal.f (spOf Y.K Y.mg cal.ps.length cal.g) (fun _ => W0) (tD Y.K Y.mg WN (ev (fnsOf cs) a)) (tDL Y.K Y.mg WN (evs (fnsOf cs) es)) σ H Q := by
          rintro σ H Q ⟨ρ, Hs, he, hr, hp⟩
          unfold methX at hp
          cases qa : ev (fnsOf cs) a ρ with
          | stuck => rw [qa] at hp; exact hp.elim
          | exc x => rw [qa] at hp; exact hp.elim
          | ok d =>
            rw [qa, R.nox_ok, R.bind_ok] at hp
            refine ⟨ρ, Hs, he, hr, ?_⟩
            rw [qa]
            intro v Hi H1 l rv
            have hp1 := Pst.step l hp
            by_cases ob : d.isOb cal.name cal.cls = true
            · rw [if_pos ob] at hp1
              obtain ⟨c, ns, ys, p1, C1, dx, fs, rfl, rfl, e1, T, hc, lk⟩ := ob_is rv ob
              refine ⟨p1, C1, dx, fs, rfl, l.sub _ _ e1, T.cl, (ob_meth F h2 hc T).mt, lk, ρ, Hi, l.sub, hr.mono l.old, ?_⟩
              cases qe : evs (fnsOf cs) es ρ with
              | stuck => rw [qe] at hp1; exact hp1.elim
              | exc x => rw [qe] at hp1; exact hp1.elim
              | ok ds =>
                rw [qe, R.nox_ok, R.bind_ok, eg] at hp1
                intro vs Hj H2 l2 rvs
                have hp2 := Pst.step l2 hp1
                by_cases hn : ds.length + 1 = cal.ps.length
                · simp only [if_pos hn] at hp2
                  exact ⟨Hj, _ :: ds, l2.sub, .cons (rv.mono l2.old) rvs, hn, hp2⟩
                · simp only [if_neg hn] at hp2
                  exact hp2.elim
            · rw [if_neg ob] at hp1
              exact hp1.elim
        cases xs with
        | nil =>
          refine PE.imp (pe_methQ0 (ha Y WN (.Name x px) hX takesN h6).1 (F.fn h9) hX.room F.bd pas (way_of (fun x hx => a2 x hx) (by rw [a3]; exact hf) (hl ▸ h1))) fun σ H Q hh => ?_
          obtain ⟨ρ, Hs, he, hr, hp⟩ := fin σ H Q hh
          refine ⟨ρ, Hs, he, hr, ?_⟩
          have e0 : es = .nil := by
            cases es with
            | nil => rfl
            | cons _ _ => simp [Es.len] at a3
          subst e0
          refine Pst.imp hp fun v H1 ⟨p1, C1, dx, fs, b1, b2, b3, b4, b5, ρ2, Hs2, c1, c2, c3⟩ => ⟨p1, C1, dx, fs, b1, b2, b3, b4, b5, ?_⟩
          rw [evs] at c3
          exact c3.now c1 .nil
        | cons y ys => exact PE.imp (pe_methQ (ha Y WN (.Name x px) hX takesN h6).1 (F.fn h9) hX.room F.bd pas a1 (star_cons (a2 y (by simp))) (star_any fun x hx => a2 x (by simp [hx])) (way_of (fun x hx => a2 x hx) (by rw [a3]; exact hf) (hl ▸ h1))) fin
theorem XOk.xe {Y : Cx} {E' : Value → Shared → Prop} (h : XOk Y C cs kk) : XOk { Y with xe := E' } C cs kk :=
  ⟨h.calm, h.names, h.nd, h.room, h.fns, h.cn, h.free, h.glob, h.exs, h.km, h.mxs⟩
end
/-- the list of a comprehension whose element is a method call that may raise -/
def lcMv (Φ : Fns) (t : Tgt) (it : It) (ifs : Es) (m : Str) (k : Nat) (cl : List Str) (a : E) (es : Es) (ρ : Env) : R D := do
  let xs ← evIt Φ it ρ
  if xs.length ≤ 16777215 then do
    let l ← lcGoX (lcFX (evTests Φ ifs) (methX Φ m k cl a es) t ρ) xs
    .ok (.lst l)
  else .stuck
end Py

namespace Py
open PySem PySem.Spec PyProof.Rows L2

inductive O where
  | disp (es : Es) | listOf (a : E) | add (a b : E) | lc (t : Tgt) (it : It) (ifs : Es) (e : E) | call (k : Nat) (es : Es) | lrange1 (a : E)
mutual
/-- an expression with a call that changes own things: the method of one, a def that is handed some -/
inductive EM where
  | pur (e : E)
  | cur (e : E)
  | mth (i : Nat) (m : Str) (k : Nat) (cs : List Str) (as : EMs)
  | cal (k : Nat) (as : EAs)
  | tup (as : EMs)
  | cmp (o : Cop) (a b : EM)
  | not (a : EM)
  | and (as : EMs)
  | or (as : EMs)
inductive EMs where
  | nil
  | cons (a : EM) (as : EMs)
inductive EAs where
  | nil
  | own (i : Nat) (as : EAs)
  | val (a : EM) (as : EAs)
end
mutual
inductive S where
  | asg (cl : Bool) (t : Tgt) (e : E)
  | own (cl : Bool) (i : Nat) (o : O)
  | app (cl : Bool) (i : Nat) (e : E)
  | ext (cl : Bool) (i : Nat) (e : E)
  | put (cl : Bool) (i : Nat) (j e : E)
  | ex (e : E)
  | ite (c : E) (a b : Ss)
  | whl (n : Nat) (c : E) (b : Ss)
  | for_ (cl : Bool) (t : Tgt) (it : It) (b : Ss)
  | ret (e : E)
  | retN
  | pass
  | brk
  | cont
  | nev
  | clr (i : Nat)
  | pop (i : Nat)
  | exC (e : E)
  | retC (e : E)
  | rse (cl : Bool) (c : Str) (e : E)
  | rs0 (c : Str)
  | tryx (i j : Nat) (b : Ss)
  | forC (t : Tgt) (k : Nat) (es : Es) (b : Ss)
  | apop (i j : Nat) (e : E)
  | unset (i : Nat)
  | grw (i : Nat) (e : E)
  | rev (i : Nat)
  | ownN (i : Nat)
  | ownV (cl : Bool) (i : Nat) (e : E)
  | mk2 (i j : Nat) (k : Nat) (es : Es)
  | mk (i : Nat) (c : Str) (k : Nat) (es : Es)
  | setf (cl : Bool) (i : Nat) (f : Str) (e : E)
  | asgM (t : Tgt) (m : EM)
  | exM (m : EM)
  | iteM (m : EM) (a b : Ss)
  | retM (m : EM)
  | retO (m : EM)
  | setd (i : Nat) (f : Str)
  | putf (cl : Bool) (i : Nat) (f : Str) (a e : E)
  | asgB (t : Tgt) (e : E)
  | par (i j : Nat) (a b : E)
  | dkn (i : Nat)
  | dkp (i : Nat) (a e : E)
  | lcM (i : Nat) (t : Tgt) (it : It) (ifs : Es) (m : Str) (k : Nat) (cl : List Str) (a : E) (es : Es)
inductive Ss where
  | nil
  | fre (i : Nat) (ss : Ss)
  | cons (s : S) (ss : Ss)
end

inductive Fl where
  | nx (ρ : Env) | rt (d : D) | bk (ρ : Env) | ct (ρ : Env) | xc (x : XD) (ρ : Env) | rto (d : D) (ρ : Env)
def XD.lf (x : XD) : Bool := match x.fld with
  | none => true
  | some (_, d) => d.lf
def mask (M : List Nat) (ρ : Env) : Env := M.foldl (fun ρ i => ρ.set i none) ρ
def view (M : List Nat) (cl : Bool) (ρ : Env) : Env := if cl then mask M ρ else ρ
def lift {α : Type} (cl : Bool) (l : α → Bool) (r : R α) (ρ : Env) (k : α → R Fl) : R Fl := match r with
  | .ok a => if cl || l a then k a else .stuck
  | .exc x => if cl || x.lf then .ok (.xc x ρ) else .stuck
  | .stuck => .stuck
def bindT (t : Tgt) (d : D) (ρ : Env) (k : Env → R Fl) : R Fl := match t.bind d ρ with
  | .ok ρ' => k ρ'
  | _ => .stuck
def ownRes : D → R D
  | .lst xs => if D.lfs xs then .ok (.lst xs) else .stuck
  | _ => .stuck
def O.f (Φ : Fns) : O → Env → R D
  | .disp es, ρ => do
    let xs ← evs Φ es ρ
    .ok (.lst xs)
  | .listOf a, ρ => do
    let x ← ev Φ a ρ
    D.listOf x
  | .add a b, ρ => do
    let x ← ev Φ a ρ
    let y ← ev Φ b ρ
    match x, y with
    | .lst xs, .lst ys => if xs.length + ys.length ≤ 16777216 then .ok (.lst (xs ++ ys)) else .stuck
    | _, _ => .stuck
  | .lc t it ifs e, ρ => do
    let xs ← evIt Φ it ρ
    if xs.length ≤ 16777215 then do
      let l ← lcGo (lcF (evTests Φ ifs) (ev Φ e) t ρ) xs
      .ok (.lst l)
    else .stuck
  | .call k es, ρ => do
    let xs ← evs Φ es ρ
    if D.lfs xs then (match Φ[k]? with
      | some (n, g) => if xs.length = n then g xs >>= ownRes else .stuck
      | none => .stuck) else .stuck
  | .lrange1 a, ρ => do
    let x ← ev Φ a ρ
    let l ← D.rangeOf [x]
    if l.length ≤ 16777216 then .ok (.lst l) else .stuck
def D.lfItems : D → Bool
  | .lst xs => D.lfs xs
  | _ => false
def appD (i : Nat) (d : D) (ρ : Env) : R Fl := match ρ[i]? with
  | some (some (.lst xs)) => if xs.length < 16777216 then .ok (.nx (ρ.set i (some (.lst (xs ++ [d]))))) else .stuck
  | _ => .stuck
def extD (i : Nat) (d : D) (ρ : Env) : R Fl := match ρ[i]?, d with
  | some (some (.lst xs)), .lst ys => if xs.length + ys.length ≤ 16777216 then .ok (.nx (ρ.set i (some (.lst (xs ++ ys))))) else .stuck
  | _, _ => .stuck
def putD (i : Nat) (j d : D) (ρ : Env) : R Fl := match ρ[i]?, j with
  | some (some (.lst xs)), .int k => match ixN xs.length k with
    | some n => .ok (.nx (ρ.set i (some (.lst (xs.set n d)))))
    | none => .stuck
  | _, _ => .stuck
def popD (i : Nat) (ρ : Env) : R Fl := match ρ[i]? with
  | some (some (.lst xs)) => if xs.isEmpty then .stuck else .ok (.nx (ρ.set i (some (.lst xs.dropLast))))
  | _ => .stuck
def apopD (i j : Nat) (d : D) (ρ : Env) : R Fl := match ρ[i]?, ρ[j]?, d with
  | some (some (.lst xs)), some (some (.lst ys)), .int k => (match seqIndex? k ys.length with
    | some n => (match ys[n]? with
      | some y => if xs.length < 16777216 ∧ -1000000 ≤ k ∧ k ≤ 1000000 then .ok (.nx ((ρ.set j (some (.lst (ys.eraseIdx n)))).set i (some (.lst (xs ++ [y]))))) else .stuck
      | none => .stuck)
    | none => .stuck)
  | _, _, _ => .stuck
def revD (i : Nat) (ρ : Env) : R Fl := match ρ[i]? with
  | some (some (.lst xs)) => .ok (.nx (ρ.set i (some (.lst xs.reverse))))
  | _ => .stuck
/-- the items of the new list that a call gives -/
def callC (Φ : Fns) (k : Nat) (es : Es) (ρ : Env) : R (List D) := evs Φ es ρ >>= fun xs => if D.lfs xs then (match Φ[k]? with
  | some (n, g) => if xs.length = n then (match g xs with
    | .ok (.lst l) => if D.lfs l then .ok l else .stuck
    | _ => .stuck) else .stuck
  | none => .stuck) else .stuck
/-- a caught exception as a thing -/
def excD (x : XD) : Option D := match exFld x.cls with
  | some none => (match x.fld with
    | none => some (.exv x.cls [])
    | some _ => none)
  | some (some f) => (match x.fld with
    | some (g, y) => if f = g then some (.exv x.cls [y]) else none
    | none => none)
  | none => none
def rseD (c : Str) (d : D) (ρ : Env) : R Fl := match exFld c with
  | some (some f) => .ok (.xc ⟨c, some (f, d)⟩ ρ)
  | _ => .stuck
def rs0D (c : Str) (ρ : Env) : R Fl := match exFld c with
  | some none => .ok (.xc ⟨c, none⟩ ρ)
  | _ => .stuck
def catchD (i j : Nat) (r : R Fl) : R Fl := match r with
  | .ok (.xc x ρ) => (match excD x with
    | some d => .ok (.nx ((ρ.set i none).set j (some d)))
    | none => .stuck)
  | r => r
def haveL (i : Nat) (ρ : Env) (k : R Fl) : R Fl := match ρ[i]? with
  | some (some (.lst _)) => k
  | _ => .stuck
def whileN (c : Env → R Bool) (body : Env → R Fl) : Nat → Env → R Fl
  | 0, _ => .stuck
  | n + 1, ρ => lift false (fun _ => true) (c ρ) ρ fun k => if k then (match body ρ with
    | .ok (.nx ρ') => whileN c body n ρ'
    | .ok (.ct ρ') => whileN c body n ρ'
    | .ok (.bk ρ') => .ok (.nx ρ')
    | r => r) else .ok (.nx ρ)
def forGo (t : Tgt) (body : Env → R Fl) : List D → Env → R Fl
  | [], ρ => .ok (.nx ρ)
  | d :: ds, ρ => bindT t d ρ fun ρ1 => match body ρ1 with
    | .ok (.nx ρ') => forGo t body ds ρ'
    | .ok (.ct ρ') => forGo t body ds ρ'
    | .ok (.bk ρ') => .ok (.nx ρ')
    | r => r
def tst (Φ : Fns) (c : E) (ρ : Env) : R Bool := ev Φ c ρ >>= D.truth
/-- a field is stored -/
def putN (f : Str) (d : D) : List Str → List D → List Str × List D
  | n :: ns, y :: ys => if n = f then (n :: ns, d :: ys) else (n :: (putN f d ns ys).1, y :: (putN f d ns ys).2)
  | _, _ => ([f], [d])
def setfD (i : Nat) (f : Str) (d : D) (ρ : Env) : R Fl := match ρ[i]? with
  | some (some (.obj c ns ys)) => if ns.length < 100 ∧ (ys.all fun y => !y.isDct) = true ∧ d.isDct = false then .ok (.nx (ρ.set i (some (.obj c (putN f d ns ys).1 (putN f d ns ys).2)))) else .stuck
  | _ => .stuck
def mkD (Φ : Fns) (i : Nat) (c : Str) (k : Nat) (xs : List D) (ρ : Env) : R Fl := match Φ[k]? with
  | some (n, g) => if xs.length + 1 = n then (match decM (g (.obj c [] [] :: xs)) with
    | .ok .non [o] => .ok (.nx (ρ.set i (some o)))
    | .exc x _ => .ok (.xc x ρ)
    | _ => .stuck) else .stuck
  | none => .stuck
mutual
/-- no instance within -/
def D.nob : D → Bool
  | .tup xs => D.nobs xs
  | .lst xs => D.nobs xs
  | .exv _ ys => D.nobs ys
  | .dct _ ys => D.nobs ys
  | .obj _ _ _ => false
  | _ => true
def D.nobs : List D → Bool
  | [] => true
  | d :: ds => D.nob d && D.nobs ds
end
def D.mkOk : D → Bool
  | .obj _ _ ys => D.nobs ys && ys.all fun y => !y.isDct
  | d => d.lf
/-- a new thing that a def makes and gives in a pair -/
def mk2D (Φ : Fns) (i j k : Nat) (xs : List D) (ρ : Env) : R Fl := match Φ[k]? with
  | some (n, g) => if xs.length = n ∧ D.lfs xs = true then (match g xs with
    | .ok (.tup [o, y]) => if y.lf && o.mkOk then .ok (.nx ((ρ.set i (some o)).set j (some y))) else .stuck
    | _ => .stuck) else .stuck
  | none => .stuck
/-- self.f = {} -/
def setdD (i : Nat) (f : Str) (ρ : Env) : R Fl := match ρ[i]? with
  | some (some (.obj c [] [])) => .ok (.nx (ρ.set i (some (.obj c [f] [.dct [] []]))))
  | _ => .stuck
/-- self.f[k] = d -/
def putfD (i : Nat) (f : Str) (k d : D) (ρ : Env) : R Fl := match ρ[i]?, k with
  | some (some (.obj c [g] [.dct ks ys])), .str x => if g = f ∧ ks.length < 1000 then .ok (.nx (ρ.set i (some (.obj c [g] [.dct (putS x d ks ys).1 (putS x d ks ys).2])))) else .stuck
  | _, _ => .stuck
def haveD (i : Nat) (f : Str) (ρ : Env) (k : R Fl) : R Fl := match ρ[i]? with
  | some (some (.obj _ [g] [.dct _ _])) => if g = f then k else .stuck
  | _ => .stuck
/-- x[k] = d -/
def dkVal : D → Option (Option Int)
  | .non => some none
  | .int i => some (some i)
  | _ => none
def dkpD (i : Nat) (k d : D) (ρ : Env) : R Fl := match ρ[i]?, k, dkVal d with
  | some (some (.dkt zs)), .tup [.int p, .tup [.int x, .int y]], some v => if zs.length ≤ 100000 then .ok (.nx (ρ.set i (some (.dkt (dkPut zs (p, x, y) v))))) else .stuck
  | _, _, _ => .stuck
def haveK (i : Nat) (ρ : Env) (k : R Fl) : R Fl := match ρ[i]? with
  | some (some (.dkt _)) => k
  | _ => .stuck
/-- an own thing's slot is no longer own: the rest returns -/
def freD (i : Nat) (ρ : Env) (r : R Fl) : R Fl := match ρ[i]?, r with
  | some (some (.dkt _)), .ok (.rt d) => .ok (.rt d)
  | _, _ => .stuck
def D.isO : D → Bool
  | .obj _ _ _ => true
  | _ => false
/-- own things are hidden, but for instances -/
def maskB (M : List Nat) (ρ : Env) : Env := M.foldl (fun ρ i => match ρ[i]? with
  | some (some d) => if d.isO then ρ else ρ.set i none
  | _ => ρ) ρ
mutual
/-- no instance, no dict within -/
def D.nod : D → Bool
  | .tup xs => D.nods xs
  | .lst xs => D.nods xs
  | .exv _ ys => D.nods ys
  | .dic => false
  | .dct _ _ => false
  | .obj _ _ _ => false
  | _ => true
def D.nods : List D → Bool
  | [] => true
  | d :: ds => D.nod d && D.nods ds
end
def liftB (r : R D) (ρ : Env) (k : D → R Fl) : R Fl := match r with
  | .ok a => if a.nod then k a else .stuck
  | .exc x => if x.lf then .ok (.xc x ρ) else .stuck
  | .stuck => .stuck
inductive ME (α : Type) where
  | ok (d : α) (ρ : Env) | exc (x : XD) (ρ : Env) | stuck
def ME.then {α β : Type} : ME α → (α → Env → ME β) → ME β
  | .ok a ρ, k => k a ρ
  | .exc x ρ, _ => .exc x ρ
  | .stuck, _ => .stuck
def liftM {α : Type} (l : α → Bool) (r : R α) (ρ : Env) : ME α := match r with
  | .ok a => if l a then .ok a ρ else .stuck
  | .exc x => if x.lf then .exc x ρ else .stuck
  | .stuck => .stuck
/-- the own slots, stored back -/
def setOwns : List Nat → List D → Env → Option Env
  | [], [], ρ => some ρ
  | i :: is, o :: os, ρ => setOwns is os (ρ.set i (some o))
  | _, _, _ => none
def backM (is : List Nat) (r : MR) (ρ : Env) : ME D := match r with
  | .ok d os => (match setOwns is os (mask is ρ) with
    | some ρ' => .ok d ρ'
    | none => .stuck)
  | .exc x os => (match setOwns is os (mask is ρ) with
    | some ρ' => .exc x ρ'
    | none => .stuck)
  | .stuck => .stuck
def EMs.len : EMs → Nat
  | .nil => 0
  | .cons _ as => as.len + 1
def EAs.slots : EAs → List Nat
  | .nil => []
  | .own i as => i :: as.slots
  | .val _ as => as.slots
def EAs.bits : EAs → List Bool
  | .nil => []
  | .own _ as => true :: as.bits
  | .val _ as => false :: as.bits
/-- the own slots' values put in among the others -/
def EAs.weave (ρ : Env) : EAs → List D → Option (List D)
  | .nil, [] => some []
  | .own i as, ds => match ρ[i]? with
    | some (some d) => (as.weave ρ ds).map (d :: ·)
    | _ => none
  | .val _ as, d :: ds => (as.weave ρ ds).map (d :: ·)
  | _, _ => none
mutual
def evM (Φ : Fns) (M : List Nat) : EM → Env → ME D
  | .pur e, ρ => liftM D.lf (ev Φ e (view M false ρ)) ρ
  | .cur e, ρ => liftM (fun _ => true) (ev Φ e (view M true ρ)) ρ
  | .mth i m k cs as, ρ => match ρ[i]? with
    | some (some (.obj c ns ys)) => if cs.contains c && !ns.contains m then (evMs Φ M as ρ).then fun ds ρ1 => (match Φ[k]?, ρ1[i]? with
      | some (n, g), some (some o) => if ds.length + 1 = n then backM [i] (decM (g (o :: ds))) ρ1 else .stuck
      | _, _ => .stuck) else .stuck
    | _ => .stuck
  | .cal k as, ρ => (evAs Φ M as ρ).then fun ds ρ1 => (match Φ[k]?, as.weave ρ1 ds with
    | some (n, g), some xs => if xs.length = n then backM as.slots (decM (g xs)) ρ1 else .stuck
    | _, _ => .stuck)
  | .tup as, ρ => (evMs Φ M as ρ).then fun ds ρ1 => if ds.length ≤ 1000 then .ok (.tup ds) ρ1 else .stuck
  | .cmp o a b, ρ => (evM Φ M a ρ).then fun x ρ1 => (evM Φ M b ρ1).then fun y ρ2 => liftM D.lf (o.f x y) ρ2
  | .not a, ρ => (evM Φ M a ρ).then fun x ρ1 => (match D.truth x with
    | .ok k => .ok (.bl (!k)) ρ1
    | _ => .stuck)
  | .and as, ρ => evAndM Φ M as ρ
  | .or as, ρ => evOrM Φ M as ρ
def evMs (Φ : Fns) (M : List Nat) : EMs → Env → ME (List D)
  | .nil, ρ => .ok [] ρ
  | .cons a as, ρ => (evM Φ M a ρ).then fun d ρ1 => (evMs Φ M as ρ1).then fun ds ρ2 => .ok (d :: ds) ρ2
def evAndM (Φ : Fns) (M : List Nat) : EMs → Env → ME D
  | .nil, _ => .stuck
  | .cons a as, ρ => (evM Φ M a ρ).then fun x ρ1 => (match as with
    | .nil => .ok x ρ1
    | _ => (match D.truth x with
      | .ok k => if k then evAndM Φ M as ρ1 else .ok x ρ1
      | _ => .stuck))
def evOrM (Φ : Fns) (M : List Nat) : EMs → Env → ME D
  | .nil, _ => .stuck
  | .cons a as, ρ => (evM Φ M a ρ).then fun x ρ1 => (match as with
    | .nil => .ok x ρ1
    | _ => (match D.truth x with
      | .ok k => if k then .ok x ρ1 else evOrM Φ M as ρ1
      | _ => .stuck))
def evAs (Φ : Fns) (M : List Nat) : EAs → Env → ME (List D)
  | .nil, ρ => .ok [] ρ
  | .own i as, ρ => match ρ[i]? with
    | some (some _) => evAs Φ M as ρ
    | _ => .stuck
  | .val a as, ρ => (evM Φ M a ρ).then fun d ρ1 => (evAs Φ M as ρ1).then fun ds ρ2 => .ok (d :: ds) ρ2
end
def flM {α : Type} (r : ME α) (k : α → Env → R Fl) : R Fl := match r with
  | .ok a ρ => k a ρ
  | .exc x ρ => .ok (.xc x ρ)
  | .stuck => .stuck
mutual
def exec (Φ : Fns) (M : List Nat) : S → Env → R Fl
  | .asg cl t e, ρ => lift cl D.lf (ev Φ e (view M cl ρ)) ρ fun d => bindT t d ρ fun ρ' => .ok (.nx ρ')
  | .own cl i o, ρ => lift cl D.lfItems (o.f Φ (view M cl ρ)) ρ fun d => .ok (.nx (ρ.set i (some d)))
  | .app cl i e, ρ => haveL i ρ <| lift cl D.lf (ev Φ e (view M cl ρ)) ρ fun d => appD i d ρ
  | .ext cl i e, ρ => haveL i ρ <| lift cl D.lfItems (ev Φ e (view M cl ρ)) ρ fun d => extD i d ρ
  | .put cl i j e, ρ => haveL i ρ <| lift cl D.lf (ev Φ e (view M cl ρ)) ρ fun d => lift false D.lf (ev Φ j (view M false ρ)) ρ fun k => putD i k d ρ
  | .ex e, ρ => lift false (fun _ => true) (ev Φ e (view M false ρ)) ρ fun _ => .ok (.nx ρ)
  | .ite c a b, ρ => lift false (fun _ => true) (tst Φ c (view M false ρ)) ρ fun k => if k then execs Φ M a ρ else execs Φ M b ρ
  | .whl n c b, ρ => whileN (fun ρ => tst Φ c (view M false ρ)) (execs Φ M b) n ρ
  | .for_ cl t it b, ρ => lift cl (fun _ => match it with | .range _ => true | _ => false) (evIt Φ it (view M cl ρ)) ρ fun ds => forGo t (execs Φ M b) ds ρ
  | .ret e, ρ => lift false (fun _ => true) (ev Φ e (view M false ρ)) ρ fun d => .ok (.rt d)
  | .retN, _ => .ok (.rt .non)
  | .pass, ρ => .ok (.nx ρ)
  | .brk, ρ => .ok (.bk ρ)
  | .cont, ρ => .ok (.ct ρ)
  | .nev, _ => .stuck
  | .clr i, ρ => haveL i ρ (.ok (.nx (ρ.set i (some (.lst [])))))
  | .pop i, ρ => popD i ρ
  | .exC e, ρ => lift true D.lf (ev Φ e (view M true ρ)) ρ fun _ => .ok (.nx ρ)
  | .retC e, ρ => lift true D.lf (ev Φ e (view M true ρ)) ρ fun d => .ok (.rt d)
  | .rse cl c e, ρ => lift cl D.lf (ev Φ e (view M cl ρ)) ρ fun d => rseD c d ρ
  | .rs0 c, ρ => rs0D c ρ
  | .tryx i j b, ρ => catchD i j (execs Φ M b ρ)
  | .forC t k es b, ρ => lift false (fun _ => true) (callC Φ k es (view M false ρ)) ρ fun ds => forGo t (execs Φ M b) ds ρ
  | .apop i j e, ρ => haveL i ρ <| haveL j ρ <| lift false D.lf (ev Φ e (view M false ρ)) ρ fun d => apopD i j d ρ
  | .unset i, ρ => .ok (.nx (ρ.set i none))
  | .grw i e, ρ => haveL i ρ <| lift true D.lf (ev Φ e (view M true ρ)) ρ fun d => extD i d ρ
  | .rev i, ρ => revD i ρ
  | .ownN i, ρ => .ok (.nx (ρ.set i (some .non)))
  | .ownV cl i e, ρ => lift cl D.lf (ev Φ e (view M cl ρ)) ρ fun d => if d.lf then .ok (.nx (ρ.set i (some d))) else .stuck
  | .mk2 i j k es, ρ => lift false D.lfs (evs Φ es (view M false ρ)) ρ fun xs => mk2D Φ i j k xs ρ
  | .mk i c k es, ρ => lift true D.lfs (evs Φ es (view M true ρ)) ρ fun xs => mkD Φ i c k xs ρ
  | .setf cl i f e, ρ => lift cl D.lf (ev Φ e (view M cl ρ)) ρ fun d => setfD i f d ρ
  | .asgM t m, ρ => flM (evM Φ M m ρ) fun d ρ1 => bindT t d ρ1 fun ρ2 => .ok (.nx ρ2)
  | .exM m, ρ => flM (evM Φ M m ρ) fun _ ρ1 => .ok (.nx ρ1)
  | .iteM m a b, ρ => flM (evM Φ M m ρ) fun d ρ1 => (match D.truth d with
    | .ok true => execs Φ M a ρ1
    | .ok false => execs Φ M b ρ1
    | _ => .stuck)
  | .retM m, ρ => flM (evM Φ M m ρ) fun d _ => .ok (.rt d)
  | .retO m, ρ => flM (evM Φ M m ρ) fun d ρ1 => .ok (.rto d ρ1)
  | .setd i f, ρ => setdD i f ρ
  | .putf cl i f a e, ρ => haveD i f ρ <| lift cl D.lf (ev Φ e (view M cl ρ)) ρ fun d => lift false D.lf (ev Φ a (view M false ρ)) ρ fun k => putfD i f k d ρ
  | .par i j a b, ρ => lift true (fun _ => true) (evs Φ (.cons a (.cons b .nil)) (view M true ρ)) ρ fun ds => (match ds with
    | [x, y] => .ok (.nx ((ρ.set i (some x)).set j (some y)))
    | _ => .stuck)
  | .asgB t e, ρ => liftB (ev Φ e (maskB M ρ)) ρ fun d => bindT t d ρ fun ρ' => .ok (.nx ρ')
  | .lcM i t it ifs m k cl a es, ρ => liftB (lcMv Φ t it ifs m k cl a es (maskB M ρ)) ρ fun d => bindT (.nm i) d ρ fun ρ' => .ok (.nx ρ')
  | .dkn i, ρ => .ok (.nx (ρ.set i (some (.dkt []))))
  | .dkp i a e, ρ => haveK i ρ <| lift true (fun _ => true) (ev Φ e (view M true ρ)) ρ fun d => lift true (fun _ => true) (ev Φ a (view M true ρ)) ρ fun k => dkpD i k d ρ
def execs (Φ : Fns) (M : List Nat) : Ss → Env → R Fl
  | .nil, ρ => .ok (.nx ρ)
  | .fre i ss, ρ => freD i ρ (execs Φ (M.filter (· != i)) ss ρ)
  | .cons s ss, ρ => match exec Φ M s ρ with
    | .ok (.nx ρ') => execs Φ M ss ρ'
    | r => r
end

/-- OA: the addresses that an own slot has; Fx: slots that keep their value (own things that the caller handed) -/
structure SInvA (OA : Nat → List Addr) (K : PySem.W.Frag) (M : List Nat) (Fx : List (Nat × V)) (Hs0 H0 : Hp) (ρ : Env) (Hs : Hp) (σ : L2.St) (H : Hp) : Prop where
  le : Le Hs0 H0 Hs H
  len : ρ.length ≤ σ.length
  sl : ∀ (i : Nat) (d : D), i ∉ M → ρ[i]? = some (some d) → ∃ v, σ[i]? = some (some v) ∧ Rep K Hs d v
  own : ∀ (i : Nat) (d : D), i ∈ M → ρ[i]? = some (some d) → ∃ v, σ[i]? = some (some v) ∧ OwnR K Hs H d v (OA i) ∧ (∀ a ∈ OA i, Hs a = none ∧ H0 a = none) ∧ (OA i).Nodup
  inj : ∀ (i j : Nat) (d e : D), i ∈ M → j ∈ M → ρ[i]? = some (some d) → ρ[j]? = some (some e) → i ≠ j → ∀ a ∈ OA i, a ∉ OA j
  fix : ∀ p ∈ Fx, σ[p.1]? = some (some p.2)
  fxM : ∀ p ∈ Fx, p.1 ∈ M
def SInv (K : PySem.W.Frag) (M : List Nat) (Fx : List (Nat × V)) (Hs0 H0 : Hp) (ρ : Env) (Hs : Hp) (σ : L2.St) (H : Hp) : Prop := ∃ OA, SInvA OA K M Fx Hs0 H0 ρ Hs σ H
section
variable {K : PySem.W.Frag} {M : List Nat} {Fx : List (Nat × V)} {Hs0 H0 Hs H Hi H' : Hp} {ρ : Env} {σ : L2.St}
theorem SInv.le (I : SInv K M Fx Hs0 H0 ρ Hs σ H) : Le Hs0 H0 Hs H := I.elim fun _ J => J.le
theorem SInv.len (I : SInv K M Fx Hs0 H0 ρ Hs σ H) : ρ.length ≤ σ.length := I.elim fun _ J => J.len
theorem SInv.sl (I : SInv K M Fx Hs0 H0 ρ Hs σ H) : ∀ (i : Nat) (d : D), i ∉ M → ρ[i]? = some (some d) → ∃ v, σ[i]? = some (some v) ∧ Rep K Hs d v := I.elim fun _ J => J.sl
theorem SInv.fix (I : SInv K M Fx Hs0 H0 ρ Hs σ H) : ∀ p ∈ Fx, σ[p.1]? = some (some p.2) := I.elim fun _ J => J.fix
/-- an own list -/
theorem SInv.own (I : SInv K M Fx Hs0 H0 ρ Hs σ H) (i : Nat) (xs : List D) (hi : i ∈ M) (q : ρ[i]? = some (some (.lst xs))) : ∃ p xs' vs, (D.lst xs) = .lst xs' ∧ σ[i]? = some (some (.ref p)) ∧ Hs p = none ∧ H0 p = none ∧ H p = some (.lst vs) ∧ Reps K Hs xs' vs := by
  obtain ⟨OA, J⟩ := I
  obtain ⟨v, h1, h2, h3, _⟩ := J.own i _ hi q
  generalize OA i = A at h2 h3
  cases h2 with
  | lst e r => exact ⟨_, xs, _, rfl, h1, (h3 _ (List.mem_singleton.mpr rfl)).1, (h3 _ (List.mem_singleton.mpr rfl)).2, e, r⟩
  | val l _ => simp [D.lf] at l
theorem FRs.soft {ds : List D} {vs : List V} {A : List Addr} (h : FRs K Hs H ds vs A) : ∀ a ∈ A, ∃ o, H a = some o ∧ Py.soft o = true := by
  induction h with
  | nil => exact fun a ha => by cases ha
  | rep _ _ _ ih => exact ih
  | dct e _ _ _ _ ih =>
    intro a ha
    rcases List.mem_cons.mp ha with rfl | ha
    · exact ⟨_, e, rfl⟩
    · exact ih a ha
theorem OwnR.soft {d : D} {v : V} {A : List Addr} (h : OwnR K Hs H d v A) : ∀ a ∈ A, ∃ o, H a = some o ∧ Py.soft o = true := by
  cases h with
  | non => exact fun a ha => by cases ha
  | lst e _ => exact fun a ha => by rw [List.mem_singleton.mp ha]; exact ⟨_, e, rfl⟩
  | obj e1 _ _ r =>
    intro a ha
    rcases List.mem_cons.mp ha with rfl | ha
    · exact ⟨_, e1, rfl⟩
    · exact r.soft a ha
  | val _ _ => exact fun a ha => by cases ha
  | dkt e D _ => exact fun a ha => by rw [List.mem_singleton.mp ha]; exact ⟨_, e, soft_dko D⟩
theorem FRs.keep {ds : List D} {vs : List V} {A : List Addr} (h : FRs K Hs H ds vs A) (e : Ex Hs Hi) : (∀ a ∈ A, ∀ o, H a = some o → H' a = some o) → FRs K Hi H' ds vs A := by
  induction h with
  | nil => exact fun _ => .nil
  | rep z r _ ih => exact fun k => .rep z (r.mono e) (ih k)
  | dct e1 e2 r n _ ih => exact fun k => .dct (k _ (List.mem_cons_self ..) _ e1) e2 (r.mono e) n (ih fun a ha => k a (List.mem_cons_of_mem _ ha))
theorem OwnR.keep {d : D} {v : V} {A : List Addr} (h : OwnR K Hs H d v A) (e : Ex Hs Hi) (k : ∀ a ∈ A, ∀ o, H a = some o → H' a = some o) : OwnR K Hi H' d v A := by
  cases h with
  | non => exact .non
  | lst e1 r => exact .lst (k _ (List.mem_cons_self ..) _ e1) (r.mono e)
  | obj e1 c n r => exact .obj (k _ (List.mem_cons_self ..) _ e1) c n (r.keep e fun a ha => k a (List.mem_cons_of_mem _ ha))
  | val l r => exact .val l (r.mono e)
  | dkt e1 D r => exact .dkt (k _ (List.mem_cons_self ..) _ e1) D (r.mono fun b xs => e b _)
theorem FRs.reps {ds : List D} {vs : List V} {A : List Addr} (h : FRs K Hs H ds vs A) (e : Ex Hs Hi) : (∀ a ∈ A, ∀ o, H a = some o → Hi a = some o) → Reps K Hi ds vs := by
  induction h with
  | nil => exact fun _ => .nil
  | rep _ r _ ih => exact fun k => .cons (r.mono e) (ih k)
  | dct e1 e2 r n _ ih => exact fun k => .cons (.dct (k _ (List.mem_cons_self ..) _ e1) e2 (r.mono e)) (ih fun a ha => k a (List.mem_cons_of_mem _ ha))
/-- as a thing that is only looked at -/
theorem OwnR.rep {d : D} {v : V} {A : List Addr} (h : OwnR K Hs H d v A) (e : Ex Hs Hi) (k : ∀ a ∈ A, ∀ o, H a = some o → Hi a = some o) : Rep K Hi d v := by
  cases h with
  | non => exact .non
  | lst e1 r => exact .lst (k _ (List.mem_cons_self ..) _ e1) (r.mono e)
  | obj e1 c n r => exact .obj (k _ (List.mem_cons_self ..) _ e1) c n (r.reps e fun a ha => k a (List.mem_cons_of_mem _ ha))
  | val _ r => exact r.mono e
  | dkt e1 D r => exact .dkt (k _ (List.mem_cons_self ..) _ e1) D (r.mono fun b xs => e b _)
end
theorem mask_get : ∀ (M : List Nat) (ρ : Env) (i : Nat) (d : D), (mask M ρ)[i]? = some (some d) → i ∉ M ∧ ρ[i]? = some (some d)
  | [], ρ, i, d, h => ⟨by simp, h⟩
  | j :: M, ρ, i, d, h => by
    obtain ⟨h1, h2⟩ := mask_get M (ρ.set j none) i d h
    by_cases e : j = i
    · subst e
      by_cases hl : j < ρ.length
      · rw [List.getElem?_set_self hl] at h2
        cases h2
      · rw [List.getElem?_eq_none (by simpa using hl)] at h2
        cases h2
    · rw [List.getElem?_set_ne e] at h2
      exact ⟨by simp [h1, Ne.symm e], h2⟩
theorem mask_len : ∀ (M : List Nat) (ρ : Env), (mask M ρ).length = ρ.length
  | [], ρ => rfl
  | j :: M, ρ => by
    show (mask M (ρ.set j none)).length = _
    rw [mask_len M, List.length_set]
/-- Hj is Hi without lists -/
structure Down (cl : Bool) (Hi Hj : Hp) : Prop where
  sub : Ex Hj Hi
  same : cl = true → Hj = Hi
  keep : ExN Hi Hj
theorem Rep.down {K : PySem.W.Frag} {cl : Bool} {Hi Hj : Hp} {d : D} {v : V} (h : Down cl Hi Hj) (l : (cl || d.lf) = true) (r : Rep K Hi d v) : Rep K Hj d v := by
  cases cl with
  | true => rw [h.same rfl]; exact r
  | false => exact r.drop h.keep (by simpa using l)
theorem Reps.down {K : PySem.W.Frag} {cl : Bool} {Hi Hj : Hp} {d : List D} {v : List V} (h : Down cl Hi Hj) (l : (cl || D.lfs d) = true) (r : Reps K Hi d v) : Reps K Hj d v := by
  cases cl with
  | true => rw [h.same rfl]; exact r
  | false => exact r.drop h.keep (by simpa using l)
section
variable {K : PySem.W.Frag} {mg : Str → Option Value} {M : List Nat} {Fx : List (Nat × V)} {Hs0 H0 Hs H Hi H' : Hp} {ρ ρ' : Env} {σ : L2.St} {cl : Bool} {OA : Nat → List Addr}
theorem SInvA.step (I : SInvA OA K M Fx Hs0 H0 ρ Hs σ H) (l : Le Hs H Hi H') : SInvA OA K M Fx Hs0 H0 ρ Hi σ H' := by
  refine ⟨I.le.trans l, I.len, fun i d hi q => ?_, fun i d hi q => ?_, I.inj, I.fix, I.fxM⟩
  · obtain ⟨v, a, b⟩ := I.sl i d hi q
    exact ⟨v, a, b.mono l.old⟩
  · obtain ⟨v, a, r, n, nd⟩ := I.own i d hi q
    refine ⟨v, a, r.keep l.old fun b _ o e => l.ex b o e, fun b hb => ⟨?_, (n b hb).2⟩, nd⟩
    obtain ⟨o, e, _⟩ := r.soft b hb
    cases z : Hi b with
    | none => rfl
    | some u =>
      rcases l.new b u z with w | w
      · rw [(n b hb).1] at w; cases w
      · rw [e] at w; cases w
theorem SInv.step (I : SInv K M Fx Hs0 H0 ρ Hs σ H) (l : Le Hs H Hi H') : SInv K M Fx Hs0 H0 ρ Hi σ H' := I.elim fun OA J => ⟨OA, J.step l⟩
/-- the addresses of the things that are the def's own -/
def Own (OA : Nat → List Addr) (M : List Nat) (ρ : Env) (p : Addr) : Prop := ∃ i d, i ∈ M ∧ ρ[i]? = some (some d) ∧ p ∈ OA i
open Classical in
theorem SInvA.enter (cl : Bool) (I : SInvA OA K M Fx Hs0 H0 ρ Hs σ H) : ∃ Hb, Ex Hb H ∧ ERel K Hb (view M cl ρ) σ ∧ Le Hs0 H0 Hb H ∧
    ∀ Hi H', Le Hb H Hi H' → ∃ Hj, SInvA OA K M Fx Hs0 H0 ρ Hj σ H' ∧ Down cl Hi Hj := by
  cases cl with
  | true =>
    refine ⟨Hs, I.le.sub, ⟨by show (mask M ρ).length ≤ _; rw [mask_len]; exact I.len, fun i d q => ?_⟩, I.le, fun Hi H' l => ⟨Hi, I.step l, Ex.refl _, fun _ => rfl, fun a o h _ => h⟩⟩
    obtain ⟨h1, h2⟩ := mask_get M ρ i d q
    exact I.sl i d h1 h2
  | false =>
    have own : ∀ p, Own OA M ρ p → Hs p = none ∧ H0 p = none ∧ ∃ o, H p = some o ∧ soft o = true := fun p ⟨i, d, h1, h2, h3⟩ => by
      obtain ⟨v, a, r, n, nd⟩ := I.own i d h1 h2
      obtain ⟨o, e1, e2⟩ := r.soft p h3
      exact ⟨(n p h3).1, (n p h3).2, o, e1, e2⟩
    let Hb : Hp := fun a => if Own OA M ρ a then H a else Hs a
    have hb1 : ∀ a, Own OA M ρ a → Hb a = H a := fun a h => if_pos h
    have hb2 : ∀ a, ¬ Own OA M ρ a → Hb a = Hs a := fun a h => if_neg h
    have exb : Ex Hb H := fun a o h => by
      by_cases z : Own OA M ρ a
      · rw [hb1 a z] at h; exact h
      · rw [hb2 a z] at h; exact I.le.sub a o h
    have exs : Ex Hs Hb := fun a o h => by
      by_cases z : Own OA M ρ a
      · rw [(own a z).1] at h; cases h
      · rw [hb2 a z]; exact h
    refine ⟨Hb, exb, ⟨I.len, fun i d q => ?_⟩, ⟨I.le.old.trans exs, I.le.ex, exb, fun a o h => ?_⟩, fun Hi H' l => ?_⟩
    · have q : ρ[i]? = some (some d) := q
      by_cases hi : i ∈ M
      · obtain ⟨v, a, r, n, nd⟩ := I.own i d hi q
        exact ⟨v, a, r.rep exs fun b hb o e => by rw [hb1 b ⟨i, d, hi, q, hb⟩]; exact e⟩
      · obtain ⟨v, a, b⟩ := I.sl i d hi q
        exact ⟨v, a, b.mono exs⟩
    · by_cases z : Own OA M ρ a
      · exact .inr (own a z).2.1
      · rw [hb2 a z] at h
        exact I.le.new a o h
    · let Hj : Hp := fun a => if Own OA M ρ a then none else Hi a
      have hj1 : ∀ a, Own OA M ρ a → Hj a = none := fun a h => if_pos h
      have hj2 : ∀ a, ¬ Own OA M ρ a → Hj a = Hi a := fun a h => if_neg h
      have lj : Le Hs H Hj H' := by
        refine ⟨fun a o h => ?_, l.ex, fun a o h => ?_, fun a o h => ?_⟩
        · have z : ¬ Own OA M ρ a := fun z => by rw [(own a z).1] at h; cases h
          rw [hj2 a z]
          exact l.old a o (exs a o h)
        · by_cases z : Own OA M ρ a
          · rw [hj1 a z] at h; cases h
          · rw [hj2 a z] at h; exact l.sub a o h
        · by_cases z : Own OA M ρ a
          · rw [hj1 a z] at h; cases h
          · rw [hj2 a z] at h
            rcases l.new a o h with w | w
            · rw [hb2 a z] at w; exact .inl w
            · exact .inr w
      refine ⟨Hj, I.step lj, fun a o h => ?_, fun h => (nomatch h), fun a o h hn => ?_⟩
      · by_cases z : Own OA M ρ a
        · rw [hj1 a z] at h; cases h
        · rw [hj2 a z] at h; exact h
      · have z : ¬ Own OA M ρ a := fun z => by
          obtain ⟨_, _, o2, e, so⟩ := own a z
          have e2 := l.sub a o h
          rw [l.ex a _ e] at e2
          cases e2
          rw [hn] at so
          cases so
        rw [hj2 a z]
        exact h
theorem SInv.enter (cl : Bool) (I : SInv K M Fx Hs0 H0 ρ Hs σ H) : ∃ Hb, Ex Hb H ∧ ERel K Hb (view M cl ρ) σ ∧ Le Hs0 H0 Hb H ∧
    ∀ Hi H', Le Hb H Hi H' → ∃ Hj, SInv K M Fx Hs0 H0 ρ Hj σ H' ∧ Down cl Hi Hj := by
  obtain ⟨OA, J⟩ := I
  obtain ⟨Hb, a, b, c, d⟩ := J.enter cl
  refine ⟨Hb, a, b, c, fun Hi H' l => ?_⟩
  obtain ⟨Hj, e, f⟩ := d Hi H' l
  exact ⟨Hj, ⟨OA, e⟩, f⟩
/-- nothing new is one's own -/
theorem SInvA.fresh {p : Addr} (I : SInvA OA K M Fx Hs0 H0 ρ Hs σ H) (hn : H p = none) : ¬ Own OA M ρ p := fun ⟨j, d, h1, h2, h3⟩ => by
  obtain ⟨v, a, r, n, nd⟩ := I.own j d h1 h2
  obtain ⟨o, e, _⟩ := r.soft p h3
  rw [hn] at e
  cases e
theorem SInv.set {i : Nat} {d : D} {v : V} (I : SInv K M Fx Hs0 H0 ρ Hs σ H) (hi : i ∉ M) (r : Rep K Hs d v) : SInv K M Fx Hs0 H0 (ρ.set i (some d)) Hs (σ.set i (some v)) H := by
  obtain ⟨OA, I⟩ := I
  have ne : ∀ j, j ∈ M → i ≠ j := fun j h e => hi (e ▸ h)
  refine ⟨OA, I.le, by simpa using I.len, fun j e hj q => ?_, fun j e hj q => ?_, fun j k d e hj hk q1 q2 hjk => ?_, fun p hp => ?_, I.fxM⟩
  · by_cases h : i = j
    · subst h
      have hl : i < ρ.length := by
        have := (List.getElem?_eq_some_iff.mp q).1
        simpa using this
      rw [List.getElem?_set_self hl] at q
      cases q
      exact ⟨v, List.getElem?_set_self (Nat.lt_of_lt_of_le hl I.len), r⟩
    · rw [List.getElem?_set_ne h] at q ⊢
      exact I.sl j e hj q
  · rw [List.getElem?_set_ne (ne j hj)] at q ⊢
    exact I.own j e hj q
  · rw [List.getElem?_set_ne (ne j hj)] at q1
    rw [List.getElem?_set_ne (ne k hk)] at q2
    exact I.inj j k d e hj hk q1 q2 hjk
  · rw [List.getElem?_set_ne (ne p.1 (I.fxM p hp))]
    exact I.fix p hp
/-- an own thing is laid anew -/
theorem SInvA.lay {i : Nat} {d : D} {v : V} {A : List Addr} (I : SInvA OA K M Fx Hs0 H0 ρ Hs σ H) (hi : i ∈ M) (fx : ∀ p ∈ Fx, p.1 ≠ i) (r : OwnR K Hs H d v A) (h1 : ∀ a ∈ A, Hs a = none ∧ H0 a = none) (nd : A.Nodup)
    (h4 : ∀ a ∈ A, ¬ Own OA M ρ a) : SInvA (fun j => if j = i then A else OA j) K M Fx Hs0 H0 (ρ.set i (some d)) Hs (σ.set i (some v)) H := by
  have ne : ∀ j, j ∉ M → i ≠ j := fun j h e => h (e ▸ hi)
  refine ⟨I.le, by simpa using I.len, fun j e hj q => ?_, fun j e hj q => ?_, fun j k e e2 hj hk q1 q2 hjk => ?_, fun p hp => ?_, I.fxM⟩
  · rw [List.getElem?_set_ne (ne j hj)] at q ⊢
    exact I.sl j e hj q
  · by_cases h : i = j
    · subst h
      have hl : i < ρ.length := by
        have := (List.getElem?_eq_some_iff.mp q).1
        simpa using this
      rw [List.getElem?_set_self hl] at q
      cases q
      simp only [if_true]
      exact ⟨v, List.getElem?_set_self (Nat.lt_of_lt_of_le hl I.len), r, h1, nd⟩
    · rw [List.getElem?_set_ne h] at q ⊢
      simp only [if_neg (Ne.symm h)]
      exact I.own j e hj q
  · by_cases a : i = j
    · subst a
      rw [List.getElem?_set_ne hjk] at q2
      simp only [if_true, if_neg (Ne.symm hjk)]
      exact fun x hx hy => h4 x hx ⟨k, e2, hk, q2, hy⟩
    · rw [List.getElem?_set_ne a] at q1
      simp only [if_neg (Ne.symm a)]
      by_cases b : i = k
      · subst b
        simp only [if_true]
        exact fun x hx hy => h4 x hy ⟨j, e, hj, q1, hx⟩
      · rw [List.getElem?_set_ne b] at q2
        simp only [if_neg (Ne.symm b)]
        exact I.inj j k e e2 hj hk q1 q2 hjk
  · rw [List.getElem?_set_ne (Ne.symm (fx p hp))]
    exact I.fix p hp
/-- an own thing is changed -/
theorem SInvA.alter {i : Nat} {d d' : D} {v : V} {p : Addr} {o : HO} (I : SInvA OA K M Fx Hs0 H0 ρ Hs σ H) (hi : i ∈ M) (q0 : ρ[i]? = some (some d)) (q1 : σ[i]? = some (some v)) (hp : p ∈ OA i) (r : OwnR K Hs (upd H p o) d' v (OA i)) :
    SInvA OA K M Fx Hs0 H0 (ρ.set i (some d')) Hs σ (upd H p o) := by
  obtain ⟨v', a, r0, n, nd⟩ := I.own i d hi q0
  rw [q1] at a
  cases a
  have ne : ∀ j, j ∉ M → i ≠ j := fun j h e => h (e ▸ hi)
  have dfn : ∀ j e, (ρ.set i (some d'))[j]? = some (some e) → ∃ e', ρ[j]? = some (some e') := fun j e q => by
    by_cases h : i = j
    · subst h; exact ⟨_, q0⟩
    · rw [List.getElem?_set_ne h] at q; exact ⟨e, q⟩
  refine ⟨⟨I.le.old, fun a o h => ?_, fun a o h => ?_, I.le.new⟩, by simpa using I.len, fun j e hj q => ?_, fun j e hj q => ?_, fun j k e e2 hj hk q1 q2 hjk => ?_, I.fix, I.fxM⟩
  · rw [upd_ne (ne_of_none h (n p hp).2)]; exact I.le.ex a o h
  · rw [upd_ne (ne_of_none h (n p hp).1)]; exact I.le.sub a o h
  · rw [List.getElem?_set_ne (ne j hj)] at q
    exact I.sl j e hj q
  · by_cases h : i = j
    · subst h
      have hl : i < ρ.length := (List.getElem?_eq_some_iff.mp q0).1
      rw [List.getElem?_set_self hl] at q
      cases q
      exact ⟨v, q1, r, n, nd⟩
    · rw [List.getElem?_set_ne h] at q
      obtain ⟨v2, a2, r2, n2, nd2⟩ := I.own j e hj q
      refine ⟨v2, a2, r2.keep (Ex.refl _) fun b hb u e => ?_, n2, nd2⟩
      rw [upd_ne]
      · exact e
      · intro z
        subst z
        exact I.inj i j _ _ hi hj q0 q h b hp hb
  · obtain ⟨d1, z1⟩ := dfn j e q1
    obtain ⟨d2, z2⟩ := dfn k e2 q2
    exact I.inj j k d1 d2 hj hk z1 z2 hjk
/-- an own list is changed -/
theorem SInv.change {i : Nat} {xs ys : List D} {ws : List V} {p : Addr} (I : SInv K M Fx Hs0 H0 ρ Hs σ H) (hi : i ∈ M) (q0 : ρ[i]? = some (some (.lst xs))) (q1 : σ[i]? = some (some (.ref p))) (r : Reps K Hs ys ws) :
    SInv K M Fx Hs0 H0 (ρ.set i (some (.lst ys))) Hs σ (upd H p (.lst ws)) := by
  obtain ⟨OA, J⟩ := I
  obtain ⟨v, a, r0, n, nd⟩ := J.own i _ hi q0
  rw [q1] at a
  cases a
  obtain ⟨A, hA⟩ : ∃ A, A = OA i := ⟨_, rfl⟩
  rw [← hA] at r0
  have hp : OA i = [p] := by
    rw [← hA]
    cases r0 with
    | lst e r => rfl
    | val l _ => simp [D.lf] at l
  refine ⟨OA, J.alter hi q0 q1 (by rw [hp]; simp) ?_⟩
  rw [hp]
  exact .lst upd_same r
/-- the base, later -/
theorem SInv.base {Hs1 H1 : Hp} (l : Le Hs0 H0 Hs1 H1) (I : SInv K M Fx Hs1 H0 ρ Hs σ H) : SInv K M Fx Hs0 H0 ρ Hs σ H := I.elim fun OA I =>
  ⟨OA, ⟨l.old.trans I.le.old, I.le.ex, I.le.sub, fun a o h => (I.le.new a o h).elim (fun q => l.new a o q) .inr⟩, I.len, I.sl, I.own, I.inj, I.fix, I.fxM⟩
theorem SInv.rebase (I : SInv K M Fx Hs0 H0 ρ Hs σ H) : SInv K M Fx Hs H0 ρ Hs σ H := I.elim fun OA I =>
  ⟨OA, ⟨Ex.refl _, I.le.ex, I.le.sub, fun _ _ h => .inl h⟩, I.len, I.sl, I.own, I.inj, I.fix, I.fxM⟩

def PstS (K : PySem.W.Frag) (mg : Str → Option Value) (M : List Nat) (Fx : List (Nat × V)) (Hs0 H0 : Hp) (r : R Fl) (Dd : Ends) (W : WX) : Prop := match r with
  | .ok (.nx ρ) => ∀ Hs σ H, SInv K M Fx Hs0 H0 ρ Hs σ H → Dd.nx σ H
  | .ok (.bk ρ) => ∀ Hs σ H, SInv K M Fx Hs0 H0 ρ Hs σ H → Dd.bk σ H
  | .ok (.ct ρ) => ∀ Hs σ H, SInv K M Fx Hs0 H0 ρ Hs σ H → Dd.ct σ H
  | .ok (.rt d) => ∀ v Hi H', Le Hs0 H0 Hi H' → Rep K Hi d v → Dd.rt v H'
  | .ok (.rto d ρ) => ∀ v Hs σ H, SInv K M Fx Hs0 H0 ρ Hs σ H → Rep K Hs d v → Dd.rt v H
  | .ok (.xc x ρ) => ∀ c d Hs σ H, SInv K M Fx Hs0 H0 ρ Hs σ H → XRep K mg Hs H x c d → W c d σ H
  | _ => False
def tS (K : PySem.W.Frag) (mg : Str → Option Value) (W : WX) (M : List Nat) (Fx : List (Nat × V)) (Hs0 H0 : Hp) (f : Env → R Fl) : TS := fun Dd σ H =>
  ∃ (ρ : Env) (Hs : Hp), SInv K M Fx Hs0 H0 ρ Hs σ H ∧ PstS K mg M Fx Hs0 H0 (f ρ) Dd W
theorem PstS.base {Hs1 H1 : Hp} {r : R Fl} {Dd : Ends} {W : WX} (l : Le Hs0 H0 Hs1 H1) (h : PstS K mg M Fx Hs0 H0 r Dd W) : PstS K mg M Fx Hs1 H0 r Dd W := by
  cases r with
  | ok f =>
    cases f with
    | nx ρ => exact fun Hs σ H I => h Hs σ H (I.base l)
    | bk ρ => exact fun Hs σ H I => h Hs σ H (I.base l)
    | ct ρ => exact fun Hs σ H I => h Hs σ H (I.base l)
    | rt d => exact fun v Hi H' q => h v Hi H' ⟨l.old.trans q.old, q.ex, q.sub, fun a o z => (q.new a o z).elim (fun w => l.new a o w) .inr⟩
    | xc x ρ => exact fun c d Hs σ H I => h c d Hs σ H (I.base l)
    | rto d ρ => exact fun v Hs σ H I => h v Hs σ H (I.base l)
  | exc x => exact h
  | stuck => exact h
theorem XRep.down {x : XD} {c : Value} {d : Option Addr} {Hi Hj H : Hp} (h : Down cl Hi Hj) (l : (cl || x.lf) = true) (r : XRep K mg Hi H x c d) : XRep K mg Hj H x c d := by
  obtain ⟨cls, fld⟩ := x
  refine ⟨r.1, ?_⟩
  cases fld with
  | none => exact r.2
  | some f =>
    obtain ⟨dd, v, e1, e2, e3⟩ := r.2
    refine ⟨dd, v, e1, ?_, e3.down h l⟩
    cases cl with
    | true => rw [h.same rfl]; exact e2
    | false => exact h.keep _ _ e2 rfl
/-- an expression within a statement -/
theorem use_P {α β : Type} {Rel : Hp → α → β → Prop} {l : α → Bool} {r : R α} {k : α → R Fl} {Dd : Ends} {W : WX} {Q : β → Hp → Prop} {Hb : Hp}
    (hb : ∀ Hi H', Le Hb H Hi H' → ∃ Hj, SInv K M Fx Hs0 H0 ρ Hj σ H' ∧ Down cl Hi Hj)
    (mv : ∀ Hi Hj a b, Down cl Hi Hj → (cl || l a) = true → Rel Hi a b → Rel Hj a b)
    (h : PstS K mg M Fx Hs0 H0 (lift cl l r ρ k) Dd W) (q : ∀ a b Hj H', r = .ok a → SInv K M Fx Hs0 H0 ρ Hj σ H' → Rel Hj a b → PstS K mg M Fx Hs0 H0 (k a) Dd W → Q b H') : Pst Rel K mg Hb H r Q (fun c d H' => W c d σ H') := by
  cases r with
  | ok a =>
    intro v Hi H' le ra
    have h : PstS K mg M Fx Hs0 H0 (if cl || l a then k a else .stuck) Dd W := h
    by_cases z : (cl || l a) = true
    · rw [if_pos z] at h
      obtain ⟨Hj, J, dn⟩ := hb Hi H' le
      exact q a v Hj H' rfl J (mv Hi Hj a v dn z ra) h
    · rw [if_neg z] at h
      exact h.elim
  | exc x =>
    intro c d Hi H' le rx
    have h : PstS K mg M Fx Hs0 H0 (if cl || x.lf then .ok (.xc x ρ) else .stuck) Dd W := h
    by_cases z : (cl || x.lf) = true
    · rw [if_pos z] at h
      obtain ⟨Hj, J, dn⟩ := hb Hi H' le
      exact h c d Hj σ H' J (rx.down dn z)
    · rw [if_neg z] at h
      exact h.elim
  | stuck => exact h.elim
/-- tD, tDB: the same, entered -/
theorem use_D {f : Env → R D} {k : D → R Fl} {Dd : Ends} {W : WX} {Q : VK} (I : SInv K M Fx Hs0 H0 ρ Hs σ H) (h : PstS K mg M Fx Hs0 H0 (lift cl D.lf (f (view M cl ρ)) ρ k) Dd W)
    (q : ∀ d v Hj H', SInv K M Fx Hs0 H0 ρ Hj σ H' → Rep K Hj d v → PstS K mg M Fx Hs0 H0 (k d) Dd W → Q v H') : tD K mg W f σ H Q := by
  obtain ⟨Hb, e1, e2, _, e3⟩ := I.enter cl
  exact ⟨_, Hb, e1, e2, use_P e3 (fun _ _ _ _ dn z r => r.down dn z) h fun a b Hj H' _ => q a b Hj H'⟩
theorem use_B {f : Env → R Bool} {k : Bool → R Fl} {Dd : Ends} {W : WX} {Q : Bool → Hp → Prop} (I : SInv K M Fx Hs0 H0 ρ Hs σ H) (h : PstS K mg M Fx Hs0 H0 (lift false (fun _ => true) (f (view M false ρ)) ρ k) Dd W)
    (q : ∀ b Hj H', SInv K M Fx Hs0 H0 ρ Hj σ H' → PstS K mg M Fx Hs0 H0 (k b) Dd W → Q b H') : tDB K mg W f σ H Q := by
  obtain ⟨Hb, e1, e2, _, e3⟩ := I.enter false
  refine ⟨_, Hb, e1, e2, use_P e3 (fun _ _ _ _ dn z r => r) h fun a b Hj H' _ J e hp => ?_⟩
  have e : a = b := e
  subst e
  exact q a Hj H' J hp
/-- a value dropped, or returned -/
theorem use_R {f : Env → R D} {k : D → R Fl} {Dd : Ends} {W : WX} {Q : VK} (I : SInv K M Fx Hs0 H0 ρ Hs σ H) (h : PstS K mg M Fx Hs0 H0 (lift false (fun _ => true) (f (view M false ρ)) ρ k) Dd W)
    (q : ∀ d v Hi Hj H', SInv K M Fx Hs0 H0 ρ Hj σ H' → Le Hs0 H0 Hi H' → Rep K Hi d v → PstS K mg M Fx Hs0 H0 (k d) Dd W → Q v H') : tD K mg W f σ H Q := by
  obtain ⟨Hb, e1, e2, e4, e3⟩ := I.enter false
  refine ⟨_, Hb, e1, e2, ?_⟩
  cases z : f (view M false ρ) with
  | ok d =>
    rw [z] at h
    intro v Hi H' le r
    obtain ⟨Hj, J, _⟩ := e3 Hi H' le
    exact q d v Hi Hj H' J (e4.trans le) r h
  | exc x =>
    have := use_P (Rel := Rep K) (Q := Q) e3 (fun _ _ _ _ _ w r => r.down (by assumption) (by simpa using w)) (l := D.lf) (r := (.exc x)) (k := k) (Dd := Dd) (W := W) (mg := mg) (by rw [z] at h; exact h) (fun _ _ _ _ e => by cases e)
    exact this
  | stuck => rw [z] at h; exact h.elim
end
end Py

namespace Py
open PySem PySem.Spec PyProof.Rows L2
variable {Fx : List (Nat × V)}

def sAsg : Stmt → Option (Expr × Expr × Pos)
  | .Assign [t] e p => some (t, e, p)
  | _ => none
def sExp : Stmt → Option (Expr × Pos)
  | .Expr e p => some (e, p)
  | _ => none
def sIf : Stmt → Option (Expr × List Stmt × List Stmt)
  | .If c a b _ => some (c, a, b)
  | _ => none
def sWhl : Stmt → Option (Expr × List Stmt)
  | .While c b [] _ => some (c, b)
  | _ => none
def sFor : Stmt → Option (Expr × Expr × List Stmt)
  | .For t i b [] _ => some (t, i, b)
  | _ => none
def sRet : Stmt → Option (Option Expr)
  | .Return e _ => some e
  | _ => none
def sPass : Stmt → Bool
  | .Pass _ => true
  | _ => false
def sRse : Stmt → Option (Str × List Expr)
  | .Raise (some (.Call (.Name x _) as [] _)) none _ => some (x, as)
  | _ => none
theorem sRse_s {s : Stmt} {x : Str} {as : List Expr} (h : sRse s = some (x, as)) : ∃ p q r, s = .Raise (some (.Call (.Name x p) as [] q)) none r := by
  unfold sRse at h; split at h <;> simp at h; obtain ⟨rfl, rfl⟩ := h; exact ⟨_, _, _, rfl⟩
def sTry : Stmt → Option (List Stmt × Str × Str × Str)
  | .Try body [.ExceptHandler (some (.Name x _)) (some n) [.Assign [.Name y _] (.Name m _) _] _] [] [] _ => if n = m then some (body, x, n, y) else none
  | _ => none
theorem sTry_s {s : Stmt} {b : List Stmt} {x n y : Str} (h : sTry s = some (b, x, n, y)) : ∃ np yp ep ap pos' pos, s = .Try b [.ExceptHandler (some (.Name x np)) (some n) [.Assign [.Name y yp] (.Name n ep) ap] pos'] [] [] pos := by
  unfold sTry at h
  split at h
  · rename_i n' _ m _ _ _ _
    split at h
    · rename_i e
      subst e
      cases h
      exact ⟨_, _, _, _, _, _, rfl⟩
    · cases h
  · cases h
def sBrk : Stmt → Bool
  | .Break _ => true
  | _ => false
def sCnt : Stmt → Bool
  | .Continue _ => true
  | _ => false
/-- x, y = u, v: four names -/
def sPar : Stmt → Option (Str × Str × Expr × Expr)
  | .Assign [.Tuple [.Name x px, .Name y py] _ _] (.Tuple [.Name u pu, .Name v pv] _ _) _ => if (py.line == px.line && decide (u ≠ "__debug__")) = true then some (x, y, .Name u pu, .Name v pv) else none
  | _ => none
theorem sPar_s {s : Stmt} {x y : Str} {a b : Expr} (h : sPar s = some (x, y, a, b)) : ∃ px py u v pu pv kt pt k2 pt2 pos, s = .Assign [.Tuple [.Name x px, .Name y py] kt pt] (.Tuple [.Name u pu, .Name v pv] k2 pt2) pos ∧ a = .Name u pu ∧ b = .Name v pv ∧ (py.line == px.line) = true ∧ u ≠ "__debug__" := by
  unfold sPar at h
  split at h
  · split at h
    · rename_i z
      simp at h
      obtain ⟨rfl, rfl, rfl, rfl⟩ := h
      rw [Bool.and_eq_true, decide_eq_true_eq] at z
      exact ⟨_, _, _, _, _, _, _, _, _, _, _, rfl, rfl, rfl, z⟩
    · cases h
  · cases h
theorem sAsg_s {s : Stmt} {t e : Expr} {p : Pos} (h : sAsg s = some (t, e, p)) : s = .Assign [t] e p := by
  unfold sAsg at h; split at h <;> simp at h; obtain ⟨rfl, rfl, rfl⟩ := h; rfl
theorem sExp_s {s : Stmt} {e : Expr} {p : Pos} (h : sExp s = some (e, p)) : s = .Expr e p := by
  unfold sExp at h; split at h <;> simp at h; obtain ⟨rfl, rfl⟩ := h; rfl
theorem sIf_s {s : Stmt} {c : Expr} {a b : List Stmt} (h : sIf s = some (c, a, b)) : ∃ p, s = .If c a b p := by
  unfold sIf at h; split at h <;> simp at h; obtain ⟨rfl, rfl, rfl⟩ := h; exact ⟨_, rfl⟩
theorem sWhl_s {s : Stmt} {c : Expr} {b : List Stmt} (h : sWhl s = some (c, b)) : ∃ p, s = .While c b [] p := by
  unfold sWhl at h; split at h <;> simp at h; obtain ⟨rfl, rfl⟩ := h; exact ⟨_, rfl⟩
theorem sFor_s {s : Stmt} {t i : Expr} {b : List Stmt} (h : sFor s = some (t, i, b)) : ∃ p, s = .For t i b [] p := by
  unfold sFor at h; split at h <;> simp at h; obtain ⟨rfl, rfl, rfl⟩ := h; exact ⟨_, rfl⟩
theorem sRet_s {s : Stmt} {e : Option Expr} (h : sRet s = some e) : ∃ p, s = .Return e p := by
  unfold sRet at h; split at h <;> simp at h; subst h; exact ⟨_, rfl⟩
theorem sPass_s {s : Stmt} (h : sPass s = true) : ∃ p, s = .Pass p := by
  unfold sPass at h; split at h <;> simp at h; exact ⟨_, rfl⟩
theorem sBrk_s {s : Stmt} (h : sBrk s = true) : ∃ p, s = .Break p := by
  unfold sBrk at h; split at h <;> simp at h; exact ⟨_, rfl⟩
theorem sCnt_s {s : Stmt} (h : sCnt s = true) : ∃ p, s = .Continue p := by
  unfold sCnt at h; split at h <;> simp at h; exact ⟨_, rfl⟩
/-- no comprehension, no tuple display -/
def noComp : Expr → Bool
  | .ListComp _ _ _ _ => false
  | .SetComp _ _ _ _ => false
  | .DictComp _ _ _ _ _ => false
  | _ => true
def noTup : Expr → Bool
  | .Tuple _ _ _ => false
  | _ => true
theorem sw_no {e : Expr} (h : noComp e = true) (t : Option Expr) (l : Nat) (env : PySem.Env) : swapsWith e t l env = pure false := by
  cases e <;> first | rfl | cases h
theorem sw_sub {e a b : Expr} {p : Pos} (l : Nat) (env : PySem.Env) : swapsWith e (some (.Subscript a b p)) l env = pure false := by
  cases e <;> rfl
theorem sw_cell {elt : Expr} {gs : List PySem.Comprehension} {raw : Scope} {pos py : Pos} {y : Str} {env : PySem.Env} (h : env.scope.names.lookup y ≠ some .local) (l : Nat) : swapsWith (.ListComp elt gs raw pos) (some (.Name y py)) l env = pure false := by
  have hk : (env.kindOf y == some .local) = false := by
    show (env.scope.names.lookup y == some .local) = false
    exact beq_eq_false_iff_ne.mpr h
  unfold swapsWith
  simp only [hk, Bool.and_false, Bool.false_and]
theorem swst_no {t e : Expr} (h : noTup e = true) (env : PySem.Env) : swappedStores [t] e env = pure none := by
  cases e <;> first | (cases t <;> rfl) | cases h
theorem swst_sub {e a b : Expr} {p : Pos} (env : PySem.Env) : swappedStores [.Subscript a b p] e env = pure none := by
  cases e <;> rfl
/-- a comprehension stored at once -/
def swOk (sc : Scope) (t e : Expr) : Bool := match t, e with
  | .Name y py, .ListComp _ _ raw pos => decide (sc.names.lookup y ≠ some .local) || decide (sc.names.lookup y = some .local) && (py.line == pos.line) && !(raw.names.any fun (n, k) => n == y && (k == .local || k == .cell))
  | _, _ => noComp e
def chkO (C : Cfg) (sc : Scope) : O → Expr → Bool
  | .disp es, e => match xLst e with
    | some xs => decide (es.len ≤ 1000) && chks C sc es xs
    | none => false
  | .listOf a, e => match xCall e with
    | some (x, xs) => decide (x = ("list" : Str)) && C.bl.contains x && glOk sc x && (match xs with
      | [y] => plain y && chk C sc a y
      | _ => false)
    | none => false
  | .add a b, e => match xBin e with
    | some (x, p, y) => decide (p = .Add) && chk C sc a x && chk C sc b y
    | none => false
  | .lc t it ifs el, e => chk C sc (.lc t it ifs el) e
  | .call k es, e => chk C sc (.call k es) e && noComp e
  | .lrange1 a, e => chk C sc (.lrange1 a) e && noComp e
/-- x.m(e) -/
def chkM (C : Cfg) (sc : Scope) (m : Str) (i : Nat) (a : E) (e : Expr) : Bool := match xMeth e with
  | some (o, n, xs, l) => decide (n = m) && l && (match xName o with
    | some x => decide (C.N[i]? = some x) && visOk sc x
    | none => false) && (match xs with
    | [y] => plain y && chk C sc a y
    | _ => false)
  | none => false
/-- x.m() -/
def chkM0 (C : Cfg) (sc : Scope) (m : Str) (i : Nat) (e : Expr) : Bool := match xMeth e with
  | some (o, n, xs, l) => decide (n = m) && l && (match xName o with
    | some x => decide (C.N[i]? = some x) && visOk sc x
    | none => false) && xs.isEmpty
  | none => false
/-- x.append(y.pop(e)) -/
def chkAp (C : Cfg) (sc : Scope) (i j : Nat) (a : E) (e : Expr) : Bool := match xMeth e with
  | some (o, n, xs, l) => decide (n = ("append" : Str)) && l && (match xName o with
    | some x => decide (C.N[i]? = some x) && visOk sc x
    | none => false) && (match xs with
    | [y] => chkM C sc "pop" j a y
    | _ => false)
  | none => false
def chkOwnSlot (C : Cfg) (sc : Scope) (M : List Nat) (i : Nat) (e : Expr) : Bool := M.contains i && (match xName e with
  | some x => decide (C.N[i]? = some x) && visOk sc x
  | none => false)
mutual
def chkEM (C : Cfg) (sc : Scope) (M : List Nat) : EM → Expr → Bool
  | .pur e, x => chk C sc e x
  | .cur e, x => chk C sc e x
  | .mth i m k cs as, x => match xMeth x with
    | some (o, n, xs, l) => decide (n = m) && l && decide (m ≠ "__init__") && decide (C.cn[k]? = some (m, as.len + 1)) && decide (C.km[k]? = some (cs, true :: List.replicate as.len false)) && decide (as.len < 20) && chkOwnSlot C sc M i o && chkEMs C sc M as xs
    | none => false
  | .cal k as, x => match xCall x with
    | some (f, xs) => decide (C.cn[k]? = some (f, as.bits.length)) && decide (C.km[k]? = some ([], as.bits)) && decide (as.bits ≠ []) && decide (as.slots ≠ []) && decide as.slots.Nodup && glOk sc f && chkEAs C sc M as xs
    | none => false
  | .tup as, x => match xTup x with
    | some xs => decide (as.len ≤ 1000) && chkEMs C sc M as xs
    | none => false
  | .cmp o a b, e => match xCmp e with
    | some (x, p, y) => decide (p = o.op) && plain y && chkEM C sc M a x && chkEM C sc M b y
    | none => false
  | .not a, e => match xUn e with
    | some (o, x) => decide (o = .Not) && chkEM C sc M a x
    | none => false
  | .and as, e => match xBool e with
    | some (o, xs) => decide (o = .And) && decide (as.len ≠ 0) && chkEMs C sc M as xs
    | none => false
  | .or as, e => match xBool e with
    | some (o, xs) => decide (o = .Or) && decide (as.len ≠ 0) && chkEMs C sc M as xs
    | none => false
def chkEMs (C : Cfg) (sc : Scope) (M : List Nat) : EMs → List Expr → Bool
  | .nil, es => es.isEmpty
  | .cons a as, es => match es with
    | e :: es => plain e && chkEM C sc M a e && chkEMs C sc M as es
    | [] => false
def chkEAs (C : Cfg) (sc : Scope) (M : List Nat) : EAs → List Expr → Bool
  | .nil, es => es.isEmpty
  | .own i as, es => match es with
    | e :: es => plain e && chkOwnSlot C sc M i e && chkEAs C sc M as es
    | [] => false
  | .val a as, es => match es with
    | e :: es => plain e && chkEM C sc M a e && chkEAs C sc M as es
    | [] => false
end
mutual
def chkS (C : Cfg) (sc : Scope) (M : List Nat) : S → Stmt → Bool
  | .asg _ t a, s => match sAsg s with
    | some (tg, e, _) => chkTgt C.N sc sc t tg && chk C sc a e && swOk sc tg e && (match t with | .nm _ => true | .tp _ => noTup e) && (t.ixs.all fun i => !M.contains i)
    | none => false
  | .own _ i o, s => match sAsg s with
    | some (tg, e, _) => chkTgt C.N sc sc (.nm i) tg && chkO C sc o e && swOk sc tg e && M.contains i && decide (C.np ≤ i)
    | none => false
  | .grw i a, s => match sAsg s with
    | some (tg, e, _) => chkTgt C.N sc sc (.nm i) tg && swOk sc tg e && M.contains i && (match xBin e with
      | some (x, p, y) => decide (p = .Add) && (match xName x with
        | some n => decide (C.N[i]? = some n) && visOk sc n
        | none => false) && chk C sc a y
      | none => false) && decide (C.np ≤ i)
    | none => false
  | .app _ i a, s => match sExp s with
    | some (e, _) => M.contains i && chkM C sc "append" i a e
    | none => false
  | .ext _ i a, s => match sExp s with
    | some (e, _) => M.contains i && chkM C sc "extend" i a e
    | none => false
  | .put _ i j a, s => match sAsg s with
    | some (tg, e, _) => M.contains i && chk C sc a e && (match xSub tg with
      | some (o, k) => plain k && (match xName o with
        | some x => decide (C.N[i]? = some x) && visOk sc x
        | none => false) && chk C sc j k
      | none => false)
    | none => false
  | .ex a, s => match sExp s with
    | some (e, _) => chk C sc a e && noComp e
    | none => false
  | .ite c a b, s => match sIf s with
    | some (e, p, q) => chk C sc c e && chkSs C sc M a p && chkSs C sc M b q
    | none => false
  | .whl _ c b, s => match sWhl s with
    | some (e, p) => chk C sc c e && chkSs C sc M b p
    | none => false
  | .for_ _ t it b, s => match sFor s with
    | some (tg, e, p) => chkTgt C.N sc sc t tg && chkIt C sc it e && tgtOk it t && chkSs C sc M b p && (t.ixs.all fun i => !M.contains i)
    | none => false
  | .ret a, s => match sRet s with
    | some (some e) => chk C sc a e
    | _ => false
  | .retN, s => match sRet s with
    | some none => true
    | _ => false
  | .pass, s => sPass s
  | .brk, s => sBrk s
  | .cont, s => sCnt s
  | .nev, _ => true
  | .clr i, s => match sExp s with
    | some (e, _) => M.contains i && chkM0 C sc "clear" i e
    | none => false
  | .pop i, s => match sExp s with
    | some (e, _) => M.contains i && chkM0 C sc "pop" i e
    | none => false
  | .exC a, s => match sExp s with
    | some (e, _) => chk C sc a e && noComp e
    | none => false
  | .retC a, s => match sRet s with
    | some (some e) => chk C sc a e
    | _ => false
  | .rse _ c a, s => match sRse s with
    | some (x, as) => decide (x = c) && C.ex && C.exn.contains x && glOk sc x && (match exFld c with | some (some _) => true | _ => false) && (match as with
      | [e] => plain e && chk C sc a e
      | _ => false)
    | none => false
  | .rs0 c, s => match sRse s with
    | some (x, as) => decide (x = c) && C.ex && C.exn.contains x && glOk sc x && (match as with
      | [e] => (match xConst e with | some (.str _) => true | _ => false)
      | _ => false)
    | none => false
  | .tryx i j b, s => match sTry s with
    | some (bd, x, n, y) => decide (x = "PurseError") && C.ex && glOk sc x && decide (C.N[i]? = some n) && decide (sc.names.lookup n = some .local) && !(n == ("__debug__" : Str)) && !(n == ("__classdict__" : Str)) &&
        decide (C.N[j]? = some y) && locOk sc sc y && !M.contains i && !M.contains j && decide (i ≠ j) && chkSs C sc M b bd
    | none => false
  | .forC t k es b, s => match sFor s with
    | some (tg, e, p) => chkTgt C.N sc sc t tg && chk C sc (.call k es) e && noComp e && plain e && chkSs C sc M b p && (t.ixs.all fun i => !M.contains i)
    | none => false
  | .apop i j a, s => match sExp s with
    | some (e, _) => M.contains i && M.contains j && decide (i ≠ j) && chkAp C sc i j a e
    | none => false
  | .unset i, s => match sAsg s with
    | some (tg, e, _) => chkTgt C.N sc sc (.nm i) tg && (match xConst e with | some .none => true | _ => false) && M.contains i && decide (C.np ≤ i)
    | none => false
  | .rev i, s => match sExp s with
    | some (e, _) => M.contains i && chkM0 C sc "reverse" i e
    | none => false
  | .ownN i, s => match sAsg s with
    | some (tg, e, _) => chkTgt C.N sc sc (.nm i) tg && (match xConst e with | some .none => true | _ => false) && M.contains i && decide (C.np ≤ i)
    | none => false
  | .ownV _ i a, s => match sAsg s with
    | some (tg, e, _) => chkTgt C.N sc sc (.nm i) tg && chk C sc a e && noComp e && M.contains i && decide (C.np ≤ i)
    | none => false
  | .mk2 i j k es, s => match sAsg s with
    | some (tg, e, _) => chkTgt C.N sc sc (.tp [i, j]) tg && chk C sc (.call k es) e && noComp e && noTup e && M.contains i && !M.contains j && decide (C.np ≤ i)
    | none => false
  | .mk i c k es, s => match sAsg s with
    | some (tg, e, _) => chkTgt C.N sc sc (.nm i) tg && M.contains i && decide (C.np ≤ i) && C.mx && noComp e && (match xCall e with
      | some (x, xs) => decide (x = c) && glOk sc x && decide (C.cn[k]? = some (("__init__" : Str), es.len + 1)) && decide (C.km[k]? = some ([c], true :: List.replicate es.len false)) && chks C sc es xs
      | none => false)
    | none => false
  | .setf _ i f a, s => match sAsg s with
    | some (tg, e, _) => chk C sc a e && noComp e && (match xAttr tg with
      | some (o, g) => decide (g = f) && fldNs.contains f && chkOwnSlot C sc M i o
      | none => false)
    | none => false
  | .asgM t m, s => match sAsg s with
    | some (tg, e, _) => chkTgt C.N sc sc t tg && chkEM C sc M m e && noComp e && (match t with | .nm _ => true | .tp _ => noTup e) && (t.ixs.all fun i => !M.contains i)
    | none => false
  | .exM m, s => match sExp s with
    | some (e, _) => chkEM C sc M m e && noComp e
    | none => false
  | .iteM m a b, s => match sIf s with
    | some (e, p, q) => chkEM C sc M m e && chkSs C sc M a p && chkSs C sc M b q
    | none => false
  | .retM m, s => match sRet s with
    | some (some e) => chkEM C sc M m e
    | _ => false
  | .retO m, s => match sRet s with
    | some (some e) => chkEM C sc M m e
    | _ => false
  | .setd i f, s => match sAsg s with
    | some (tg, e, _) => xDic e && (match xAttr tg with
      | some (o, g) => decide (g = f) && fldNs.contains f && chkOwnSlot C sc M i o
      | none => false)
    | none => false
  | .putf _ i f a e, s => match sAsg s with
    | some (tg, x, _) => chk C sc e x && (match xSub tg with
      | some (o, k) => plain k && chk C sc a k && (match xAttr o with
        | some (q, g) => decide (g = f) && fldNs.contains f && chkOwnSlot C sc M i q
        | none => false)
      | none => false)
    | none => false
  | .par i j a b, s => match sPar s with
    | some (x, y, u, v) => decide (C.N[i]? = some x) && decide (C.N[j]? = some y) && decide (i ≠ j) && decide (sc.names.lookup x = some .local) && decide (sc.names.lookup y = some .local) && decide (x ≠ y) && chk C sc a u && chk C sc b v && !M.contains i && !M.contains j
    | none => false
  | .asgB t a, s => match sAsg s with
    | some (tg, e, _) => chkTgt C.N sc sc t tg && chk C sc a e && swOk sc tg e && (match t with | .nm _ => true | .tp _ => noTup e) && (t.ixs.all fun i => !M.contains i)
    | none => false
  | .lcM i t it ifs m k cl a es, s => match sAsg s with
    | some (tg, e, _) => chkTgt C.N sc sc (.nm i) tg && chk C sc (.lc t it ifs (.meth m k cl a es)) e && swOk sc tg e && !M.contains i
    | none => false
  | .dkn i, s => match sAsg s with
    | some (tg, e, _) => chkTgt C.N sc sc (.nm i) tg && xDic e && M.contains i && decide (C.np ≤ i)
    | none => false
  | .dkp i a e, s => match sAsg s with
    | some (tg, x, _) => chk C sc e x && (match xSub tg with
      | some (o, k) => plain k && chk C sc a k && chkOwnSlot C sc M i o
      | none => false)
    | none => false
def chkSs (C : Cfg) (sc : Scope) (M : List Nat) : Ss → List Stmt → Bool
  | .nil, ss => ss.isEmpty
  | .fre i ss, sts => decide (C.np ≤ i) && M.contains i && chkSs C sc (M.filter (· != i)) ss sts
  | .cons s ss, sts => match sts with
    | st :: sts => chkS C sc M s st && chkSs C sc M ss sts
    | [] => false
end

structure SX (X : Cx) : Prop where
  fn : ∀ x, X.fn x = true
  pas : PassesOwn (model X.prog X.w) X.A X.env X.xe
  kind : X.env.scope.kind = .function
  stk : X.stack = X.env :: X.outer
  frm : X.env.frame = some X.env.locals
  noe : X.ex = []
theorem PS.imp {X : Cx} {st : Stmt} {t u : TS} (h : PS X st t) (f : ∀ Dd σ H, u Dd σ H → t Dd σ H) : PS X st u := ⟨fun pins s σ H Dd I q => h.run pins s σ H Dd I (f Dd σ H q)⟩
theorem PSs.imp {X : Cx} {st : List Stmt} {t u : TS} (h : PSs X st t) (f : ∀ Dd σ H, u Dd σ H → t Dd σ H) : PSs X st u := ⟨fun pins s σ H Dd I q => h.run pins s σ H Dd I (f Dd σ H q)⟩
section
variable {C : Cfg} {cs : List Cal} {kk : Nat} {M : List Nat}
def SOk (C : Cfg) (cs : List Cal) (kk : Nat) (M : List Nat) (a : S) : Prop := ∀ (X : Cx) (W : WX) (st : Stmt), XOk X C cs kk → SX X → Takes X W → chkS C X.env.scope M a st = true →
  ∀ Fx, (∀ p ∈ Fx, p.1 ∈ M ∧ p.1 < C.np) → ∀ Hs0 H0, PS X st (tS X.K X.mg W M Fx Hs0 H0 (exec (fnsOf cs) M a))
def SsOk (C : Cfg) (cs : List Cal) (kk : Nat) (M : List Nat) (a : Ss) : Prop := ∀ (X : Cx) (W : WX) (sts : List Stmt), XOk X C cs kk → SX X → Takes X W → chkSs C X.env.scope M a sts = true →
  ∀ Fx, (∀ p ∈ Fx, p.1 ∈ M ∧ p.1 < C.np) → ∀ Hs0 H0, PSs X sts (tS X.K X.mg W M Fx Hs0 H0 (execs (fnsOf cs) M a))
theorem sinv_names {K : PySem.W.Frag} {Hs0 H0 Hs H : Hp} {ρ' : Env} : ∀ {is : List Nat} {ds : List D} {vs : List V} {ρ : Env} {σ : L2.St} {Q : L2.St → Hp → Prop}, setAll is ds ρ = some ρ' → Reps K Hs ds vs → SInv K M Fx Hs0 H0 ρ Hs σ H → (∀ i ∈ is, i ∉ M) →
    (∀ σ', SInv K M Fx Hs0 H0 ρ' Hs σ' H → Q σ' H) → gNames is vs σ H Q
  | [], [], _, ρ, σ, Q, h, .nil, I, _, k => by
    have e : ρ = ρ' := Option.some.inj h
    subst e
    exact ⟨rfl, k σ I⟩
  | i :: is, d :: ds, _, ρ, σ, Q, h, .cons (v := v) (vs := vs) r t, I, hi, k => by
    refine ⟨v, vs, rfl, ?_⟩
    show gNames is vs (σ.set i (some v)) H Q
    exact sinv_names (ρ := ρ.set i (some d)) h t (I.set (hi i (by simp)) r) (fun j hj => hi j (by simp [hj])) k
  | [], _ :: _, _, _, _, _, h, _, _, _, _ => by cases h
  | _ :: _, [], _, _, _, _, h, _, _, _, _ => by cases h
theorem sinv_tgt {K : PySem.W.Frag} {Hs0 H0 Hs H : Hp} {ρ ρ' : Env} {t : Tgt} {d : D} {v : V} {σ : L2.St} {Q : L2.St → Hp → Prop} (h : t.bind d ρ = .ok ρ') (r : Rep K Hs d v) (I : SInv K M Fx Hs0 H0 ρ Hs σ H) (hi : ∀ i ∈ t.ixs, i ∉ M)
    (k : ∀ σ', SInv K M Fx Hs0 H0 ρ' Hs σ' H → Q σ' H) : gOf K t v σ H Q := by
  cases t with
  | nm i =>
    have e : ρ.set i (some d) = ρ' := R.ok.inj h
    subst e
    exact k _ (I.set (hi i (by simp [Tgt.ixs])) r)
  | tp is =>
    cases d with
    | tup ds =>
      have h : (match setAll is ds ρ with | some ρ' => R.ok ρ' | none => .stuck) = .ok ρ' := h
      cases q : setAll is ds ρ with
      | none => rw [q] at h; cases h
      | some ρ2 =>
        rw [q] at h
        cases h
        obtain ⟨p, vs, rfl, e1, r1⟩ := r.tupI
        exact ⟨p, vs, rfl, SqT.of (I.le.sub _ _ e1), by rw [← r1.length, (setAll_len q).1], sinv_names q r1 I hi k⟩
    | _ => cases h
theorem use_T {K : PySem.W.Frag} {mg : Str → Option Value} {Hs0 H0 Hs H : Hp} {ρ : Env} {t : Tgt} {d : D} {v : V} {σ : L2.St} {k : Env → R Fl} {Dd : Ends} {W : WX} {Q : L2.St → Hp → Prop} (h : PstS K mg M Fx Hs0 H0 (bindT t d ρ k) Dd W) (r : Rep K Hs d v) (I : SInv K M Fx Hs0 H0 ρ Hs σ H)
    (hi : ∀ i ∈ t.ixs, i ∉ M) (q : ∀ ρ' σ', SInv K M Fx Hs0 H0 ρ' Hs σ' H → PstS K mg M Fx Hs0 H0 (k ρ') Dd W → Q σ' H) : gOf K t v σ H Q := by
  unfold bindT at h
  cases z : t.bind d ρ with
  | ok ρ' =>
    rw [z] at h
    exact sinv_tgt z r I hi fun σ' J => q ρ' σ' J h
  | exc x => rw [z] at h; exact h.elim
  | stuck => rw [z] at h; exact h.elim
theorem allM {M is : List Nat} (h : (is.all fun i => !M.contains i) = true) : ∀ i ∈ is, i ∉ M := fun i hi => by
  have := List.all_eq_true.mp h i hi
  simpa using this
theorem tgt_stores {N : List Str} {sc raw : Scope} {t : Tgt} {e : Expr} (h : chkTgt N sc raw t e = true) (env : PySem.Env) : (assignEach [e] env).map (·.2) = [assign e env] := by
  cases t with
  | nm i =>
    have h : (match xName e with | some x => decide (N[i]? = some x) && locOk sc raw x | none => false) = true := h
    cases q : xName e with
    | none => rw [q] at h; cases h
    | some x =>
      obtain ⟨p, rfl⟩ := xName_s q
      rfl
  | tp is =>
    have h : (match xTup e with | some es => chkNames N sc raw is es | none => false) = true := h
    cases q : xTup e with
    | none => rw [q] at h; cases h
    | some x =>
      obtain ⟨k, p, rfl⟩ := xTup_s q
      rfl
theorem ok_asg (cl : Bool) (t : Tgt) (a : E) : SOk C cs kk M (.asg cl t a) := fun X W st hX sx tk h Fx hfx Hs0 H0 => by
  rw [chkS] at h
  cases q : sAsg st with
  | none => rw [q] at h; cases h
  | some u =>
    obtain ⟨tg, e, p⟩ := u
    rw [q] at h
    have hst := sAsg_s q
    subst hst
    simp only [Bool.and_eq_true] at h
    obtain ⟨⟨⟨⟨h1, h2⟩, h3⟩, h4⟩, h5⟩ := h
    have hi := allM h5
    have he := (ok_E a X W e hX tk h2).1
    have hg : PG X tg (gOf X.K t) := pg_of hX.calm hX.names hX.nd rfl (fun x _ => sx.fn x) h1
    have go : ∀ (u : TE), (∀ σ H Q, tD X.K X.mg W (ev (fnsOf cs) a) σ H Q → u σ H Q) → ∀ Dd σ H, tS X.K X.mg W M Fx Hs0 H0 (exec (fnsOf cs) M (.asg cl t a)) Dd σ H → tAsg u (gOf X.K t) Dd σ H := by
      intro u hu Dd σ H ⟨ρ, Hs, I, hp⟩
      rw [exec] at hp
      exact hu _ _ _ (use_D I hp fun d v Hj H' J r hp => use_T hp r J hi fun ρ' σ' J' hp => hp Hj σ' H' J')
    by_cases hc : noComp e = true
    · have hw : swappedStores [tg] e X.env = pure none := by
        cases t with
        | tp is => exact swst_no h4 X.env
        | nm i =>
          have h1 : (match xName tg with | some x => decide (C.N[i]? = some x) && locOk X.env.scope X.env.scope x | none => false) = true := h1
          cases z : xName tg with
          | none => rw [z] at h1; cases h1
          | some x =>
            obtain ⟨px, rfl⟩ := xName_s z
            cases e <;> rfl
      exact PS.imp (ps_asg he hg (sw_no hc _ _ _) hw (tgt_stores h1 X.env)) (go _ fun _ _ _ h => h)
    · cases e with
      | ListComp el gs raw pos =>
        cases tg with
        | Name y py =>
          by_cases hloc : X.env.scope.names.lookup y = some .local
          rotate_left
          · exact PS.imp (ps_asg he hg (sw_cell hloc p.line) (by rfl) (tgt_stores h1 X.env)) (go _ fun _ _ _ h => h)
          have h3 : (decide (X.env.scope.names.lookup y ≠ some .local) || (decide (X.env.scope.names.lookup y = some .local) && (py.line == pos.line) && !(raw.names.any fun (n, k) => n == y && (k == .local || k == .cell)))) = true := h3
          have h3 : (decide (X.env.scope.names.lookup y = some .local) && (py.line == pos.line) && !(raw.names.any fun (n, k) => n == y && (k == .local || k == .cell))) = true := by
            rw [decide_eq_false (fun z => z hloc), Bool.false_or] at h3
            exact h3
          have h3' : (decide (X.env.scope.names.lookup y = some .local) && (py.line == pos.line) && !(raw.names.any fun (n, k) => n == y && (k == .local || k == .cell))) = true := h3
          simp only [Bool.and_eq_true, decide_eq_true_eq, Bool.not_eq_true'] at h3'
          have hsw := sw_true (elt := el) (gs := gs) (l := p.line) sx.kind h3'.1.1 h3'.1.2 h3'.2
          cases t with
          | tp is => cases h1
          | nm i =>
            have h1 : (decide (C.N[i]? = some y) && locOk X.env.scope X.env.scope y) = true := h1
            simp only [Bool.and_eq_true, decide_eq_true_eq] at h1
            cases a with
            | lc t2 it ifs el2 =>
              rw [chk] at h2
              cases z : xLc (.ListComp el gs raw pos) with
              | none => rw [z] at h2; cases h2
              | some w =>
                obtain ⟨x, tg2, i2, fs, raw2⟩ := w
                rw [z] at h2
                obtain ⟨pos2, e0⟩ := xLc_s z
                cases e0
                simp only [Bool.and_eq_true, decide_eq_true_eq] at h2
                obtain ⟨⟨⟨⟨⟨⟨⟨c1, c2⟩, c3⟩, c4⟩, c5⟩, c6⟩, c7⟩, c8⟩ := h2
                obtain ⟨j1, j2⟩ := ok_It it X W tg2 i2 hX tk c2 fun a b z => by
                  subst z
                  cases t2 with
                  | nm i => cases c3
                  | tp is =>
                    have h4 : (match xTup tg2 with | some es => chkNames C.N (relS raw X.env.scope) raw is es | none => false) = true := c4
                    cases q3 : xTup tg2 with
                    | none => rw [q3] at h4; cases h4
                    | some ks =>
                      obtain ⟨k, p, rfl⟩ := xTup_s q3
                      exact ⟨_, _, _, rfl⟩
                refine PS.imp (ps_setLc (own := ownOf C.N t2) (g := gOf X.K t2) (tt := tDB X.K X.mg WN (evTests (fnsOf cs) ifs)) (te := tD X.K X.mg WN (ev (fnsOf cs) el2)) hX.calm (by rw [hX.names]; exact hX.nd) (show X.N[i]? = some y by rw [hX.names]; exact h1.1) h3'.1.1 hsw j1 (blkOk_by (by rw [hX.names]; exact c1)) (fun s H C' cl fp => ?_) (fun s H C' cl fp => ?_) (fun s H C' cl fp => ?_) (folded_ok j2)) (go _ fun σ H Q hh => ?_)
                · exact pg_of (X := X.blk s H raw (compEnvC raw cl C' X.env) fp) hX.calm (by exact hX.names) hX.nd rfl blk_fn c4
                · exact (ok_Es ifs).tests (X.blk s H raw (compEnvC raw cl C' X.env) fp) WN fs hX.blk takes0 c5
                · exact (ok_E el2 (X.blk s H raw (compEnvC raw cl C' X.env) fp) WN el hX.blk takes0 c6).1
                · rw [c7]
                  refine lc_imp (W := W) c8 ?_
                  obtain ⟨ρ, Hs, e1, e2, e3⟩ := hh
                  refine ⟨ρ, Hs, e1, e2, ?_⟩
                  rw [ev] at e3
                  exact e3
            | _ => simp [chk, xName, xConst, xBin, xUn, xCmp, xChain, xBool, xTup, xLst, xSub, xCall, xCallK, xStep, xMeth, xAttr, xDic, xDisp, xJoin] at h2
        | _ => cases h3
      | SetComp _ _ _ _ => cases tg <;> cases h3
      | DictComp _ _ _ _ _ => cases tg <;> cases h3
      | _ => exact absurd rfl hc
end
end Py

namespace Py
open PySem PySem.Spec PyProof.Rows L2
variable {Fx : List (Nat × V)}
section
variable {C : Cfg} {cs : List Cal} {kk : Nat} {M : List Nat}
section
variable {K : PySem.W.Frag} {mg : Str → Option Value} {Hs0 H0 Hs H : Hp} {ρ : Env} {σ : L2.St} {cl : Bool}
theorem use_PG {α β : Type} {Rel : Hp → α → β → Prop} {r : R α} {g : α → R D} {k : D → R Fl} {Dd : Ends} {W : WX} {Q : β → Hp → Prop} {Hb : Hp}
    (hb : ∀ Hi H', Le Hb H Hi H' → ∃ Hj, SInv K M Fx Hs0 H0 ρ Hj σ H' ∧ Down cl Hi Hj)
    (h : PstS K mg M Fx Hs0 H0 (lift cl D.lfItems (r >>= g) ρ k) Dd W) (q : ∀ a b Hi H', r = .ok a → Le Hb H Hi H' → Rel Hi a b → PstS K mg M Fx Hs0 H0 (lift cl D.lfItems (g a) ρ k) Dd W → Q b H') : Pst Rel K mg Hb H r Q (fun c d H' => W c d σ H') := by
  cases r with
  | ok a => exact fun v Hi H' le ra => q a v Hi H' rfl le ra h
  | exc x =>
    intro c d Hi H' le rx
    have h : PstS K mg M Fx Hs0 H0 (if cl || x.lf then .ok (.xc x ρ) else .stuck) Dd W := h
    by_cases z : (cl || x.lf) = true
    · rw [if_pos z] at h
      obtain ⟨Hj, J, dn⟩ := hb Hi H' le
      exact h c d Hj σ H' J (rx.down dn z)
    · rw [if_neg z] at h
      exact h.elim
  | stuck => exact h.elim
/-- a new list, laid into an own slot -/
theorem fresh_own {i : Nat} {xs : List D} {vs : List V} {p : Addr} {Hi Hj H' : Hp} {Dd : Ends} {W : WX} (hi : i ∈ M) (fxi : ∀ p ∈ Fx, p.1 ≠ i) (J : SInv K M Fx Hs0 H0 ρ Hj σ H') (dn : Down cl Hi Hj) (r : Reps K Hi xs vs) (hn : H' p = none)
    (h : PstS K mg M Fx Hs0 H0 (lift cl D.lfItems (.ok (.lst xs)) ρ fun d => .ok (.nx (ρ.set i (some d)))) Dd W) : Dd.nx (σ.set i (some (.ref p))) (upd H' p (.lst vs)) := by
  have h : PstS K mg M Fx Hs0 H0 (if cl || D.lfs xs then .ok (.nx (ρ.set i (some (.lst xs)))) else .stuck) Dd W := h
  by_cases z : (cl || D.lfs xs) = true
  · rw [if_pos z] at h
    obtain ⟨OA, J⟩ := J
    have J2 := J.step (Le.new0 (o := .lst vs) J.le.sub hn)
    exact h _ _ _ ⟨_, J2.lay hi fxi (.lst upd_same (r.down dn z)) (fun a ha => by rw [List.mem_singleton.mp ha]; exact ⟨fresh_s J.le.sub hn, J.le.free hn⟩) (by simp) fun a ha => by rw [List.mem_singleton.mp ha]; exact J.fresh hn⟩
  · rw [if_neg z] at h
    exact h.elim
end
section
variable {K : PySem.W.Frag} {mg : Str → Option Value} {Hs0 H0 Hs H : Hp} {ρ : Env} {σ : L2.St} {cl : Bool}
/-- a heap without lists -/
noncomputable def noL (H : Hp) : Hp := fun a => match H a with
  | some o => if soft o then none else some o
  | none => none
theorem noL_sub (H : Hp) : Ex (noL H) H := fun a o h => by
  unfold noL at h
  split at h
  · rename_i u e
    split at h
    · cases h
    · cases h
      exact e
  · cases h
theorem noL_keep (H : Hp) : ExN H (noL H) := fun a o h hn => by
  unfold noL
  rw [h]
  simp [hn]
theorem noL_soft {H : Hp} {a : Addr} {o : HO} (so : soft o = true) : noL H a ≠ some o := fun h => by
  unfold noL at h
  split at h
  · split at h
    · cases h
    · rename_i hs
      cases h
      exact hs so
  · cases h
theorem noL_not {H : Hp} {a : Addr} {xs : List V} : noL H a ≠ some (.lst xs) := noL_soft rfl
/-- both, but for one address -/
def both2 (A B : Hp) (p : Option Addr) : Hp := fun a => match A a with
  | some o => some o
  | none => if p = some a then none else B a
theorem both2_le {Hi H1 Hk H2 : Hp} {p : Option Addr} (l1 : Ex Hi H1) (l : Le (noL Hi) H1 Hk H2) : Le Hi H1 (both2 Hi Hk p) H2 := by
  refine ⟨fun a o h => ?_, l.ex, fun a o h => ?_, fun a o h => ?_⟩
  · unfold both2
    rw [h]
  · unfold both2 at h
    cases z : Hi a with
    | some o' =>
      rw [z] at h
      cases h
      exact l.ex a _ (l1 a _ z)
    | none =>
      rw [z] at h
      simp only at h
      split at h
      · cases h
      · exact l.sub a o h
  · unfold both2 at h
    cases z : Hi a with
    | some o' =>
      rw [z] at h
      exact .inl (by rw [← h])
    | none =>
      rw [z] at h
      simp only at h
      split at h
      · cases h
      · rcases l.new a o h with w | w
        · have := noL_sub Hi a o w
          rw [z] at this
          cases this
        · exact .inr w
theorem both2_keepS {Hi H1 Hk H2 : Hp} {p : Addr} {o0 : HO} (so : soft o0 = true) (l1 : Ex Hi H1) (l : Le (noL Hi) H1 Hk H2) (hp : Hk p = some o0) : ExN Hk (both2 Hi Hk (some p)) := fun a o h hn => by
  unfold both2
  cases z : Hi a with
  | some o' =>
    have h1 := l.ex a _ (l1 a _ z)
    rw [l.sub a _ h] at h1
    simp only
    exact h1.symm
  | none =>
    simp only
    rw [if_neg]
    · exact h
    · intro e
      cases e
      rw [hp] at h
      cases h
      rw [so] at hn
      cases hn
theorem both2_keep {Hi H1 Hk H2 : Hp} {p : Addr} {vs : List V} (l1 : Ex Hi H1) (l : Le (noL Hi) H1 Hk H2) (hp : Hk p = some (.lst vs)) : ExN Hk (both2 Hi Hk (some p)) := both2_keepS rfl l1 l hp
def isIns : HO → Bool
  | .ins _ _ _ => true
  | _ => false
theorem both2_keepI {Hi H1 Hk H2 : Hp} {p : Addr} {o0 : HO} (so : isIns o0 = true) (l1 : Ex Hi H1) (l : Le (noL Hi) H1 Hk H2) (hp : Hk p = some o0) : ∀ a o, Hk a = some o → isIns o = false → both2 Hi Hk (some p) a = some o := fun a o h hn => by
  unfold both2
  cases z : Hi a with
  | some o' =>
    have h1 := l.ex a _ (l1 a _ z)
    rw [l.sub a _ h] at h1
    simp only
    exact h1.symm
  | none =>
    simp only
    rw [if_neg]
    · exact h
    · intro e
      cases e
      rw [hp] at h
      cases h
      rw [so] at hn
      cases hn
mutual
theorem Rep.dropI {K : PySem.W.Frag} {H H' : Hp} (e : ∀ a o, H a = some o → isIns o = false → H' a = some o) : ∀ {d : D} {v : V}, Rep K H d v → d.nob = true → Rep K H' d v
  | _, _, .non, _ => .non
  | _, _, .bl b, _ => .bl b
  | _, _, .int i, _ => .int i
  | _, _, .str x, _ => .str x
  | _, _, .tup h r, l => .tup (e _ _ h rfl) (Reps.dropI e r (by simpa [D.nob] using l))
  | _, _, .lst h r, l => .lst (e _ _ h rfl) (Reps.dropI e r (by simpa [D.nob] using l))
  | _, _, .scr h, _ => .scr (h.imp (fun ⟨o, q⟩ => ⟨o, e _ _ q rfl⟩) id)
  | _, _, .dic h, _ => .dic (e _ _ h rfl)
  | _, _, .ftp h c d, _ => .ftp (e _ _ h rfl) c d
  | _, _, .dkt h1 h2 r, _ => .dkt (e _ _ h1 rfl) h2 (r.mono fun b xs q => e b _ q rfl)
  | _, _, .exv0 h1 h2 h3 h4, _ => .exv0 h1 h2 h3 (e _ _ h4 rfl)
  | _, _, .exv1 h1 h2 h3 h4 h5 h6 r, l => .exv1 h1 h2 h3 h4 (e _ _ h5 rfl) (e _ _ h6 rfl) (Rep.dropI e r (by simpa [D.nob, D.nobs] using l))
  | _, _, .obj _ _ _ _, l => by simp [D.nob] at l
  | _, _, .dct h1 h2 r, l => .dct (e _ _ h1 rfl) h2 (Reps.dropI e r (by simpa [D.nob] using l))
theorem Reps.dropI {K : PySem.W.Frag} {H H' : Hp} (e : ∀ a o, H a = some o → isIns o = false → H' a = some o) : ∀ {ds : List D} {vs : List V}, Reps K H ds vs → D.nobs ds = true → Reps K H' ds vs
  | _, _, .nil, _ => .nil
  | _, _, .cons r t, l => by
    simp only [D.nobs, Bool.and_eq_true] at l
    exact .cons (Rep.dropI e r l.1) (Reps.dropI e t l.2)
end
theorem both2_ex {Hi H1 Hk H2 : Hp} (l1 : Ex Hi H1) (l : Le (noL Hi) H1 Hk H2) : Ex Hk (both2 Hi Hk none) := fun a o h => by
  unfold both2
  cases z : Hi a with
  | some o' =>
    have h1 := l.ex a _ (l1 a _ z)
    rw [l.sub a _ h] at h1
    simp only
    exact h1.symm
  | none =>
    simp only
    rw [if_neg (fun e => nomatch e)]
    exact h
theorem call_own {i : Nat} {ds : List D} {vs : List V} {Hb Hi H1 : Hp} {n : Nat} {g : List D → R D} {Dd : Ends} {W : WX} (hi : i ∈ M) (fxi : ∀ p ∈ Fx, p.1 ≠ i) {OA : Nat → List Addr} (I : SInvA OA K M Fx Hs0 H0 ρ Hs σ H)
    (e3 : ∀ Hi H', Le Hb H Hi H' → ∃ Hj, SInvA OA K M Fx Hs0 H0 ρ Hj σ H' ∧ Down cl Hi Hj) (le : Le Hb H Hi H1) (r : Reps K Hi ds vs) (hz : D.lfs ds = true) (hn : ds.length = n)
    (hp : PstS K mg M Fx Hs0 H0 (lift cl D.lfItems (g ds >>= ownRes) ρ fun d => .ok (.nx (ρ.set i (some d)))) Dd W) :
    spOf K mg n g vs H1 (fun v H' => gOf K (.nm i) v σ H' Dd.nx) (fun c d H' => W c d σ H') := by
  refine ⟨noL Hi, ds, (noL_sub Hi).trans le.sub, r.drop (noL_keep Hi) hz, hn, ?_⟩
  cases hg : g ds with
  | stuck => rw [hg] at hp; exact hp.elim
  | exc x =>
    rw [hg] at hp
    intro c d Hk H2 l2 rx
    have hp : PstS K mg M Fx Hs0 H0 (if cl || x.lf then .ok (.xc x ρ) else .stuck) Dd W := hp
    by_cases z : (cl || x.lf) = true
    · rw [if_pos z] at hp
      obtain ⟨Hj, J, dn⟩ := e3 _ _ (le.trans (both2_le (p := none) le.sub l2))
      have rx' : XRep K mg (both2 Hi Hk none) H2 x c d := by
        obtain ⟨cls, fld⟩ := x
        refine ⟨rx.1, ?_⟩
        cases fld with
        | none => exact rx.2
        | some f =>
          obtain ⟨dd, v, q1, q2, q3⟩ := rx.2
          exact ⟨dd, v, q1, both2_ex le.sub l2 _ _ q2, q3.mono (both2_ex le.sub l2)⟩
      exact hp c d Hj σ H2 ⟨OA, J⟩ (rx'.down dn z)
    · rw [if_neg z] at hp
      exact hp.elim
  | ok d =>
    rw [hg] at hp
    intro v Hk H2 l2 rv
    cases d with
    | lst xs =>
      have hp : PstS K mg M Fx Hs0 H0 (lift cl D.lfItems (if D.lfs xs then .ok (.lst xs) else .stuck) ρ fun d => .ok (.nx (ρ.set i (some d)))) Dd W := hp
      by_cases hx : D.lfs xs = true
      rotate_left
      · rw [if_neg hx] at hp
        exact hp.elim
      rw [if_pos hx] at hp
      have hp : PstS K mg M Fx Hs0 H0 (if cl || D.lfs xs then .ok (.nx (ρ.set i (some (.lst xs)))) else .stuck) Dd W := hp
      rw [hx, Bool.or_true, if_pos rfl] at hp
      obtain ⟨p, vs2, rfl, q1, q2⟩ := rv.lstI
      have hnew : H1 p = none := by
        rcases l2.new p _ q1 with w | w
        · exact absurd w noL_not
        · exact w
      have hHi : Hi p = none := by
        cases z : Hi p with
        | none => rfl
        | some o => rw [le.sub p o z] at hnew; cases hnew
      have hHp : H p = none := le.free hnew
      obtain ⟨Hj, J, dn⟩ := e3 _ _ (le.trans (both2_le (p := some p) le.sub l2))
      have hjp : Hj p = none := by
        cases z : Hj p with
        | none => rfl
        | some o =>
          have := dn.sub p o z
          unfold both2 at this
          rw [hHi] at this
          simp at this
      have r2 : Reps K Hj xs vs2 := (q2.drop (both2_keep le.sub l2 q1) hx).down dn (by rw [hx, Bool.or_true])
      exact hp _ _ _ ⟨_, J.lay hi fxi (.lst (l2.sub _ _ q1) r2) (fun a ha => by rw [List.mem_singleton.mp ha]; exact ⟨hjp, I.le.free hHp⟩) (by simp) fun a ha => by rw [List.mem_singleton.mp ha]; exact I.fresh hHp⟩
    | _ => exact hp.elim
end
theorem ok_own (cl : Bool) (i : Nat) (o : O) : SOk C cs kk M (.own cl i o) := fun X W st hX sx tk h Fx hfx Hs0 H0 => by
  rw [chkS] at h
  cases q : sAsg st with
  | none => rw [q] at h; cases h
  | some u =>
    obtain ⟨tg, e, p⟩ := u
    rw [q] at h
    have hst := sAsg_s q
    subst hst
    simp only [Bool.and_eq_true] at h
    obtain ⟨⟨⟨⟨h1, h2⟩, h3sw⟩, h4⟩, hnp⟩ := h
    have hi : i ∈ M := by simpa using h4
    have fxi : ∀ p ∈ Fx, p.1 ≠ i := fun p hp => by have := (hfx p hp).2; have := of_decide_eq_true hnp; omega
    have hg : PG X tg (gOf X.K (.nm i)) := pg_of hX.calm hX.names hX.nd rfl (fun x _ => sx.fn x) h1
    have hw : swappedStores [tg] e X.env = pure none := by
      have h1 : (match xName tg with | some x => decide (C.N[i]? = some x) && locOk X.env.scope X.env.scope x | none => false) = true := h1
      cases z : xName tg with
      | none => rw [z] at h1; cases h1
      | some x =>
        obtain ⟨px, rfl⟩ := xName_s z
        cases e <;> rfl
    have sw : noComp e = true → swapsWithSole [tg] e p.line X.env = pure false := fun h3 => sw_no h3 _ _ _
    suffices hs : ∃ te, ((noComp e = true ∧ PE X e te) ∨ PS X (.Assign [tg] e p) (tAsg te (gOf X.K (.nm i)))) ∧ ∀ Dd σ H, tS X.K X.mg W M Fx Hs0 H0 (exec (fnsOf cs) M (.own cl i o)) Dd σ H → te σ H (fun v H' => gOf X.K (.nm i) v σ H' Dd.nx) by
      obtain ⟨te, he | he, ht⟩ := hs
      · exact PS.imp (ps_asg he.2 hg (sw he.1) hw (tgt_stores h1 X.env)) ht
      · exact PS.imp he ht
    cases o with
    | disp es =>
      rw [chkO] at h2
      cases z : xLst e with
      | none => rw [z] at h2; cases h2
      | some xs =>
        rw [z] at h2
        obtain ⟨pos, rfl⟩ := xLst_s z
        simp only [Bool.and_eq_true, decide_eq_true_eq] at h2
        refine ⟨_, .inl ⟨rfl, pe_lst ((ok_Es es).args X W xs hX tk h2.2).1⟩, fun Dd σ H ⟨ρ, Hs, I, hp⟩ => ?_⟩
        rw [exec] at hp
        obtain ⟨Hb, e1, e2, _, e3⟩ := I.enter cl
        refine ⟨_, Hb, e1, e2, ?_⟩
        refine use_PG (Rel := Reps X.K) (g := fun xs => .ok (.lst xs)) e3 hp fun ds' vs Hi H' eq le r hp => ⟨?_, fun pp hn => ?_⟩
        · rw [size_eq, ← r.length, evs_len eq]
          omega
        · obtain ⟨Hj, J, dn⟩ := e3 Hi H' le
          exact fresh_own hi fxi J dn r hn hp
    | listOf a =>
      rw [chkO] at h2
      cases z : xCall e with
      | none => rw [z] at h2; cases h2
      | some w =>
        obtain ⟨x, xs⟩ := w
        rw [z] at h2
        obtain ⟨p1, pos, rfl⟩ := xCall_s z
        simp only [Bool.and_eq_true, decide_eq_true_eq] at h2
        obtain ⟨⟨⟨rfl, c1⟩, c2⟩, c3⟩ := h2
        match xs, c3 with
        | [], c3 => cases c3
        | _ :: _ :: _, c3 => cases c3
        | [y], c3 =>
        simp only [Bool.and_eq_true] at c3
        obtain ⟨g1, g2, g3⟩ := gl_of c2
        refine ⟨_, .inl ⟨rfl, pe_callTy call_list_of g1 (glob_free hX c1) (by decide +kernel) (pa_cons (ok_E a X W y hX tk c3.2).1 pa_nil (star_cons c3.1)) g3 g2 (star_cons c3.1) rfl⟩, fun Dd σ H ⟨ρ, Hs, I, hp⟩ => ?_⟩
        rw [exec] at hp
        obtain ⟨Hb, e1, e2, _, e3⟩ := I.enter cl
        refine ⟨_, Hb, e1, e2, use_PG (Rel := Rep X.K) (g := D.listOf) e3 hp fun d v Hi H' _ le r hp => ?_⟩
        obtain ⟨Hj, J, dn⟩ := e3 Hi H' le
        cases d with
        | lst xs =>
          obtain ⟨pp, vs, rfl, q1, q2⟩ := r.lstI
          exact ⟨pp, vs, rfl, .inl (SqL.of (le.sub _ _ q1)), fun l hl => fresh_own hi fxi J dn q2 hl hp⟩
        | tup xs =>
          obtain ⟨pp, vs, rfl, q1, q2⟩ := r.tupI
          exact ⟨pp, vs, rfl, .inr (SqT.of (le.sub _ _ q1)), fun l hl => fresh_own hi fxi J dn q2 hl hp⟩
        | scr ns =>
          obtain ⟨pp, rfl, q1⟩ := (r.mono le.sub).scrI
          exact ⟨pp, _, rfl, .inl q1, fun l hl => fresh_own hi fxi J dn Reps.ints hl hp⟩
        | _ => exact hp.elim
    | add a b =>
      rw [chkO] at h2
      cases z : xBin e with
      | none => rw [z] at h2; cases h2
      | some w =>
        obtain ⟨x, o, y⟩ := w
        rw [z] at h2
        obtain ⟨pos, rfl⟩ := xBin_s z
        simp only [Bool.and_eq_true, decide_eq_true_eq] at h2
        obtain ⟨⟨rfl, c1⟩, c2⟩ := h2
        refine ⟨_, .inl ⟨rfl, pe_op op_cat (ok_E a X W x hX tk c1).1 (ok_E b X W y hX tk c2).1⟩, fun Dd σ H ⟨ρ, Hs, I, hp⟩ => ?_⟩
        rw [exec] at hp
        obtain ⟨Hb, e1, e2, _, e3⟩ := I.enter cl
        refine ⟨_, Hb, e1, e2, use_PG (Rel := Rep X.K) (g := fun x => ev (fnsOf cs) b (view M cl ρ) >>= fun y => match x, y with
    | .lst xs, .lst ys => if xs.length + ys.length ≤ 16777216 then .ok (.lst (xs ++ ys)) else .stuck
    | _, _ => .stuck) e3 hp fun d v Hi H' _ le r hp => ⟨_, Hi, le.sub, e2.mono le.old, use_PG (Rel := Rep X.K) (fun Hi2 H2 l2 => e3 Hi2 H2 (le.trans l2)) hp fun d2 v2 Hi2 H2 _ le2 r2 hp2 => ?_⟩⟩
        obtain ⟨Hj, J, dn⟩ := e3 Hi2 H2 (le.trans le2)
        cases d with
        | lst xs =>
          cases d2 with
          | lst ys =>
            by_cases hz : xs.length + ys.length ≤ 16777216
            · simp only [if_pos hz] at hp2
              obtain ⟨p1, vs, rfl, q1, q2⟩ := (r.mono le2.old).lstI
              obtain ⟨p2, ws, rfl, q3, q4⟩ := r2.lstI
              exact ⟨p1, p2, vs, ws, rfl, rfl, le2.sub _ _ q1, le2.sub _ _ q3, by rw [size_eq, ← q2.length, ← q4.length]; exact hz, fun n hn => fresh_own hi fxi J dn (q2.append q4) hn hp2⟩
            · simp only [if_neg hz] at hp2
              exact hp2.elim
          | _ => exact hp2.elim
        | _ => exact hp2.elim

    | lc t2 it ifs el2 =>
      rw [chkO] at h2
      rw [chk] at h2
      cases z : xLc e with
      | none => rw [z] at h2; cases h2
      | some w =>
        obtain ⟨x, tg2, i2, fs, raw⟩ := w
        rw [z] at h2
        obtain ⟨pos2, rfl⟩ := xLc_s z
        simp only [Bool.and_eq_true, decide_eq_true_eq] at h2
        obtain ⟨⟨⟨⟨⟨⟨⟨c1, c2⟩, c3⟩, c4⟩, c5⟩, c6⟩, c7⟩, c8⟩ := h2
        obtain ⟨j1, j2⟩ := ok_It it X W tg2 i2 hX tk c2 fun a b z => by
          subst z
          cases t2 with
          | nm i => cases c3
          | tp is =>
            have h4 : (match xTup tg2 with | some es => chkNames C.N (relS raw X.env.scope) raw is es | none => false) = true := c4
            cases q3 : xTup tg2 with
            | none => rw [q3] at h4; cases h4
            | some ks =>
              obtain ⟨k, p, rfl⟩ := xTup_s q3
              exact ⟨_, _, _, rfl⟩
        have b1 : ∀ (s : Shared) (H : Hp) (C' : Addr) (cl : List (Str × Addr)) (fp : List Addr), PG (X.blk s H raw (compEnvC raw cl C' X.env) fp) tg2 (gOf X.K t2) := fun s H C' cl fp => pg_of (X := X.blk s H raw (compEnvC raw cl C' X.env) fp) hX.calm (by exact hX.names) hX.nd rfl blk_fn c4
        have b2 : ∀ (s : Shared) (H : Hp) (C' : Addr) (cl : List (Str × Addr)) (fp : List Addr), PTs (X.blk s H raw (compEnvC raw cl C' X.env) fp) fs (tDB X.K X.mg WN (evTests (fnsOf cs) ifs)) := fun s H C' cl fp => (ok_Es ifs).tests (X.blk s H raw (compEnvC raw cl C' X.env) fp) WN fs hX.blk takes0 c5
        have b3 : ∀ (s : Shared) (H : Hp) (C' : Addr) (cl : List (Str × Addr)) (fp : List Addr), PE (X.blk s H raw (compEnvC raw cl C' X.env) fp) x (tD X.K X.mg WN (ev (fnsOf cs) el2)) := fun s H C' cl fp => (ok_E el2 (X.blk s H raw (compEnvC raw cl C' X.env) fp) WN x hX.blk takes0 c6).1
        have hb : BlkOk X.N X.env.scope raw (ownOf C.N t2) := blkOk_by (by rw [hX.names]; exact c1)
        have hnd : X.N.Nodup := by rw [hX.names]; exact hX.nd
        refine ⟨tLc (iD X.K X.mg W (evIt (fnsOf cs) it)) (gOf X.K t2) (tDB X.K X.mg WN (evTests (fnsOf cs) ifs)) (tD X.K X.mg WN (ev (fnsOf cs) el2)) ((ownOf C.N t2).map (·.2)), .inr ?_, fun Dd σ H ⟨ρ, Hs, I, hp⟩ => ?_⟩
        · have h1 : (match xName tg with | some x => decide (C.N[i]? = some x) && locOk X.env.scope X.env.scope x | none => false) = true := h1
          cases z9 : xName tg with
          | none => rw [z9] at h1; cases h1
          | some y =>
            rw [z9] at h1
            obtain ⟨py, rfl⟩ := xName_s z9
            have h1 : (decide (C.N[i]? = some y) && locOk X.env.scope X.env.scope y) = true := h1
            simp only [Bool.and_eq_true, decide_eq_true_eq] at h1
            by_cases hloc : X.env.scope.names.lookup y = some .local
            · have h3 : (decide (X.env.scope.names.lookup y ≠ some .local) || (decide (X.env.scope.names.lookup y = some .local) && (py.line == pos2.line) && !(raw.names.any fun (n, k) => n == y && (k == .local || k == .cell)))) = true := h3sw
              rw [decide_eq_false (fun z => z hloc), Bool.false_or] at h3
              simp only [Bool.and_eq_true, decide_eq_true_eq, Bool.not_eq_true'] at h3
              have hsw := sw_true (elt := x) (gs := [⟨tg2, i2, fs, 0⟩]) (l := p.line) sx.kind h3.1.1 h3.1.2 h3.2
              exact ps_setLc hX.calm hnd (show X.N[i]? = some y by rw [hX.names]; exact h1.1) hloc hsw j1 hb b1 b2 b3 (folded_ok j2)
            · exact ps_asg (pe_lc hX.calm hnd j1 hb b1 b2 b3 (folded_ok j2)) hg (sw_cell hloc p.line) hw (by rfl)
        · rw [exec] at hp
          obtain ⟨OA, I⟩ := I
          obtain ⟨Hb, e1, e2, _, e3⟩ := I.enter cl
          rw [c7]
          refine lc_impF (W := W) (ρ := view M cl ρ) (Hs := Hb) c8 e1 e2 (use_PG (Rel := fun Hi ds J => Walk X.K J Hi ds) (g := fun xs => if xs.length ≤ 16777215 then (lcGo (lcF (evTests (fnsOf cs) ifs) (ev (fnsOf cs) el2) t2 (view M cl ρ)) xs >>= fun l => .ok (.lst l)) else .stuck) (fun Hi H' l => (e3 Hi H' l).imp fun Hj z => ⟨⟨OA, z.1⟩, z.2⟩) hp fun ds J Hi H' eq le wk hp' => ?_)
          by_cases hz : ds.length ≤ 16777215
          · rw [if_pos hz] at hp'
            refine ⟨ds, Hi, eq, le, wk, hz, ?_⟩
            cases zl : lcGo (lcF (evTests (fnsOf cs) ifs) (ev (fnsOf cs) el2) t2 (view M cl ρ)) ds with
            | exc x => exact absurd zl lcGo_nox
            | stuck => rw [zl] at hp'; exact hp'.elim
            | ok l =>
              rw [zl] at hp'
              intro p vs Hi2 H2 le2 f1 f2 f3 r
              have hp' : PstS X.K X.mg M Fx Hs0 H0 (if cl || D.lfs l then .ok (.nx (ρ.set i (some (.lst l)))) else .stuck) Dd W := hp'
              obtain ⟨Hj, J2, dn⟩ := e3 Hi2 H2 (le.trans le2)
              have hHp : H p = none := le.free f2
              by_cases zc : (cl || D.lfs l) = true
              · rw [if_pos zc] at hp'
                have hjp : Hj p = none := by
                  cases zz : Hj p with
                  | none => rfl
                  | some o => rw [dn.sub p o zz] at f1; cases f1
                exact hp' _ _ _ ⟨_, J2.lay hi fxi (.lst f3 (r.down dn zc)) (fun a ha => by rw [List.mem_singleton.mp ha]; exact ⟨hjp, I.le.free hHp⟩) (by simp) fun a ha => by rw [List.mem_singleton.mp ha]; exact I.fresh hHp⟩
              · rw [if_neg zc] at hp'
                exact hp'.elim
          · rw [if_neg hz] at hp'
            exact hp'.elim
    | call k es =>
      rw [chkO, Bool.and_eq_true, chk] at h2
      obtain ⟨h2, hnc⟩ := h2
      cases q9 : xCall e with
      | none => rw [q9] at h2; cases h2
      | some t =>
        obtain ⟨x, xs⟩ := t
        rw [q9] at h2
        obtain ⟨p9, pos9, rfl⟩ := xCall_s q9
        simp only [Bool.and_eq_true, decide_eq_true_eq] at h2
        obtain ⟨⟨⟨⟨c1, c0⟩, c2⟩, c3⟩, c4⟩ := h2
        rw [hX.cn, List.getElem?_map] at c1
        rw [hX.km, List.getElem?_map] at c0
        cases q2 : cs[k]? with
        | none => rw [q2] at c1; cases c1
        | some cal =>
          rw [q2] at c1 c0
          have c1 : some (cal.name, cal.ps.length) = some (x, es.len) := c1
          have c0 : some (cal.cls, cal.own) = some ([], []) := c0
          simp only [Option.some.injEq, Prod.mk.injEq] at c1 c0
          obtain ⟨rfl, h5⟩ := c1
          obtain ⟨a1, a2, a3, _⟩ := (ok_Es es).args X W xs hX tk c4
          cases xs with
          | nil => exact absurd a3.symm c2
          | cons y ys =>
            obtain ⟨g1, g2, g3⟩ := gl_of c3
            have F := hX.fns cal (List.mem_of_getElem? q2)
            refine ⟨_, .inl ⟨rfl, pe_callS (F.fn c0.2) hX.room g1 (F.gl c0.1) F.kp F.bd (fun σ => passAt tk σ) a1 g2 (star_cons (a2 y (by simp))) (star_any fun x hx => a2 x (by simp [hx]))⟩, fun Dd σ H ⟨ρ, Hs, I, hp⟩ => ?_⟩
            rw [exec] at hp
            obtain ⟨OA, I⟩ := I
            obtain ⟨Hb, e1, e2, _, e3⟩ := I.enter cl
            refine ⟨_, Hb, e1, e2, use_PG (Rel := Reps X.K) (g := fun xs => if D.lfs xs then (match (fnsOf cs)[k]? with
      | some (n, g) => if xs.length = n then g xs >>= ownRes else .stuck
      | none => .stuck) else .stuck) (fun Hi H' l => (e3 Hi H' l).imp fun Hj z => ⟨⟨OA, z.1⟩, z.2⟩) hp fun ds vs Hi H1 _ le r hp => ?_⟩
            by_cases hz : D.lfs ds = true
            rotate_left
            · rw [if_neg hz] at hp
              exact hp.elim
            rw [if_pos hz] at hp
            have eg : (fnsOf cs)[k]? = some (cal.ps.length, cal.g) := by
              unfold fnsOf
              rw [List.getElem?_map, q2]
              rfl
            rw [eg] at hp
            simp only at hp
            by_cases hn : ds.length = cal.ps.length
            rotate_left
            · rw [if_neg hn] at hp
              exact hp.elim
            rw [if_pos hn] at hp
            exact call_own hi fxi I e3 le r hz hn hp
    | lrange1 a =>
      rw [chkO, Bool.and_eq_true, chk] at h2
      obtain ⟨h2, hnc⟩ := h2
      cases q9 : xCall e with
      | none => rw [q9] at h2; cases h2
      | some u =>
        obtain ⟨x, xs⟩ := u
        rw [q9] at h2
        obtain ⟨p9, pos9, rfl⟩ := xCall_s q9
        simp only [Bool.and_eq_true, decide_eq_true_eq] at h2
        obtain ⟨⟨⟨rfl, c1⟩, c2⟩, c3⟩ := h2
        match xs, c3 with
        | [], c3 => cases c3
        | _ :: _ :: _, c3 => cases c3
        | [y], c3 =>
          cases q2 : xCall y with
          | none => simp only [q2] at c3; cases c3
          | some u =>
            obtain ⟨x2, ys⟩ := u
            simp only [q2, Bool.and_eq_true, decide_eq_true_eq] at c3
            obtain ⟨p2, pos2, rfl⟩ := xCall_s q2
            obtain ⟨⟨⟨rfl, h4'⟩, h5⟩, h6⟩ := c3
            match ys, h6 with
            | [], h6 => cases h6
            | _ :: _ :: _, h6 => cases h6
            | [z], h6 =>
              simp only [Bool.and_eq_true] at h6
              obtain ⟨g1, g2, g3⟩ := gl_of h5
              obtain ⟨k1, k2, k3⟩ := gl_of c2
              refine ⟨_, .inl ⟨rfl, pe_listRg hX.calm k1 (glob_free hX c1) (prg_1 g1 (glob_free hX h4') (ok_E a X W z hX tk h6.2).1 (star_cons h6.1))⟩, fun Dd σ H ⟨ρ, Hs, I, hp⟩ => ?_⟩
              rw [exec] at hp
              obtain ⟨Hb, e1, e2, _, e3⟩ := I.enter cl
              refine ⟨_, Hb, e1, e2, use_PG (Rel := Rep X.K) (g := fun x => D.rangeOf [x] >>= fun l => if l.length ≤ 16777216 then .ok (.lst l) else .stuck) e3 hp fun d v Hi H' _ le r hp => ?_⟩
              cases d with
              | int n =>
                have hp : PstS X.K X.mg M Fx Hs0 H0 (lift cl D.lfItems (rangeD 0 n >>= fun l => if l.length ≤ 16777216 then .ok (.lst l) else .stuck) ρ fun d => .ok (.nx (ρ.set i (some d)))) Dd W := hp
                rcases rangeD_cases 0 n with ⟨l2, q⟩ | q
                · rw [q] at hp
                  obtain ⟨⟨b1, b2, b3, b4⟩, rfl⟩ := rng_items q
                  simp only [R.bind_ok] at hp
                  split at hp
                  · refine ⟨n, r.intI, ⟨b1, b2, b3, b4, ?_⟩, fun t hn => ?_⟩
                    · have : ((List.range (n - 0).toNat).map fun i => D.int (0 + (i : Nat))).length ≤ 16777216 := by assumption
                      simpa using this
                    · obtain ⟨Hj, J, dn⟩ := e3 Hi H' le
                      exact fresh_own hi fxi J dn (rgV_rep 0 n) hn hp
                  · exact hp.elim
                · rw [q] at hp
                  exact hp.elim
              | _ => exact hp.elim
theorem haveL_s {i : Nat} {ρ : Env} {k : R Fl} {K : PySem.W.Frag} {mg : Str → Option Value} {Hs0 H0 : Hp} {Dd : Ends} {W : WX} (h : PstS K mg M Fx Hs0 H0 (haveL i ρ k) Dd W) : ∃ xs, ρ[i]? = some (some (.lst xs)) ∧ PstS K mg M Fx Hs0 H0 k Dd W := by
  unfold haveL at h
  split at h
  · exact ⟨_, by assumption, h⟩
  · exact h.elim
theorem vis_of {sc : Scope} {x : Str} (hv : visOk sc x = true) : Vis sc x ∧ (x == ("__debug__" : Str)) = false ∧ (x == ("__classdict__" : Str)) = false := by
  unfold visOk at hv
  simp only [Bool.and_eq_true, Bool.not_eq_true'] at hv
  obtain ⟨⟨h1, h2⟩, h3⟩ := hv
  refine ⟨?_, h2, h3⟩
  unfold Vis
  split at h1 <;> first | (exact .inl (by assumption)) | (exact .inr (.inl (by assumption))) | (exact .inr (.inr (by assumption))) | cases h1
/-- x.m(y): its parts -/
theorem chkM_s {X : Cx} {W : WX} {m : Str} {i : Nat} {a : E} {e : Expr} (hX : XOk X C cs kk) (tk : Takes X W) (h : chkM C X.env.scope m i a e = true) : ∃ x px ap cp y, e = .Call (.Attribute (.Name x px) m ap) [y] [] cp ∧ (ap.endLine == cp.line) = true ∧ PE X (.Name x px) (tVar i) ∧ SE X W y (ev (fnsOf cs) a) ∧ plain y = true := by
  unfold chkM at h
  cases z : xMeth e with
  | none => rw [z] at h; cases h
  | some w =>
    obtain ⟨o, n, xs, l⟩ := w
    rw [z] at h
    obtain ⟨ap, cp, rfl, hl⟩ := xMeth_s z
    simp only [Bool.and_eq_true, decide_eq_true_eq] at h
    obtain ⟨⟨⟨rfl, h1⟩, h2⟩, h3⟩ := h
    cases z2 : xName o with
    | none => rw [z2] at h2; cases h2
    | some x =>
      rw [z2] at h2
      obtain ⟨px, rfl⟩ := xName_s z2
      simp only [Bool.and_eq_true, decide_eq_true_eq] at h2
      obtain ⟨v1, v2, v3⟩ := vis_of h2.2
      match xs, h3 with
      | [], h3 => cases h3
      | _ :: _ :: _, h3 => cases h3
      | [y], h3 =>
        simp only [Bool.and_eq_true] at h3
        exact ⟨x, px, ap, cp, y, rfl, hl ▸ h1, pe_var (by rw [hX.names]; exact h2.1) v1 v2 v3, (ok_E a X W y hX tk h3.2).1, h3.1⟩
theorem star_one {y : Expr} {env : PySem.Env} (h : plain y = true) : starEach [y] env = (false, eval y env) :: starEach [] env := star_cons h
theorem few1 {y : Expr} {env : PySem.Env} {cp : Pos} (h : plain y = true) : ((backTo cp (starEach [y] env)).all (fun x => !x.1) && (backToKw cp (keywordEach [] env)).all (fun x => x.1.isSome)
      && decide ([y].length + ([] : List Keyword).length + (if ([] : List Keyword).isEmpty then 0 else 1) < 30)) = true := by
  rw [star_one h]
  rfl
theorem ok_app (cl : Bool) (i : Nat) (a : E) : SOk C cs kk M (.app cl i a) := fun X W st hX sx tk h Fx hfx Hs0 H0 => by
  rw [chkS] at h
  cases q : sExp st with
  | none => rw [q] at h; cases h
  | some u =>
    obtain ⟨e, p⟩ := u
    rw [q] at h
    have hst := sExp_s q
    subst hst
    simp only [Bool.and_eq_true] at h
    have hi : i ∈ M := by simpa using h.1
    obtain ⟨x, px, ap, cp, y, rfl, hl, ho, hy, hpl⟩ := chkM_s hX tk h.2
    refine PS.imp (ps_expr (pe_bm PySem.F.plainAttrs_list PySem.F.slot_list_append PySem.F.type_list_append mt_append ho (pa_cons hy pa_nil (star_cons hpl)) rfl (few1 hpl) hl (star_cons hpl) rfl)) fun Dd σ H ⟨ρ, Hs, I, hp⟩ => ?_
    rw [exec] at hp
    obtain ⟨xs, q0, hp⟩ := haveL_s hp
    obtain ⟨p, xs', vs, e, q1, b, c, f, g⟩ := I.own i _ hi q0
    refine ⟨.ref p, q1, .inl ⟨rfl, vs, SqL.of f⟩, use_D I hp fun d v Hj H' J r hp => ?_⟩
    obtain ⟨p2, xs2, vs2, e2, q2, b2, c2, f2, g2⟩ := J.own i _ hi q0
    rw [q1] at q2
    cases q2
    cases e2
    unfold appD at hp
    simp only [q0] at hp
    by_cases hz : xs.length < 16777216
    · rw [if_pos hz] at hp
      exact ⟨p, vs2, v, rfl, rfl, f2, by rw [size_eq, ← g2.length]; exact hz, hp _ _ _ (J.change hi q0 q1 (g2.append (.cons r .nil)))⟩
    · rw [if_neg hz] at hp
      exact hp.elim
theorem chkM0_s {X : Cx} {m : Str} {i : Nat} {e : Expr} (hX : XOk X C cs kk) (h : chkM0 C X.env.scope m i e = true) : ∃ x px ap cp, e = .Call (.Attribute (.Name x px) m ap) [] [] cp ∧ (ap.endLine == cp.line) = true ∧ PE X (.Name x px) (tVar i) := by
  unfold chkM0 at h
  cases z : xMeth e with
  | none => rw [z] at h; cases h
  | some w =>
    obtain ⟨o, n, xs, l⟩ := w
    rw [z] at h
    obtain ⟨ap, cp, rfl, hl⟩ := xMeth_s z
    simp only [Bool.and_eq_true, decide_eq_true_eq] at h
    obtain ⟨⟨⟨rfl, h1⟩, h2⟩, h3⟩ := h
    cases z2 : xName o with
    | none => rw [z2] at h2; cases h2
    | some x =>
      rw [z2] at h2
      obtain ⟨px, rfl⟩ := xName_s z2
      simp only [Bool.and_eq_true, decide_eq_true_eq] at h2
      obtain ⟨v1, v2, v3⟩ := vis_of h2.2
      cases xs with
      | nil => exact ⟨x, px, ap, cp, rfl, hl ▸ h1, pe_var (by rw [hX.names]; exact h2.1) v1 v2 v3⟩
      | cons _ _ => cases h3
theorem ok_clr (i : Nat) : SOk C cs kk M (.clr i) := fun X W st hX sx tk h Fx hfx Hs0 H0 => by
  rw [chkS] at h
  cases q : sExp st with
  | none => rw [q] at h; cases h
  | some u =>
    obtain ⟨e, p⟩ := u
    rw [q] at h
    have hst := sExp_s q
    subst hst
    simp only [Bool.and_eq_true] at h
    have hi : i ∈ M := by simpa using h.1
    obtain ⟨x, px, ap, cp, rfl, hl, ho⟩ := chkM0_s hX h.2
    refine PS.imp (ps_expr (pe_bm0 PySem.F.plainAttrs_list PySem.F.slot_list_clear PySem.F.type_list_clear mt_clear ho rfl hl)) fun Dd σ H ⟨ρ, Hs, I, hp⟩ => ?_
    rw [exec] at hp
    obtain ⟨xs, q0, hp⟩ := haveL_s hp
    obtain ⟨p, xs', vs, e, q1, b, c, f, g⟩ := I.own i _ hi q0
    exact ⟨.ref p, q1, .inl ⟨rfl, vs, SqL.of f⟩, p, vs, rfl, rfl, f, hp _ _ _ (I.change hi q0 q1 .nil)⟩
theorem ok_pop (i : Nat) : SOk C cs kk M (.pop i) := fun X W st hX sx tk h Fx hfx Hs0 H0 => by
  rw [chkS] at h
  cases q : sExp st with
  | none => rw [q] at h; cases h
  | some u =>
    obtain ⟨e, p⟩ := u
    rw [q] at h
    have hst := sExp_s q
    subst hst
    simp only [Bool.and_eq_true] at h
    have hi : i ∈ M := by simpa using h.1
    obtain ⟨x, px, ap, cp, rfl, hl, ho⟩ := chkM0_s hX h.2
    refine PS.imp (ps_expr (pe_bm0 PySem.F.plainAttrs_list PySem.F.slot_list_pop PySem.F.type_list_pop mt_pop ho rfl hl)) fun Dd σ H ⟨ρ, Hs, I, hp⟩ => ?_
    rw [exec] at hp
    unfold popD at hp
    split at hp
    · rename_i xs q0
      obtain ⟨p, xs', vs, e, q1, b, c, f, g⟩ := I.own i _ hi q0
      cases e
      by_cases hz : xs.isEmpty = true
      · rw [if_pos hz] at hp
        exact hp.elim
      · rw [if_neg hz] at hp
        have hl0 : 0 < vs.length := by
          rw [← g.length]
          cases xs with
          | nil => exact absurd rfl hz
          | cons a l => simp
        have gd : Reps X.K Hs xs.dropLast vs.dropLast := by
          rw [List.dropLast_eq_take, List.dropLast_eq_take, g.length]
          exact g.take _
        exact ⟨.ref p, q1, .inl ⟨rfl, vs, SqL.of f⟩, p, vs, vs[vs.length - 1], rfl, rfl, f, List.getElem?_eq_getElem (by omega), hp _ _ _ (I.change hi q0 q1 gd)⟩
    · exact hp.elim
theorem R.bind_id {α : Type} (r : R α) : (r >>= fun d => R.ok d) = r := by cases r <;> rfl
theorem ok_ext (cl : Bool) (i : Nat) (a : E) : SOk C cs kk M (.ext cl i a) := fun X W st hX sx tk h Fx hfx Hs0 H0 => by
  rw [chkS] at h
  cases q : sExp st with
  | none => rw [q] at h; cases h
  | some u =>
    obtain ⟨e, p⟩ := u
    rw [q] at h
    have hst := sExp_s q
    subst hst
    simp only [Bool.and_eq_true] at h
    have hi : i ∈ M := by simpa using h.1
    obtain ⟨x, px, ap, cp, y, rfl, hl, ho, hy, hpl⟩ := chkM_s hX tk h.2
    refine PS.imp (ps_expr (pe_bm PySem.F.plainAttrs_list PySem.F.slot_list_extend PySem.F.type_list_extend mt_extend ho (pa_cons hy pa_nil (star_cons hpl)) rfl (few1 hpl) hl (star_cons hpl) rfl)) fun Dd σ H ⟨ρ, Hs, I, hp⟩ => ?_
    rw [exec] at hp
    obtain ⟨xs, q0, hp⟩ := haveL_s hp
    obtain ⟨p, xs', vs, e, q1, b, c, f, g⟩ := I.own i _ hi q0
    obtain ⟨Hb, e1, e2, _, e3⟩ := I.enter cl
    rw [← R.bind_id (ev (fnsOf cs) a (view M cl ρ))] at hp
    refine ⟨.ref p, q1, .inl ⟨rfl, vs, SqL.of f⟩, _, Hb, e1, e2, use_PG (Rel := Rep X.K) (g := fun d => .ok d) e3 hp fun d v Hi H' _ le r hp => ?_⟩
    obtain ⟨Hj, J, dn⟩ := e3 Hi H' le
    obtain ⟨p2, xs2, vs2, e2, q2, b2, c2, f2, g2⟩ := J.own i _ hi q0
    rw [q1] at q2
    cases q2
    cases e2
    cases d with
    | lst ys =>
      have hp : PstS X.K X.mg M Fx Hs0 H0 (if cl || D.lfs ys then extD i (.lst ys) ρ else .stuck) Dd W := hp
      by_cases z : (cl || D.lfs ys) = true
      · rw [if_pos z] at hp
        unfold extD at hp
        simp only [q0] at hp
        by_cases hz : xs.length + ys.length ≤ 16777216
        · rw [if_pos hz] at hp
          obtain ⟨p3, ws, rfl, w1, w2⟩ := r.lstI
          exact ⟨p, p3, vs2, ws, rfl, rfl, f2, le.sub _ _ w1, by rw [size_eq, ← g2.length, ← w2.length]; exact hz, hp _ _ _ (J.change hi q0 q1 (g2.append (w2.down dn z)))⟩
        · rw [if_neg hz] at hp
          exact hp.elim
      · rw [if_neg z] at hp
        exact hp.elim
    | _ =>
      have hp : PstS X.K X.mg M Fx Hs0 H0 (if cl || false then extD i _ ρ else .stuck) Dd W := hp
      cases cl with
      | true =>
        have hp : PstS X.K X.mg M Fx Hs0 H0 (extD i _ ρ) Dd W := hp
        unfold extD at hp
        simp only [q0] at hp
        exact hp.elim
      | false => exact hp.elim
theorem ok_grw (i : Nat) (a : E) : SOk C cs kk M (.grw i a) := fun X W st hX sx tk h Fx hfx Hs0 H0 => by
  rw [chkS] at h
  cases q : sAsg st with
  | none => rw [q] at h; cases h
  | some u =>
    obtain ⟨tg, e, p⟩ := u
    rw [q] at h
    have hst := sAsg_s q
    subst hst
    simp only [Bool.and_eq_true] at h
    obtain ⟨⟨⟨⟨h1, h3sw⟩, h4⟩, h5⟩, hnp⟩ := h
    have hi : i ∈ M := by simpa using h4
    have fxi : ∀ p ∈ Fx, p.1 ≠ i := fun p hp => by have := (hfx p hp).2; have := of_decide_eq_true hnp; omega
    have hg : PG X tg (gOf X.K (.nm i)) := pg_of hX.calm hX.names hX.nd rfl (fun x _ => sx.fn x) h1
    have hw : swappedStores [tg] e X.env = pure none := by
      have h1 : (match xName tg with | some x => decide (C.N[i]? = some x) && locOk X.env.scope X.env.scope x | none => false) = true := h1
      cases z : xName tg with
      | none => rw [z] at h1; cases h1
      | some x =>
        obtain ⟨px, rfl⟩ := xName_s z
        cases e <;> rfl
    have sw : noComp e = true → swapsWithSole [tg] e p.line X.env = pure false := fun h3 => sw_no h3 _ _ _
    cases z : xBin e with
    | none => rw [z] at h5; cases h5
    | some w =>
      obtain ⟨x, o, y⟩ := w
      rw [z] at h5
      obtain ⟨pos, rfl⟩ := xBin_s z
      simp only [Bool.and_eq_true, decide_eq_true_eq] at h5
      obtain ⟨⟨rfl, c1⟩, c2⟩ := h5
      cases z2 : xName x with
      | none => rw [z2] at c1; cases c1
      | some n =>
        rw [z2] at c1
        obtain ⟨px, rfl⟩ := xName_s z2
        simp only [Bool.and_eq_true, decide_eq_true_eq] at c1
        obtain ⟨v1, v2, v3⟩ := vis_of c1.2
        have ho : PE X (.Name n px) (tVar i) := pe_var (by rw [hX.names]; exact c1.1) v1 v2 v3
        refine PS.imp (ps_asg (pe_op op_cat ho (ok_E a X W y hX tk c2).1) hg (sw rfl) hw (tgt_stores h1 X.env)) fun Dd σ H ⟨ρ, Hs, I, hp⟩ => ?_
        rw [exec] at hp
        obtain ⟨xs, q0, hp⟩ := haveL_s hp
        obtain ⟨p1, xs', vs, e, q1, b, c, f, g⟩ := I.own i _ hi q0
        refine ⟨.ref p1, q1, use_D I hp fun d v Hj H' J r hp => ?_⟩
        obtain ⟨p2, xs2, vs2, e2, q2, b2, c2, f2, g2⟩ := J.own i _ hi q0
        rw [q1] at q2
        cases q2
        cases e2
        cases d with
        | lst ys =>
          have hp : PstS X.K X.mg M Fx Hs0 H0 (extD i (.lst ys) ρ) Dd W := hp
          unfold extD at hp
          simp only [q0] at hp
          by_cases hz : xs.length + ys.length ≤ 16777216
          · rw [if_pos hz] at hp
            obtain ⟨p3, ws, rfl, w1, w2⟩ := r.lstI
            refine ⟨p1, p3, vs2, ws, rfl, rfl, f2, J.le.sub _ _ w1, by rw [size_eq, ← g2.length, ← w2.length]; exact hz, fun n hn => ?_⟩
            obtain ⟨OA, J⟩ := J
            have J2 := J.step (Le.new0 (o := .lst (vs2 ++ ws)) J.le.sub hn)
            exact hp _ _ _ ⟨_, J2.lay hi fxi (.lst upd_same (g2.append w2)) (fun a ha => by rw [List.mem_singleton.mp ha]; exact ⟨fresh_s J.le.sub hn, J.le.free hn⟩) (by simp) fun a ha => by rw [List.mem_singleton.mp ha]; exact J.fresh hn⟩
          · rw [if_neg hz] at hp
            exact hp.elim
        | _ =>
          have hp : PstS X.K X.mg M Fx Hs0 H0 (extD i _ ρ) Dd W := hp
          unfold extD at hp
          simp only [q0] at hp
          exact hp.elim
theorem ok_put (cl : Bool) (i : Nat) (j a : E) : SOk C cs kk M (.put cl i j a) := fun X W st hX sx tk h Fx hfx Hs0 H0 => by
  rw [chkS] at h
  cases q : sAsg st with
  | none => rw [q] at h; cases h
  | some u =>
    obtain ⟨tg, e, p⟩ := u
    rw [q] at h
    have hst := sAsg_s q
    subst hst
    simp only [Bool.and_eq_true] at h
    obtain ⟨⟨h1, h2⟩, h3⟩ := h
    have hi : i ∈ M := by simpa using h1
    cases z : xSub tg with
    | none => rw [z] at h3; cases h3
    | some w =>
      obtain ⟨o, k⟩ := w
      rw [z] at h3
      obtain ⟨ps, rfl⟩ := xSub_s z
      simp only [Bool.and_eq_true] at h3
      obtain ⟨⟨h4, h5⟩, h6⟩ := h3
      cases z2 : xName o with
      | none => rw [z2] at h5; cases h5
      | some x =>
        rw [z2] at h5
        obtain ⟨px, rfl⟩ := xName_s z2
        simp only [Bool.and_eq_true, decide_eq_true_eq] at h5
        obtain ⟨v1, v2, v3⟩ := vis_of h5.2
        have ho : PE X (.Name x px) (tVar i) := pe_var (by rw [hX.names]; exact h5.1) v1 v2 v3
        refine PS.imp (ps_asg (ok_E a X W e hX tk h2).1 (pg_sub ho (ok_E j X W k hX tk h6).1 set_list (by intro _; cases k <;> first | rfl | cases h4)) (sw_sub (a := .Name x px) (b := k) (p := ps) p.line X.env) (swst_sub (a := .Name x px) (b := k) (p := ps) X.env) rfl) fun Dd σ H ⟨ρ, Hs, I, hp⟩ => ?_
        rw [exec] at hp
        obtain ⟨xs, q0, hp⟩ := haveL_s hp
        refine use_D I hp fun d v Hj H' J r hp => ?_
        obtain ⟨p1, xs1, vs1, e1, q1, b1, c1, f1, g1⟩ := J.own i _ hi q0
        refine ⟨.ref p1, q1, use_D J.rebase (hp.base J.le) fun d2 v2 Hj2 H2 J2 r2 hp2 => ?_⟩
        obtain ⟨p2, xs2, vs2, e2, q2, b2, c2, f2, g2⟩ := J2.own i _ hi q0
        rw [q1] at q2
        cases q2
        cases e2
        unfold putD at hp2
        simp only [q0] at hp2
        cases d2 with
        | int n =>
          simp only [] at hp2
          cases zz : ixN xs.length n with
          | none => rw [zz] at hp2; exact hp2.elim
          | some m =>
            rw [zz] at hp2
            exact ⟨p1, vs2, n, m, rfl, r2.intI, f2, by rw [← g2.length]; exact zz, hp2 _ _ _ (J2.change hi q0 q1 (Reps.set (r.mono J2.le.old) m g2))⟩
        | _ => exact hp2.elim
theorem ok_ex (a : E) : SOk C cs kk M (.ex a) := fun X W st hX sx tk h Fx hfx Hs0 H0 => by
  rw [chkS] at h
  cases q : sExp st with
  | none => rw [q] at h; cases h
  | some u =>
    obtain ⟨e, p⟩ := u
    rw [q] at h
    have hst := sExp_s q
    subst hst
    simp only [Bool.and_eq_true] at h
    refine PS.imp (ps_expr (ok_E a X W e hX tk h.1).1 (sw_no h.2 _ _ _)) fun Dd σ H ⟨ρ, Hs, I, hp⟩ => ?_
    rw [exec] at hp
    exact use_R I hp fun d v Hi Hj H' J _ _ hp => hp _ _ _ J
theorem ok_ite {c : E} {a b : Ss} (ha : SsOk C cs kk M a) (hb : SsOk C cs kk M b) : SOk C cs kk M (.ite c a b) := fun X W st hX sx tk h Fx hfx Hs0 H0 => by
  rw [chkS] at h
  cases q : sIf st with
  | none => rw [q] at h; cases h
  | some u =>
    obtain ⟨e, pa, pb⟩ := u
    rw [q] at h
    obtain ⟨pos, rfl⟩ := sIf_s q
    simp only [Bool.and_eq_true] at h
    obtain ⟨⟨h1, h2⟩, h3⟩ := h
    refine PS.imp (ps_if (ok_E c X W e hX tk h1).2 (ha X W pa hX sx tk h2 Fx hfx Hs0 H0) (hb X W pb hX sx tk h3 Fx hfx Hs0 H0)) fun Dd σ H ⟨ρ, Hs, I, hp⟩ => ?_
    rw [exec] at hp
    refine use_B (f := tst (fnsOf cs) c) I hp fun k Hj H' J hp => ?_
    cases k with
    | true => exact iteT ⟨ρ, Hj, J, hp⟩
    | false => exact iteF ⟨ρ, Hj, J, hp⟩
theorem ok_ret (a : E) : SOk C cs kk M (.ret a) := fun X W st hX sx tk h Fx hfx Hs0 H0 => by
  rw [chkS] at h
  cases q : sRet st with
  | none => rw [q] at h; cases h
  | some u =>
    cases u with
    | none => rw [q] at h; cases h
    | some e =>
      rw [q] at h
      obtain ⟨pos, rfl⟩ := sRet_s q
      refine PS.imp (ps_ret (ok_E a X W e hX tk h).1) fun Dd σ H ⟨ρ, Hs, I, hp⟩ => ?_
      rw [exec] at hp
      exact use_R I hp fun d v Hi Hj H' J l r hp => hp _ _ _ l r
theorem ok_retN : SOk C cs kk M .retN := fun X W st hX sx tk h Fx hfx Hs0 H0 => by
  rw [chkS] at h
  cases q : sRet st with
  | none => rw [q] at h; cases h
  | some u =>
    cases u with
    | some e => rw [q] at h; cases h
    | none =>
      obtain ⟨pos, rfl⟩ := sRet_s q
      refine PS.imp ps_retN fun Dd σ H ⟨ρ, Hs, I, hp⟩ => ?_
      rw [exec] at hp
      exact hp _ _ _ I.le .non
theorem ok_pass : SOk C cs kk M .pass := fun X W st hX sx tk h Fx hfx Hs0 H0 => by
  rw [chkS] at h
  obtain ⟨pos, rfl⟩ := sPass_s h
  refine PS.imp ps_pass fun Dd σ H ⟨ρ, Hs, I, hp⟩ => ?_
  rw [exec] at hp
  exact hp _ _ _ I
theorem ok_brk : SOk C cs kk M .brk := fun X W st hX sx tk h Fx hfx Hs0 H0 => by
  rw [chkS] at h
  obtain ⟨pos, rfl⟩ := sBrk_s h
  refine PS.imp ps_break fun Dd σ H ⟨ρ, Hs, I, hp⟩ => ?_
  rw [exec] at hp
  exact hp _ _ _ I
theorem ok_cont : SOk C cs kk M .cont := fun X W st hX sx tk h Fx hfx Hs0 H0 => by
  rw [chkS] at h
  obtain ⟨pos, rfl⟩ := sCnt_s h
  refine PS.imp ps_continue fun Dd σ H ⟨ρ, Hs, I, hp⟩ => ?_
  rw [exec] at hp
  exact hp _ _ _ I
theorem ok_nev : SOk C cs kk M .nev := fun X W st hX sx tk h Fx hfx Hs0 H0 => by
  refine PS.imp ps_never fun Dd σ H ⟨ρ, Hs, I, hp⟩ => ?_
  rw [exec] at hp
  exact hp
theorem ok_whl (n : Nat) {c : E} {b : Ss} (hb : SsOk C cs kk M b) : SOk C cs kk M (.whl n c b) := fun X W st hX sx tk h Fx hfx Hs0 H0 => by
  rw [chkS] at h
  cases q : sWhl st with
  | none => rw [q] at h; cases h
  | some u =>
    obtain ⟨e, p⟩ := u
    rw [q] at h
    obtain ⟨pos, rfl⟩ := sWhl_s q
    simp only [Bool.and_eq_true] at h
    refine PS.imp (ps_while sx.pas (ok_E c X W e hX tk h.1).2 (hb X W p hX sx tk h.2 Fx hfx Hs0 H0)) fun Dd σ H ⟨ρ, Hs, I, hp⟩ => ?_
    rw [exec] at hp
    refine ⟨fun m σ H => ∃ ρ Hs, SInv X.K M Fx Hs0 H0 ρ Hs σ H ∧ PstS X.K X.mg M Fx Hs0 H0 (whileN (fun ρ => tst (fnsOf cs) c (view M false ρ)) (execs (fnsOf cs) M b) m ρ) Dd W, ⟨n, ρ, Hs, I, hp⟩, ?_⟩
    rintro m σ1 H1 ⟨ρ1, Hs1, I1, hp1⟩
    cases m with
    | zero => exact hp1.elim
    | succ m =>
      rw [whileN] at hp1
      refine use_B (f := tst (fnsOf cs) c) I1 hp1 fun k Hj H' J hp => ?_
      cases k with
      | false => exact iteF (hp _ _ _ J)
      | true =>
        refine iteT ⟨fun σ' H' => ∃ ρ Hs, SInv X.K M Fx Hs0 H0 ρ Hs σ' H' ∧ PstS X.K X.mg M Fx Hs0 H0 (whileN (fun ρ => tst (fnsOf cs) c (view M false ρ)) (execs (fnsOf cs) M b) m ρ) Dd W, fun σ' H' hN => ⟨m, by omega, hN⟩, ρ1, Hj, J, ?_⟩
        simp only [if_true] at hp
        cases z : execs (fnsOf cs) M b ρ1 with
        | ok f =>
          rw [z] at hp
          cases f with
          | nx ρ2 => exact fun Hs σ H I => ⟨ρ2, Hs, I, hp⟩
          | ct ρ2 => exact fun Hs σ H I => ⟨ρ2, Hs, I, hp⟩
          | bk ρ2 => exact hp
          | rt d => exact hp
          | rto d ρ2 => exact hp
          | xc x ρ2 => exact hp
        | exc x => rw [z] at hp; exact hp.elim
        | stuck => rw [z] at hp; exact hp.elim
theorem oks_nilS : SsOk C cs kk M .nil := fun X W sts hX sx tk h Fx hfx Hs0 H0 => by
  rw [chkSs] at h
  have e : sts = [] := by simpa using h
  subst e
  refine PSs.imp pss_nil fun Dd σ H ⟨ρ, Hs, I, hp⟩ => ?_
  rw [execs] at hp
  exact hp _ _ _ I
theorem oks_consS {s : S} {ss : Ss} (hs : SOk C cs kk M s) (hss : SsOk C cs kk M ss) : SsOk C cs kk M (.cons s ss) := fun X W sts hX sx tk h Fx hfx Hs0 H0 => by
  cases sts with
  | nil => rw [chkSs] at h; cases h
  | cons st sts =>
    rw [chkSs] at h
    simp only [Bool.and_eq_true] at h
    refine PSs.imp (pss_cons (hs X W st hX sx tk h.1 Fx hfx Hs0 H0) (hss X W sts hX sx tk h.2 Fx hfx Hs0 H0)) fun Dd σ H ⟨ρ, Hs, I, hp⟩ => ?_
    rw [execs] at hp
    refine ⟨ρ, Hs, I, ?_⟩
    cases z : exec (fnsOf cs) M s ρ with
    | ok f =>
      rw [z] at hp
      cases f with
      | nx ρ2 => exact fun Hs σ H I => ⟨ρ2, Hs, I, hp⟩
      | ct ρ2 => exact hp
      | bk ρ2 => exact hp
      | rt d => exact hp
      | rto d ρ2 => exact hp
      | xc x ρ2 => exact hp
    | exc x => rw [z] at hp; exact hp.elim
    | stuck => rw [z] at hp; exact hp.elim
end
end Py

namespace Py
open PySem PySem.Spec PyProof.Rows L2
variable {Fx : List (Nat × V)}
section
variable {α β γ δ : Type} {K : PySem.W.Frag} {mg : Str → Option Value} {W : WX} {M : List Nat} {Hs0 H0 Hs H Hi H' : Hp} {ρ ρ' : Env} {σ : L2.St} {OA : Nat → List Addr}
def PstME (Rel : Hp → α → β → Prop) (K : PySem.W.Frag) (mg : Str → Option Value) (W : WX) (M : List Nat) (Fx : List (Nat × V)) (Hs H0 : Hp) (σ : L2.St) (r : ME α) (Q : β → Hp → Prop) : Prop := match r with
  | .ok a ρ => ∀ b Hs' H', SInv K M Fx Hs H0 ρ Hs' σ H' → Rel Hs' a b → Q b H'
  | .exc x ρ => ∀ c d Hs' H', SInv K M Fx Hs H0 ρ Hs' σ H' → XRep K mg Hs' H' x c d → W c d σ H'
  | .stuck => False
theorem PstME.base {Rel : Hp → α → β → Prop} {Hs1 H1 : Hp} {r : ME α} {Q : β → Hp → Prop} (l : Le Hs H0 Hs1 H1) (h : PstME Rel K mg W M Fx Hs H0 σ r Q) : PstME Rel K mg W M Fx Hs1 H0 σ r Q := by
  cases r with
  | ok a ρ => exact fun b Hs' H' I => h b Hs' H' (I.base l)
  | exc x ρ => exact fun c d Hs' H' I => h c d Hs' H' (I.base l)
  | stuck => exact h
theorem use_then {Rel : Hp → α → β → Prop} {Rel2 : Hp → γ → δ → Prop} {r : ME α} {k : α → Env → ME γ} {Q : δ → Hp → Prop} {Q1 : β → Hp → Prop} (h : PstME Rel2 K mg W M Fx Hs H0 σ (r.then k) Q)
    (f : ∀ a ρ1 b Hs1 H1, SInv K M Fx Hs H0 ρ1 Hs1 σ H1 → Rel Hs1 a b → PstME Rel2 K mg W M Fx Hs1 H0 σ (k a ρ1) Q → Q1 b H1) : PstME Rel K mg W M Fx Hs H0 σ r Q1 := by
  cases r with
  | ok a ρ1 => exact fun b Hs1 H1 I ra => f a ρ1 b Hs1 H1 I ra (PstME.base I.le h)
  | exc x ρ1 => exact h
  | stuck => exact h
theorem use_lift {Rel : Hp → α → β → Prop} {l : α → Bool} {r : R α} {Q : β → Hp → Prop} {Hb : Hp} {cl : Bool} (e3 : ∀ Hi H', Le Hb H Hi H' → ∃ Hj, SInv K M Fx Hs H0 ρ Hj σ H' ∧ Down cl Hi Hj)
    (mv : ∀ Hi Hj a b, Down cl Hi Hj → l a = true → Rel Hi a b → Rel Hj a b) (h : PstME Rel K mg W M Fx Hs H0 σ (liftM l r ρ) Q) : Pst Rel K mg Hb H r Q (fun c d H' => W c d σ H') := by
  cases r with
  | ok a =>
    intro b Hi H' le ra
    have h : PstME Rel K mg W M Fx Hs H0 σ (if l a then .ok a ρ else .stuck) Q := h
    by_cases z : l a = true
    · rw [if_pos z] at h
      obtain ⟨Hj, J, dn⟩ := e3 Hi H' le
      exact h b Hj H' J (mv Hi Hj a b dn z ra)
    · rw [if_neg z] at h
      exact h.elim
  | exc x =>
    intro c d Hi H' le rx
    have h : PstME Rel K mg W M Fx Hs H0 σ (if x.lf then .exc x ρ else .stuck) Q := h
    by_cases z : x.lf = true
    · rw [if_pos z] at h
      obtain ⟨Hj, J, dn⟩ := e3 Hi H' le
      exact h c d Hj H' J (rx.down dn (by rw [z]; cases cl <;> rfl))
    · rw [if_neg z] at h
      exact h.elim
  | stuck => exact h
def tM (K : PySem.W.Frag) (mg : Str → Option Value) (W : WX) (M : List Nat) (Fx : List (Nat × V)) (H0 : Hp) (f : Env → ME D) : TE := fun σ H Q => ∃ (ρ : Env) (Hs : Hp), SInv K M Fx Hs H0 ρ Hs σ H ∧ PstME (Rep K) K mg W M Fx Hs H0 σ (f ρ) Q
def tMB (K : PySem.W.Frag) (mg : Str → Option Value) (W : WX) (M : List Nat) (Fx : List (Nat × V)) (H0 : Hp) (f : Env → ME Bool) : TT := fun σ H Q => ∃ (ρ : Env) (Hs : Hp), SInv K M Fx Hs H0 ρ Hs σ H ∧ PstME RB K mg W M Fx Hs H0 σ (f ρ) Q
def tML (K : PySem.W.Frag) (mg : Str → Option Value) (W : WX) (M : List Nat) (Fx : List (Nat × V)) (H0 : Hp) (f : Env → ME (List D)) : TA := fun σ H Q => ∃ (ρ : Env) (Hs : Hp), SInv K M Fx Hs H0 ρ Hs σ H ∧ PstME (Reps K) K mg W M Fx Hs H0 σ (f ρ) Q
def truM (r : ME D) : ME Bool := r.then fun x ρ1 => (match D.truth x with
  | .ok k => .ok k ρ1
  | _ => .stuck)
/-- an own thing stands in its slot again -/
theorem SInvA.back {i : Nat} {d : D} {v : V} {A : List Addr} (I : SInvA OA K M Fx Hs0 H0 ρ Hs σ H) (hi : i ∈ M) (hv : σ[i]? = some (some v)) (r : OwnR K Hs H d v A) (h1 : ∀ a ∈ A, Hs a = none ∧ H0 a = none) (nd : A.Nodup)
    (h4 : ∀ a ∈ A, ¬ Own OA M ρ a) : SInvA (fun j => if j = i then A else OA j) K M Fx Hs0 H0 (ρ.set i (some d)) Hs σ H := by
  have ne : ∀ j, j ∉ M → i ≠ j := fun j h e => h (e ▸ hi)
  refine ⟨I.le, by simpa using I.len, fun j e hj q => ?_, fun j e hj q => ?_, fun j k e e2 hj hk q1 q2 hjk => ?_, I.fix, I.fxM⟩
  · rw [List.getElem?_set_ne (ne j hj)] at q
    exact I.sl j e hj q
  · by_cases h : i = j
    · subst h
      have hl : i < ρ.length := by
        have := (List.getElem?_eq_some_iff.mp q).1
        simpa using this
      rw [List.getElem?_set_self hl] at q
      cases q
      simp only [if_true]
      exact ⟨v, hv, r, h1, nd⟩
    · rw [List.getElem?_set_ne h] at q
      simp only [if_neg (Ne.symm h)]
      exact I.own j e hj q
  · by_cases a : i = j
    · subst a
      rw [List.getElem?_set_ne hjk] at q2
      simp only [if_true, if_neg (Ne.symm hjk)]
      exact fun x hx hy => h4 x hx ⟨k, e2, hk, q2, hy⟩
    · rw [List.getElem?_set_ne a] at q1
      simp only [if_neg (Ne.symm a)]
      by_cases b : i = k
      · subst b
        simp only [if_true]
        exact fun x hx hy => h4 x hy ⟨j, e, hj, q1, hx⟩
      · rw [List.getElem?_set_ne b] at q2
        simp only [if_neg (Ne.symm b)]
        exact I.inj j k e e2 hj hk q1 q2 hjk
theorem back_all : ∀ {is : List Nat} {os : List D} {us : List V} {Bs : List (List Addr)} {ρ ρ' : Env} {OA : Nat → List Addr}, SInvA OA K M Fx Hs0 H0 ρ Hs σ H → (∀ i ∈ is, i ∈ M) → is.map (fun i => σ[i]?) = us.map (fun u => some (some u)) → Owns K Hs H os us Bs →
    (∀ a ∈ Bs.flatten, Hs a = none ∧ H0 a = none) → Bs.flatten.Nodup → (∀ a ∈ Bs.flatten, ¬ Own OA M ρ a) → setOwns is os ρ = some ρ' → SInv K M Fx Hs0 H0 ρ' Hs σ H
  | [], [], [], [], ρ, ρ', OA, I, _, _, .nil, _, _, _, e => by
    cases e
    exact ⟨OA, I⟩
  | i :: is, o :: os, u :: us, B :: Bs, ρ, ρ', OA, I, hM, hv, .cons r rs, h1, nd, h4, e => by
    simp only [List.map_cons, List.cons.injEq] at hv
    rw [List.flatten_cons] at h1 nd h4
    rw [List.nodup_append] at nd
    have J := I.back (hM i (List.mem_cons_self ..)) hv.1 r (fun a ha => h1 a (List.mem_append_left _ ha)) nd.1 fun a ha => h4 a (List.mem_append_left _ ha)
    refine back_all J (fun j hj => hM j (List.mem_cons_of_mem _ hj)) hv.2 rs (fun a ha => h1 a (List.mem_append_right _ ha)) nd.2.1 (fun a ha => ?_) e
    rintro ⟨j, d, hj, q, hm⟩
    by_cases z : j = i
    · simp only [if_pos z] at hm
      exact nd.2.2 a hm a ha rfl
    · simp only [if_neg z] at hm
      rw [List.getElem?_set_ne (Ne.symm z)] at q
      exact h4 a (List.mem_append_right _ ha) ⟨j, d, hj, q, hm⟩
  | [], _ :: _, _, _, _, _, _, _, _, _, _, _, _, _, e => by cases e
  | _ :: _, [], _, _, _, _, _, _, _, _, _, _, _, _, e => by cases e
/-- the rest behind a call -/
theorem rest_ok {is : List Nat} (J : SInvA OA K M Fx Hs0 H0 ρ Hs σ H) (hM : ∀ i ∈ is, i ∈ M) (live : ∀ i ∈ is, ∃ d, ρ[i]? = some (some d)) (le : Le Hs (without H (is.map OA).flatten) Hi H') : SInvA OA K M Fx Hs0 H0 (mask is ρ) Hi σ H' := by
  have inA : ∀ a, a ∈ (is.map OA).flatten → ∃ i ∈ is, a ∈ OA i := fun a ha => by
    obtain ⟨A, hA, h⟩ := List.mem_flatten.mp ha
    obtain ⟨i, hi, rfl⟩ := List.mem_map.mp hA
    exact ⟨i, hi, h⟩
  have wo : ∀ a o, a ∉ (is.map OA).flatten → H a = some o → without H (is.map OA).flatten a = some o := fun a o h1 h2 => by
    unfold without
    rw [if_neg h1]
    exact h2
  have won : ∀ a, without H (is.map OA).flatten a = none → a ∈ (is.map OA).flatten ∨ H a = none := fun a h => by
    unfold without at h
    by_cases z : a ∈ (is.map OA).flatten
    · exact .inl z
    · rw [if_neg z] at h
      exact .inr h
  have h0A : ∀ a ∈ (is.map OA).flatten, H0 a = none ∧ Hs a = none := fun a ha => by
    obtain ⟨i, hi, h⟩ := inA a ha
    obtain ⟨d, q⟩ := live i hi
    obtain ⟨v, _, _, n, _⟩ := J.own i d (hM i hi) q
    exact ⟨(n a h).2, (n a h).1⟩
  refine ⟨⟨J.le.old.trans le.old, fun a o h => ?_, le.sub, fun a o h => ?_⟩, by rw [mask_len]; exact J.len, fun j d hj q => ?_, fun j d hj q => ?_, fun j k d e hj hk q1 q2 hjk => ?_, J.fix, J.fxM⟩
  · refine le.ex a o (wo a o (fun z => ?_) (J.le.ex a o h))
    rw [(h0A a z).1] at h
    cases h
  · rcases le.new a o h with w | w
    · exact J.le.new a o w
    · rcases won a w with w | w
      · exact .inr (h0A a w).1
      · exact .inr (J.le.free w)
  · obtain ⟨_, q⟩ := mask_get is ρ j d q
    obtain ⟨v, h1, h2⟩ := J.sl j d hj q
    exact ⟨v, h1, h2.mono le.old⟩
  · obtain ⟨nj, q⟩ := mask_get is ρ j d q
    obtain ⟨v, h1, r, n, nd⟩ := J.own j d hj q
    have out : ∀ a ∈ OA j, a ∉ (is.map OA).flatten := fun a ha z => by
      obtain ⟨i, hi, h⟩ := inA a z
      obtain ⟨e, qe⟩ := live i hi
      exact J.inj j i d e hj (hM i hi) q qe (fun e => nj (e ▸ hi)) a ha h
    refine ⟨v, h1, r.keep le.old fun a ha o e => le.ex a o (wo a o (out a ha) e), fun a ha => ⟨?_, (n a ha).2⟩, nd⟩
    cases z : Hi a with
    | none => rfl
    | some o =>
      obtain ⟨u, e, _⟩ := r.soft a ha
      rcases le.new a o z with w | w
      · rw [(n a ha).1] at w; cases w
      · rcases won a w with w | w
        · exact absurd w (out a ha)
        · rw [e] at w; cases w
  · obtain ⟨_, q1⟩ := mask_get is ρ j d q1
    obtain ⟨_, q2⟩ := mask_get is ρ k e q2
    exact J.inj j k d e hj hk q1 q2 hjk
theorem backM_ok {is : List Nat} {us : List V} {r : MR} {Q : VK} (J : SInvA OA K M Fx Hs H0 ρ Hs σ H) (hM : ∀ i ∈ is, i ∈ M) (live : ∀ i ∈ is, ∃ d, ρ[i]? = some (some d)) (hv : is.map (fun i => σ[i]?) = us.map (fun u => some (some u)))
    (h : PstME (Rep K) K mg W M Fx Hs H0 σ (backM is r ρ) Q) : PstM K mg Hs H (is.map OA).flatten us r Q (fun c d H' => W c d σ H') := by
  have go : ∀ {os : List D} {ρ' : Env} {Hi H' : Hp} {Bs : List (List Addr)}, Le Hs (without H (is.map OA).flatten) Hi H' → Owns K Hi H' os us Bs → (∀ a ∈ Bs.flatten, Hi a = none ∧ (a ∈ (is.map OA).flatten ∨ H a = none)) → Bs.flatten.Nodup → setOwns is os (mask is ρ) = some ρ' → SInv K M Fx Hs H0 ρ' Hi σ H' := fun {os ρ' Hi H' Bs} le ow hB nd e => by
    have I := rest_ok J hM live le
    have inA : ∀ a, a ∈ (is.map OA).flatten → ∃ i ∈ is, a ∈ OA i := fun a ha => by
      obtain ⟨A, hA, h⟩ := List.mem_flatten.mp ha
      obtain ⟨i, hi, rfl⟩ := List.mem_map.mp hA
      exact ⟨i, hi, h⟩
    refine back_all I hM hv ow (fun a ha => ⟨(hB a ha).1, ?_⟩) nd (fun a ha => ?_) e
    · rcases (hB a ha).2 with w | w
      · obtain ⟨i, hi, h⟩ := inA a w
        obtain ⟨d, q⟩ := live i hi
        obtain ⟨v, _, _, n, _⟩ := J.own i d (hM i hi) q
        exact (n a h).2
      · exact J.le.free w
    · rintro ⟨j, d, hj, q, hm⟩
      obtain ⟨nj, q⟩ := mask_get is ρ j d q
      rcases (hB a ha).2 with w | w
      · obtain ⟨i, hi, h⟩ := inA a w
        obtain ⟨e, qe⟩ := live i hi
        exact J.inj j i d e hj (hM i hi) q qe (fun e => nj (e ▸ hi)) a hm h
      · obtain ⟨v, _, r, _, _⟩ := J.own j d hj q
        obtain ⟨o, e, _⟩ := r.soft a hm
        rw [w] at e
        cases e
  cases r with
  | ok d os =>
    intro v Hi H' Bs le rd ow hB nd
    have h : PstME (Rep K) K mg W M Fx Hs H0 σ (match setOwns is os (mask is ρ) with | some ρ' => .ok d ρ' | none => .stuck) Q := h
    cases z : setOwns is os (mask is ρ) with
    | none => rw [z] at h; exact h.elim
    | some ρ' =>
      rw [z] at h
      exact h v Hi H' (go le ow hB nd z) rd
  | exc x os =>
    intro c d Hi H' Bs le rx ow hB nd
    have h : PstME (Rep K) K mg W M Fx Hs H0 σ (match setOwns is os (mask is ρ) with | some ρ' => .exc x ρ' | none => .stuck) Q := h
    cases z : setOwns is os (mask is ρ) with
    | none => rw [z] at h; exact h.elim
    | some ρ' =>
      rw [z] at h
      exact h c d Hi H' (go le ow hB nd z) rx
  | stuck => exact h.elim
theorem args_vals : ∀ {ds : List D} {vs : List V}, Reps K Hs ds vs → ArgsR K Hs H (List.replicate ds.length false) ds vs []
  | _, _, .nil => .nil
  | _ :: _, _ :: _, .cons r t => .val r (args_vals t)
theorem pick_vals {α : Type} : ∀ (n : Nat) (vs : List α), pick (List.replicate n false) vs = []
  | 0, _ => rfl
  | n + 1, [] => rfl
  | n + 1, _ :: vs => pick_vals n vs
inductive EAR (K : PySem.W.Frag) (Hs : Hp) (σ : L2.St) : EAs → List D → List V → Prop
  | nil : EAR K Hs σ .nil [] []
  | own {i : Nat} {v : V} {as : EAs} {ds : List D} {vs : List V} : σ[i]? = some (some v) → EAR K Hs σ as ds vs → EAR K Hs σ (.own i as) ds (v :: vs)
  | val {a : EM} {d : D} {v : V} {as : EAs} {ds : List D} {vs : List V} : Rep K Hs d v → EAR K Hs σ as ds vs → EAR K Hs σ (.val a as) (d :: ds) (v :: vs)
theorem EAR.args (J : SInvA OA K M Fx Hs0 H0 ρ Hs σ H) : ∀ {as : EAs} {ds : List D} {vs : List V} {xs : List D}, EAR K Hs σ as ds vs → (∀ i ∈ as.slots, i ∈ M) → as.weave ρ ds = some xs →
    ArgsR K Hs H as.bits xs vs (as.slots.map OA) ∧ as.slots.map (fun i => σ[i]?) = (pick as.bits vs).map (fun u => some (some u)) ∧ ∀ i ∈ as.slots, ∃ d, ρ[i]? = some (some d)
  | .nil, _, _, _, .nil, _, e => by
    cases e
    exact ⟨.nil, rfl, fun i hi => by cases hi⟩
  | .own i as, ds, _, xs, .own (v := v) (vs := vs) hv t, hM, e => by
    rw [EAs.weave] at e
    split at e
    · rename_i d q
      cases z : as.weave ρ ds with
      | none => rw [z] at e; cases e
      | some ys =>
        rw [z] at e
        cases e
        obtain ⟨a1, a2, a3⟩ := EAR.args J t (fun j hj => hM j (List.mem_cons_of_mem _ hj)) z
        obtain ⟨v', hv', r, _, _⟩ := J.own i d (hM i (List.mem_cons_self ..)) q
        rw [hv] at hv'
        cases hv'
        refine ⟨.own r a1, ?_, fun j hj => ?_⟩
        · show σ[i]? :: as.slots.map (fun i => σ[i]?) = some (some v) :: (pick as.bits vs).map (fun u => some (some u))
          rw [hv, a2]
        · rcases List.mem_cons.mp hj with rfl | hj
          · exact ⟨d, q⟩
          · exact a3 j hj
    · cases e
  | .val a as, _, _, xs, .val (d := d) (v := v) (ds := ds) (vs := vs) r t, hM, e => by
    rw [EAs.weave] at e
    cases z : as.weave ρ ds with
    | none => rw [z] at e; cases e
    | some ys =>
      rw [z] at e
      cases e
      obtain ⟨a1, a2, a3⟩ := EAR.args J t hM z
      exact ⟨.val r a1, a2, a3⟩
theorem own_nodup (J : SInvA OA K M Fx Hs0 H0 ρ Hs σ H) : ∀ {is : List Nat}, is.Nodup → (∀ i ∈ is, i ∈ M) → (∀ i ∈ is, ∃ d, ρ[i]? = some (some d)) → (is.map OA).flatten.Nodup ∧ ∀ a ∈ (is.map OA).flatten, Hs a = none
  | [], _, _, _ => ⟨List.nodup_nil, fun a ha => by cases ha⟩
  | i :: is, nd, hM, live => by
    rw [List.nodup_cons] at nd
    obtain ⟨n1, n2⟩ := own_nodup J nd.2 (fun j hj => hM j (List.mem_cons_of_mem _ hj)) (fun j hj => live j (List.mem_cons_of_mem _ hj))
    obtain ⟨d, q⟩ := live i (List.mem_cons_self ..)
    obtain ⟨v, _, r, n, ndi⟩ := J.own i d (hM i (List.mem_cons_self ..)) q
    rw [List.map_cons, List.flatten_cons]
    refine ⟨List.nodup_append.mpr ⟨ndi, n1, fun a ha b hb e => ?_⟩, fun a ha => ?_⟩
    · subst e
      obtain ⟨A, hA, h⟩ := List.mem_flatten.mp hb
      obtain ⟨j, hj, rfl⟩ := List.mem_map.mp hA
      obtain ⟨e, qe⟩ := live j (List.mem_cons_of_mem _ hj)
      exact J.inj i j d e (hM i (List.mem_cons_self ..)) (hM j (List.mem_cons_of_mem _ hj)) q qe (fun z => nd.1 (z ▸ hj)) a ha h
    · rcases List.mem_append.mp ha with ha | ha
      · exact (n a ha).1
      · exact n2 a ha
end
section
variable {C : Cfg} {cs : List Cal} {kk : Nat} {M : List Nat}
def MOk (C : Cfg) (cs : List Cal) (kk : Nat) (M : List Nat) (m : EM) : Prop := ∀ (X : Cx) (W : WX) (e : Expr), XOk X C cs kk → Takes X W → chkEM C X.env.scope M m e = true → ∀ (Fx : List (Nat × V)) (H0 : Hp),
  PE X e (tM X.K X.mg W M Fx H0 (evM (fnsOf cs) M m)) ∧ PT X e (tMB X.K X.mg W M Fx H0 fun ρ => truM (evM (fnsOf cs) M m ρ))
structure MsOk (C : Cfg) (cs : List Cal) (kk : Nat) (M : List Nat) (as : EMs) : Prop where
  args : ∀ (X : Cx) (W : WX) (xs : List Expr), XOk X C cs kk → Takes X W → chkEMs C X.env.scope M as xs = true → ∀ (Fx : List (Nat × V)) (H0 : Hp), PA X xs (tML X.K X.mg W M Fx H0 (evMs (fnsOf cs) M as)) ∧ (∀ x ∈ xs, plain x = true) ∧ xs.length = as.len
  bools : ∀ (X : Cx) (W : WX) (xs : List Expr), XOk X C cs kk → Takes X W → chkEMs C X.env.scope M as xs = true → as.len ≠ 0 → ∀ (Fx : List (Nat × V)) (H0 : Hp) (pos : Pos),
    PE X (.BoolOp .And xs pos) (tM X.K X.mg W M Fx H0 (evAndM (fnsOf cs) M as)) ∧ PE X (.BoolOp .Or xs pos) (tM X.K X.mg W M Fx H0 (evOrM (fnsOf cs) M as)) ∧
    PW X (.BoolOp .And xs pos) (tMB X.K X.mg W M Fx H0 fun ρ => truM (evAndM (fnsOf cs) M as ρ)) ∧ PW X (.BoolOp .Or xs pos) (tMB X.K X.mg W M Fx H0 fun ρ => truM (evOrM (fnsOf cs) M as ρ))
def AsOk (C : Cfg) (cs : List Cal) (kk : Nat) (M : List Nat) (as : EAs) : Prop := ∀ (X : Cx) (W : WX) (xs : List Expr), XOk X C cs kk → Takes X W → chkEAs C X.env.scope M as xs = true → ∀ (Fx : List (Nat × V)) (H0 : Hp),
  PA X xs (fun σ H Q => ∃ (ρ : Env) (Hs : Hp), SInv X.K M Fx Hs H0 ρ Hs σ H ∧ PstME (fun Hs ds vs => EAR X.K Hs σ as ds vs) X.K X.mg W M Fx Hs H0 σ (evAs (fnsOf cs) M as ρ) Q) ∧ (∀ x ∈ xs, plain x = true) ∧ xs.length = as.bits.length ∧ ∀ i ∈ as.slots, i ∈ M
/-- the test of a value -/
theorem tru_M {X : Cx} {W : WX} {H0 : Hp} {r : Env → ME D} {e : Expr} (ha : PE X e (tM X.K X.mg W M Fx H0 r)) (he : ∀ whole, isTrue e X.env whole = (do let v ← whole; standAt e.pos; holding [v] (truthy v))) : PT X e (tMB X.K X.mg W M Fx H0 fun ρ => truM (r ρ)) := by
  refine PT.imp (pt_truth ha he) fun σ H Q ⟨ρ, Hs, I, hp⟩ => ⟨ρ, Hs, I, use_then hp fun d ρ1 v Hs1 H1 J rd hp1 => ?_⟩
  rcases truth_cases d with ⟨k, e⟩ | e
  · rw [e] at hp1
    exact ⟨k, tru_of rd J.le.sub e, hp1 k Hs1 H1 J.rebase rfl⟩
  · rw [e] at hp1
    exact hp1.elim
theorem m_pur (e : E) : MOk C cs kk M (.pur e) := fun X W x hX tk h Fx H0 => by
  rw [chkEM] at h
  obtain ⟨a1, a2⟩ := ok_E e X W x hX tk h
  refine ⟨PE.imp a1 fun σ H Q ⟨ρ, Hs, I, hp⟩ => ?_, PT.imp a2 fun σ H Q ⟨ρ, Hs, I, hp⟩ => ?_⟩
  · obtain ⟨Hb, e1, e2, _, e3⟩ := I.enter false
    rw [evM] at hp
    exact ⟨_, Hb, e1, e2, use_lift e3 (fun _ _ _ _ dn z r => r.down dn (by rw [z]; rfl)) hp⟩
  · obtain ⟨Hb, e1, e2, _, e3⟩ := I.enter false
    have hp : PstME RB X.K X.mg W M Fx Hs H0 σ (truM (evM (fnsOf cs) M (.pur e) ρ)) Q := hp
    rw [evM] at hp
    refine ⟨_, Hb, e1, e2, ?_⟩
    show PstB X.K X.mg Hb H (ev (fnsOf cs) e (view M false ρ) >>= D.truth) Q _
    cases z : ev (fnsOf cs) e (view M false ρ) with
    | ok d =>
      rw [z] at hp
      have hp : PstME RB X.K X.mg W M Fx Hs H0 σ ((if D.lf d then ME.ok d ρ else .stuck).then fun x ρ1 => (match D.truth x with | .ok k => .ok k ρ1 | _ => .stuck)) Q := hp
      by_cases l : D.lf d = true
      · rw [if_pos l] at hp
        have hp : PstME RB X.K X.mg W M Fx Hs H0 σ (match D.truth d with | .ok k => .ok k ρ | _ => .stuck) Q := hp
        show PstB X.K X.mg Hb H (D.truth d) Q _
        rcases truth_cases d with ⟨k, e⟩ | e
        · rw [e] at hp ⊢
          intro b Hi H' le rb
          obtain ⟨Hj, J, dn⟩ := e3 Hi H' le
          exact hp b Hj H' J rb
        · rw [e] at hp
          exact hp.elim
      · rw [if_neg l] at hp
        exact hp.elim
    | exc x =>
      rw [z] at hp
      intro c d Hi H' le rx
      have hp : PstME RB X.K X.mg W M Fx Hs H0 σ ((if x.lf then ME.exc x ρ else .stuck).then fun x ρ1 => (match D.truth x with | .ok k => .ok k ρ1 | _ => .stuck)) Q := hp
      by_cases l : x.lf = true
      · rw [if_pos l] at hp
        obtain ⟨Hj, J, dn⟩ := e3 Hi H' le
        exact hp c d Hj H' J (rx.down dn (by rw [l]; rfl))
      · rw [if_neg l] at hp
        exact hp.elim
    | stuck => rw [z] at hp; exact hp.elim
theorem m_cur (e : E) : MOk C cs kk M (.cur e) := fun X W x hX tk h Fx H0 => by
  rw [chkEM] at h
  obtain ⟨a1, a2⟩ := ok_E e X W x hX tk h
  refine ⟨PE.imp a1 fun σ H Q ⟨ρ, Hs, I, hp⟩ => ?_, PT.imp a2 fun σ H Q ⟨ρ, Hs, I, hp⟩ => ?_⟩
  · obtain ⟨Hb, e1, e2, _, e3⟩ := I.enter true
    rw [evM] at hp
    exact ⟨_, Hb, e1, e2, use_lift e3 (fun _ _ _ _ dn _ r => r.down dn rfl) hp⟩
  · obtain ⟨Hb, e1, e2, _, e3⟩ := I.enter true
    have hp : PstME RB X.K X.mg W M Fx Hs H0 σ (truM (evM (fnsOf cs) M (.cur e) ρ)) Q := hp
    rw [evM] at hp
    refine ⟨_, Hb, e1, e2, ?_⟩
    show PstB X.K X.mg Hb H (ev (fnsOf cs) e (view M true ρ) >>= D.truth) Q _
    cases z : ev (fnsOf cs) e (view M true ρ) with
    | ok d =>
      rw [z] at hp
      have hp : PstME RB X.K X.mg W M Fx Hs H0 σ ((ME.ok d ρ).then fun x ρ1 => (match D.truth x with | .ok k => .ok k ρ1 | _ => .stuck)) Q := hp
      have hp : PstME RB X.K X.mg W M Fx Hs H0 σ (match D.truth d with | .ok k => .ok k ρ | _ => .stuck) Q := hp
      show PstB X.K X.mg Hb H (D.truth d) Q _
      rcases truth_cases d with ⟨k, e⟩ | e
      · rw [e] at hp ⊢
        intro b Hi H' le rb
        obtain ⟨Hj, J, dn⟩ := e3 Hi H' le
        exact hp b Hj H' J rb
      · rw [e] at hp
        exact hp.elim
    | exc x =>
      rw [z] at hp
      intro c d Hi H' le rx
      have hp : PstME RB X.K X.mg W M Fx Hs H0 σ ((if x.lf then ME.exc x ρ else .stuck).then fun x ρ1 => (match D.truth x with | .ok k => .ok k ρ1 | _ => .stuck)) Q := hp
      by_cases l : x.lf = true
      · rw [if_pos l] at hp
        obtain ⟨Hj, J, dn⟩ := e3 Hi H' le
        exact hp c d Hj H' J (rx.down dn (by rw [l]; rfl))
      · rw [if_neg l] at hp
        exact hp.elim
    | stuck => rw [z] at hp; exact hp.elim
theorem slot_s {X : Cx} {i : Nat} {e : Expr} (hX : XOk X C cs kk) (h : chkOwnSlot C X.env.scope M i e = true) : i ∈ M ∧ ∃ x px, e = .Name x px ∧ PE X (.Name x px) (tVar i) := by
  unfold chkOwnSlot at h
  rw [Bool.and_eq_true] at h
  refine ⟨by simpa using h.1, ?_⟩
  cases z : xName e with
  | none => rw [z] at h; cases h.2
  | some x =>
    rw [z] at h
    obtain ⟨px, rfl⟩ := xName_s z
    have h2 := h.2
    simp only [Bool.and_eq_true, decide_eq_true_eq] at h2
    obtain ⟨v1, v2, v3⟩ := vis_of h2.2
    exact ⟨x, px, rfl, pe_var (by rw [hX.names]; exact h2.1) v1 v2 v3⟩
theorem cal_at {X : Cx} {k n : Nat} {m : Str} {cl : List Str} {bs : List Bool} (hX : XOk X C cs kk) (h1 : C.cn[k]? = some (m, n)) (h2 : C.km[k]? = some (cl, bs)) : ∃ cal, cs[k]? = some cal ∧ cal.name = m ∧ cal.ps.length = n ∧ cal.cls = cl ∧ cal.own = bs ∧ (fnsOf cs)[k]? = some (n, cal.g) ∧ cal.Ok X.prog X.w X.K X.mg X.base kk := by
  rw [hX.cn, List.getElem?_map] at h1
  rw [hX.km, List.getElem?_map] at h2
  cases q : cs[k]? with
  | none => rw [q] at h1; cases h1
  | some cal =>
    rw [q] at h1 h2
    have h1 : some (cal.name, cal.ps.length) = some (m, n) := h1
    have h2 : some (cal.cls, cal.own) = some (cl, bs) := h2
    simp only [Option.some.injEq, Prod.mk.injEq] at h1 h2
    refine ⟨cal, rfl, h1.1, h1.2, h2.1, h2.2, ?_, hX.fns cal (List.mem_of_getElem? q)⟩
    unfold fnsOf
    rw [List.getElem?_map, q, ← h1.2]
    rfl
theorem m_mth (i : Nat) (m : Str) (k : Nat) (cl : List Str) {as : EMs} (hs : MsOk C cs kk M as) : MOk C cs kk M (.mth i m k cl as) := fun X W e hX tk h Fx H0 => by
  rw [chkEM] at h
  cases q : xMeth e with
  | none => rw [q] at h; cases h
  | some u =>
    obtain ⟨o, n, xs, l⟩ := u
    rw [q] at h
    obtain ⟨ap, cp, rfl, hl⟩ := xMeth_s q
    simp only [Bool.and_eq_true, decide_eq_true_eq] at h
    obtain ⟨⟨⟨⟨⟨⟨⟨rfl, h1⟩, h2⟩, h3⟩, h4⟩, hf⟩, h5⟩, h6⟩ := h
    obtain ⟨hi, x, px, rfl, po⟩ := slot_s hX h5
    obtain ⟨cal, _, rfl, hn, rfl, ho, eg, F⟩ := cal_at hX h3 h4
    obtain ⟨a1, a2, a3⟩ := hs.args X W xs hX tk h6 Fx H0
    have one : cal.own ≠ [] := by rw [ho]; exact fun z => nomatch z
    have hfm := F.fm one
    rw [ho] at hfm
    have fin : ∀ (σ : L2.St) (H : Hp) (Q : VK), tM X.K X.mg W M Fx H0 (evM (fnsOf cs) M (.mth i cal.name k cal.cls as)) σ H Q → tMethQ X.K cal.name cal.f (spM X.K X.mg (true :: List.replicate as.len false) cal.g) (WE W) (tVar i) (tML X.K X.mg W M Fx H0 (evMs (fnsOf cs) M as)) σ H Q := by
      rintro σ H Q ⟨ρ, Hs, I, hp⟩
      rw [evM] at hp
      split at hp
      · rename_i c ns ys q0
        split at hp
        · rename_i hob
          rw [Bool.and_eq_true, Bool.not_eq_true'] at hob
          obtain ⟨OA, IA⟩ := id I
          obtain ⟨v, hv, r, _, _⟩ := IA.own i _ hi q0
          generalize OA i = A at r
          cases r with
          | val l _ => simp [D.lf] at l
          | obj e1 T en fr =>
            rename_i p C1 dx fs A
            subst en
            refine ⟨_, hv, p, C1, dx, fs, rfl, e1, T.cl, (ob_meth F h2 (List.contains_iff_mem.mp hob.1) T).mt, lookup_no hob.2, ρ, Hs, I, use_then hp fun ds ρ1 vs Hs1 H1 J rds hp1 => ?_⟩
            split at hp1
            · rename_i nn g o z1 z2
              rw [eg] at z1
              cases z1
              split at hp1
              · rename_i hlen
                obtain ⟨OB, JB⟩ := J
                have JB := JB
                obtain ⟨v1, hv1, r1, n1, nd1⟩ := JB.own i o hi z2
                rw [hv] at hv1
                cases hv1
                have la : ds.length = as.len := by omega
                have Jr : SInvA OB X.K M Fx Hs1 H0 ρ1 Hs1 σ H1 := ⟨⟨Ex.refl _, JB.le.ex, JB.le.sub, fun _ _ h => .inl h⟩, JB.len, JB.sl, JB.own, JB.inj, JB.fix, JB.fxM⟩
                refine ⟨Hs1, o :: ds, [OB i], JB.le.sub, .own r1 (by rw [← la]; exact args_vals rds), fun a ha => ?_, by simpa using nd1, ?_⟩
                · rw [List.flatten_cons, List.flatten_nil, List.append_nil] at ha
                  exact (n1 a ha).1
                · have hp2 := backM_ok (us := [.ref p]) Jr (fun j hj => by rw [List.mem_singleton.mp hj]; exact hi) (fun j hj => by rw [List.mem_singleton.mp hj]; exact ⟨o, z2⟩) (by simp [hv]) hp1
                  have pk : pick (true :: List.replicate as.len false) (V.ref p :: vs) = [V.ref p] := by
                    show V.ref p :: pick (List.replicate as.len false) vs = _
                    rw [pick_vals]
                  rw [pk]
                  exact hp2
              · exact hp1.elim
            · exact hp1.elim
        · exact hp.elim
      · exact hp.elim
    have pe : PE X (.Call (.Attribute (.Name x px) cal.name ap) xs [] cp) (tM X.K X.mg W M Fx H0 (evM (fnsOf cs) M (.mth i cal.name k cal.cls as))) := by
      cases xs with
      | nil =>
        refine PE.imp (pe_methQ0 po hfm hX.room F.bd (fun σ => passAt tk σ) (way_of (fun x hx => a2 x hx) (by rw [a3]; exact hf) (hl ▸ h1))) fun σ H Q hh => ?_
        obtain ⟨v, hv, p1, C1, dx, fs, b1, b2, b3, b4, b5, ρ2, Hs2, c1, c2⟩ := fin σ H Q hh
        refine ⟨v, hv, p1, C1, dx, fs, b1, b2, b3, b4, b5, ?_⟩
        have e0 : as = .nil := by
          cases as with
          | nil => rfl
          | cons _ _ => simp [EMs.len] at a3
        subst e0
        rw [evMs] at c2
        exact c2 [] Hs2 H c1 .nil
      | cons y ys => exact PE.imp (pe_methQ po hfm hX.room F.bd (fun σ => passAt tk σ) a1 (star_cons (a2 y (by simp))) (star_any fun x hx => a2 x (by simp [hx])) (way_of (fun x hx => a2 x hx) (by rw [a3]; exact hf) (hl ▸ h1))) fin
    exact ⟨pe, tru_M pe fun _ => rfl⟩
theorem m_cal (k : Nat) {as : EAs} (hs : AsOk C cs kk M as) : MOk C cs kk M (.cal k as) := fun X W e hX tk h Fx H0 => by
  rw [chkEM] at h
  cases q : xCall e with
  | none => rw [q] at h; cases h
  | some u =>
    obtain ⟨x, xs⟩ := u
    rw [q] at h
    obtain ⟨p, pos, rfl⟩ := xCall_s q
    simp only [Bool.and_eq_true, decide_eq_true_eq] at h
    obtain ⟨⟨⟨⟨⟨⟨h1, h2⟩, h3⟩, h4⟩, h5⟩, h6⟩, h7⟩ := h
    obtain ⟨cal, _, rfl, hn, hc, ho, eg, F⟩ := cal_at hX h1 h2
    obtain ⟨a1, a2, a3, a4⟩ := hs X W xs hX tk h7 Fx H0
    have hfm := F.fm (by rw [ho]; exact h3)
    rw [ho] at hfm
    obtain ⟨g1, g2, g3⟩ := gl_of h6
    have pe : PE X (.Call (.Name cal.name p) xs [] pos) (tM X.K X.mg W M Fx H0 (evM (fnsOf cs) M (.cal k as))) := by
      cases xs with
      | nil =>
        exfalso
        apply h3
        exact List.eq_nil_of_length_eq_zero a3.symm
      | cons y ys =>
        refine PE.imp (pe_callS hfm hX.room g1 (F.gl hc) F.kp F.bd (fun σ => passAt tk σ) a1 g2 (star_cons (a2 y (by simp))) (star_any fun x hx => a2 x (by simp [hx]))) fun σ H Q ⟨ρ, Hs, I, hp⟩ => ⟨ρ, Hs, I, ?_⟩
        rw [evM] at hp
        refine use_then hp fun ds ρ1 vs Hs1 H1 J rds hp1 => ?_
        split at hp1
        · rename_i nn g zs z1 z2
          rw [eg] at z1
          cases z1
          split at hp1
          · rename_i hlen
            obtain ⟨OB, JB⟩ := J
            have Jr : SInvA OB X.K M Fx Hs1 H0 ρ1 Hs1 σ H1 := ⟨⟨Ex.refl _, JB.le.ex, JB.le.sub, fun _ _ h => .inl h⟩, JB.len, JB.sl, JB.own, JB.inj, JB.fix, JB.fxM⟩
            obtain ⟨b1, b2, b3⟩ := rds.args Jr a4 z2
            obtain ⟨n1, n2⟩ := own_nodup Jr h5 a4 b3
            exact ⟨Hs1, zs, _, JB.le.sub, b1, n2, n1, backM_ok Jr a4 b3 b2 hp1⟩
          · exact hp1.elim
        · exact hp1.elim
    exact ⟨pe, tru_M pe fun _ => rfl⟩
theorem m_tup {as : EMs} (hs : MsOk C cs kk M as) : MOk C cs kk M (.tup as) := fun X W e hX tk h Fx H0 => by
  rw [chkEM] at h
  cases q : xTup e with
  | none => rw [q] at h; cases h
  | some xs =>
    rw [q] at h
    obtain ⟨k, pos, rfl⟩ := xTup_s q
    simp only [Bool.and_eq_true, decide_eq_true_eq] at h
    obtain ⟨a1, a2, a3⟩ := hs.args X W xs hX tk h.2 Fx H0
    have pe : PE X (.Tuple xs k pos) (tM X.K X.mg W M Fx H0 (evM (fnsOf cs) M (.tup as))) := by
      refine PE.imp (pe_tup a1) fun σ H Q ⟨ρ, Hs, I, hp⟩ => ⟨ρ, Hs, I, ?_⟩
      rw [evM] at hp
      refine use_then hp fun ds ρ1 vs Hs1 H1 J rds hp1 => ?_
      by_cases hl : ds.length ≤ 1000
      · rw [if_pos hl] at hp1
        refine ⟨by rw [size_eq, ← rds.length]; omega, fun t ht => ?_⟩
        exact hp1 _ _ _ (J.rebase.step (Le.new1 (o := .tup vs) J.le.sub ht)) (mk_tup J.le.sub rds ht)
      · rw [if_neg hl] at hp1
        exact hp1.elim
    exact ⟨pe, tru_M pe fun _ => rfl⟩
theorem m_cmp (o : Cop) {a b : EM} (ha : MOk C cs kk M a) (hb : MOk C cs kk M b) : MOk C cs kk M (.cmp o a b) := fun X W e hX tk h Fx H0 => by
  rw [chkEM] at h
  cases q : xCmp e with
  | none => rw [q] at h; cases h
  | some u =>
    obtain ⟨x, p, y⟩ := u
    rw [q] at h
    obtain ⟨pos, rfl⟩ := xCmp_s q
    simp only [Bool.and_eq_true, decide_eq_true_eq] at h
    obtain ⟨⟨⟨rfl, h1⟩, h2⟩, h3⟩ := h
    have pa := (ha X W x hX tk h2 Fx H0).1
    have pb := (hb X W y hX tk h3 Fx H0).1
    have un : ∀ ρ, evM (fnsOf cs) M (.cmp o a b) ρ = (evM (fnsOf cs) M a ρ).then fun x ρ1 => (evM (fnsOf cs) M b ρ1).then fun y ρ2 => liftM D.lf (o.f x y) ρ2 := fun ρ => by rw [evM]
    refine ⟨PE.imp (pe_cmpR (cs_all hX.units o) pa pb (nomk h1)) fun σ H Q ⟨ρ, Hs, I, hp⟩ => ⟨ρ, Hs, I, ?_⟩, PT.imp (pt_cmpR (cs_all hX.units o) pa pb (nomk h1)) fun σ H Q ⟨ρ, Hs, I, hp⟩ => ⟨ρ, Hs, I, ?_⟩⟩
    · rw [un] at hp
      refine use_then hp fun d1 ρ1 v1 Hs1 H1 J1 r1 hp1 => ⟨ρ1, Hs1, J1.rebase, use_then hp1 fun d2 ρ2 v2 Hs2 H2 J2 r2 hp2 => ?_⟩
      have J3 := J2.rebase
      refine ⟨Hs2, d1, d2, fun c d H' => W c d σ H', J3.le.sub, r1.mono J2.le.old, r2, ?_⟩
      refine use_lift (Hb := Hs2) (cl := false) (fun Hi H' l => ⟨Hi, J3.step l, ⟨Ex.refl _, (fun z => nomatch z), fun a o h _ => h⟩⟩) (fun _ _ _ _ dn z r => r.down dn (by rw [z]; rfl)) hp2
    · have hp : PstME RB X.K X.mg W M Fx Hs H0 σ (truM (evM (fnsOf cs) M (.cmp o a b) ρ)) Q := hp
      rw [un] at hp
      have e : truM ((evM (fnsOf cs) M a ρ).then fun x ρ1 => (evM (fnsOf cs) M b ρ1).then fun y ρ2 => liftM D.lf (o.f x y) ρ2) = (evM (fnsOf cs) M a ρ).then fun x ρ1 => (evM (fnsOf cs) M b ρ1).then fun y ρ2 => truM (liftM D.lf (o.f x y) ρ2) := by
        unfold truM
        cases evM (fnsOf cs) M a ρ with
        | ok x ρ1 =>
          show ((evM (fnsOf cs) M b ρ1).then _).then _ = (evM (fnsOf cs) M b ρ1).then _
          cases evM (fnsOf cs) M b ρ1 <;> rfl
        | exc x ρ1 => rfl
        | stuck => rfl
      rw [e] at hp
      refine use_then hp fun d1 ρ1 v1 Hs1 H1 J1 r1 hp1 => ⟨ρ1, Hs1, J1.rebase, use_then hp1 fun d2 ρ2 v2 Hs2 H2 J2 r2 hp2 => ?_⟩
      have J3 := J2.rebase
      refine ⟨Hs2, d1, d2, fun c d H' => W c d σ H', J3.le.sub, r1.mono J2.le.old, r2, ?_⟩
      cases z : o.f d1 d2 with
      | ok d =>
        rw [z] at hp2
        obtain ⟨k, rfl⟩ := cop_bl z
        have hp2 : PstME RB X.K X.mg W M Fx Hs2 H0 σ (.ok k ρ2) Q := hp2
        exact fun v Hi H' l r => ⟨k, r.blI, hp2 k Hi H' (J3.step l) rfl⟩
      | exc x =>
        rw [z] at hp2
        have hp2 : PstME RB X.K X.mg W M Fx Hs2 H0 σ (truM (if x.lf then .exc x ρ2 else .stuck)) Q := hp2
        by_cases l : x.lf = true
        · rw [if_pos l] at hp2
          exact fun c d Hi H' le rx => hp2 c d Hi H' (J3.step le) rx
        · rw [if_neg l] at hp2
          exact hp2.elim
      | stuck => rw [z] at hp2; exact hp2.elim
theorem tru_eq (x : D) (ρ : Env) : truM (.ok x ρ) = match D.truth x with | .ok k => .ok k ρ | _ => .stuck := rfl
theorem m_not {a : EM} (ha : MOk C cs kk M a) : MOk C cs kk M (.not a) := fun X W e hX tk h Fx H0 => by
  rw [chkEM] at h
  cases q : xUn e with
  | none => rw [q] at h; cases h
  | some u =>
    obtain ⟨o, x⟩ := u
    rw [q] at h
    obtain ⟨pos, rfl⟩ := xUn_s q
    simp only [Bool.and_eq_true, decide_eq_true_eq] at h
    obtain ⟨rfl, h2⟩ := h
    obtain ⟨p1, p2⟩ := ha X W x hX tk h2 Fx H0
    have un : ∀ ρ, evM (fnsOf cs) M (.not a) ρ = (evM (fnsOf cs) M a ρ).then fun x ρ1 => (match D.truth x with | .ok k => .ok (.bl (!k)) ρ1 | _ => .stuck) := fun ρ => by rw [evM] <;> rfl
    refine ⟨PE.imp (pe_notT p1) fun σ H Q ⟨ρ, Hs, I, hp⟩ => ⟨ρ, Hs, I, ?_⟩, PT.imp (pt_not p2) fun σ H Q ⟨ρ, Hs, I, hp⟩ => ⟨ρ, Hs, I, ?_⟩⟩
    · rw [un] at hp
      refine use_then hp fun d ρ1 v Hs1 H1 J r hp1 => ?_
      rcases truth_cases d with ⟨k, e⟩ | e
      · rw [e] at hp1
        exact ⟨k, tru_of r J.le.sub e, hp1 _ _ _ J.rebase (.bl _)⟩
      · rw [e] at hp1
        exact hp1.elim
    · have hp : PstME RB X.K X.mg W M Fx Hs H0 σ (truM (evM (fnsOf cs) M (.not a) ρ)) Q := hp
      rw [un] at hp
      show PstME RB X.K X.mg W M Fx Hs H0 σ (truM (evM (fnsOf cs) M a ρ)) _
      cases z : evM (fnsOf cs) M a ρ with
      | ok d ρ1 =>
        rw [z] at hp
        have hp : PstME RB X.K X.mg W M Fx Hs H0 σ (truM (match D.truth d with | .ok k => .ok (.bl (!k)) ρ1 | _ => .stuck)) Q := hp
        rw [tru_eq]
        rcases truth_cases d with ⟨k, e⟩ | e
        · rw [e] at hp ⊢
          intro b Hi H' I1 rb
          cases rb
          exact hp (!k) Hi H' I1 rfl
        · rw [e] at hp
          exact hp.elim
      | exc x ρ1 => rw [z] at hp; exact hp
      | stuck => rw [z] at hp; exact hp.elim
theorem m_and {as : EMs} (hs : MsOk C cs kk M as) : MOk C cs kk M (.and as) := fun X W e hX tk h Fx H0 => by
  rw [chkEM] at h
  cases q : xBool e with
  | none => rw [q] at h; cases h
  | some t =>
    obtain ⟨o, xs⟩ := t
    rw [q] at h
    obtain ⟨pos, rfl⟩ := xBool_s q
    simp only [Bool.and_eq_true, decide_eq_true_eq] at h
    obtain ⟨⟨rfl, h1⟩, h2⟩ := h
    have e : evM (fnsOf cs) M (.and as) = evAndM (fnsOf cs) M as := by funext ρ; rw [evM]
    rw [e]
    obtain ⟨q1, q2, q3, q4⟩ := hs.bools X W xs hX tk h2 h1 Fx H0 pos
    exact ⟨q1, q3.pt⟩
theorem m_or {as : EMs} (hs : MsOk C cs kk M as) : MOk C cs kk M (.or as) := fun X W e hX tk h Fx H0 => by
  rw [chkEM] at h
  cases q : xBool e with
  | none => rw [q] at h; cases h
  | some t =>
    obtain ⟨o, xs⟩ := t
    rw [q] at h
    obtain ⟨pos, rfl⟩ := xBool_s q
    simp only [Bool.and_eq_true, decide_eq_true_eq] at h
    obtain ⟨⟨rfl, h1⟩, h2⟩ := h
    have e : evM (fnsOf cs) M (.or as) = evOrM (fnsOf cs) M as := by funext ρ; rw [evM]
    rw [e]
    obtain ⟨q1, q2, q3, q4⟩ := hs.bools X W xs hX tk h2 h1 Fx H0 pos
    exact ⟨q2, q4.pt⟩
theorem ms_nil : MsOk C cs kk M .nil where
  args := fun X W xs hX tk h Fx H0 => by
    rw [chkEMs] at h
    have e : xs = [] := by simpa using h
    subst e
    refine ⟨PA.imp pa_nil fun σ H Q ⟨ρ, Hs, I, hp⟩ => ?_, fun x hx => (by cases hx), rfl⟩
    rw [evMs] at hp
    exact hp [] _ _ I .nil
  bools := fun X W xs hX tk h hz => absurd rfl hz
theorem ms_cons {a : EM} {as : EMs} (ha : MOk C cs kk M a) (hs : MsOk C cs kk M as) : MsOk C cs kk M (.cons a as) where
  args := fun X W xs hX tk h Fx H0 => by
    cases xs with
    | nil => rw [chkEMs] at h; cases h
    | cons x xs =>
      rw [chkEMs] at h
      simp only [Bool.and_eq_true] at h
      obtain ⟨⟨h1, h2⟩, h3⟩ := h
      obtain ⟨b1, b2, b3⟩ := hs.args X W xs hX tk h3 Fx H0
      refine ⟨PA.imp (pa_cons (ha X W x hX tk h2 Fx H0).1 b1 (star_cons h1)) fun σ H Q ⟨ρ, Hs, I, hp⟩ => ?_, fun y hy => ?_, congrArg (· + 1) b3⟩
      · rw [evMs] at hp
        refine ⟨ρ, Hs, I, use_then hp fun d ρ1 v Hs1 H1 J r hp1 => ⟨ρ1, Hs1, J.rebase, use_then hp1 fun ds ρ2 vs Hs2 H2 J2 rs hp2 => ?_⟩⟩
        exact hp2 _ _ _ J2.rebase (.cons (r.mono J2.le.old) rs)
      · rcases List.mem_cons.mp hy with rfl | hy
        · exact h1
        · exact b2 y hy
  bools := fun X W xs hX tk h _ Fx H0 pos => by
    cases xs with
    | nil => rw [chkEMs] at h; cases h
    | cons x xs =>
      rw [chkEMs] at h
      simp only [Bool.and_eq_true] at h
      obtain ⟨⟨h1, h2⟩, h3⟩ := h
      obtain ⟨p1, p2⟩ := ha X W x hX tk h2 Fx H0
      have idt : ∀ r : ME D, (r.then fun x ρ1 => .ok x ρ1) = r := fun r => by cases r <;> rfl
      cases as with
      | nil =>
        rw [chkEMs] at h3
        have e : xs = [] := by simpa using h3
        subst e
        have e1 : evAndM (fnsOf cs) M (.cons a .nil) = evM (fnsOf cs) M a := by funext ρ; rw [evAndM]; exact idt _
        have e2 : evOrM (fnsOf cs) M (.cons a .nil) = evM (fnsOf cs) M a := by funext ρ; rw [evOrM]; exact idt _
        rw [e1, e2]
        exact ⟨pe_one p1, pe_one p1, pw_and1 p2, pw_or1 p2⟩
      | cons a' as' =>
        cases xs with
        | nil => rw [chkEMs] at h3; cases h3
        | cons y ys =>
          obtain ⟨c1, c2, c3, c4⟩ := hs.bools X W (y :: ys) hX tk h3 (fun z => nomatch z) Fx H0 pos
          have e1 : ∀ ρ, evAndM (fnsOf cs) M (.cons a (.cons a' as')) ρ = (evM (fnsOf cs) M a ρ).then fun x ρ1 => (match D.truth x with | .ok k => if k then evAndM (fnsOf cs) M (.cons a' as') ρ1 else .ok x ρ1 | _ => .stuck) := fun ρ => by rw [evAndM] <;> rfl
          have e2 : ∀ ρ, evOrM (fnsOf cs) M (.cons a (.cons a' as')) ρ = (evM (fnsOf cs) M a ρ).then fun x ρ1 => (match D.truth x with | .ok k => if k then .ok x ρ1 else evOrM (fnsOf cs) M (.cons a' as') ρ1 | _ => .stuck) := fun ρ => by rw [evOrM] <;> rfl
          refine ⟨PE.imp (pe_andT p1 c1) fun σ H Q ⟨ρ, Hs, I, hp⟩ => ⟨ρ, Hs, I, ?_⟩, PE.imp (pe_orT p1 c2) fun σ H Q ⟨ρ, Hs, I, hp⟩ => ⟨ρ, Hs, I, ?_⟩, PW.imp (pw_and p2 c3) fun σ H Q ⟨ρ, Hs, I, hp⟩ => ⟨ρ, Hs, I, ?_⟩, PW.imp (pw_or p2 c4) fun σ H Q ⟨ρ, Hs, I, hp⟩ => ⟨ρ, Hs, I, ?_⟩⟩
          · rw [e1] at hp
            refine use_then hp fun d ρ1 v Hs1 H1 J r hp1 => ?_
            rcases truth_cases d with ⟨k, e⟩ | e
            · rw [e] at hp1
              refine ⟨k, tru_of r J.le.sub e, ?_⟩
              cases k with
              | true => exact ⟨ρ1, Hs1, J.rebase, hp1⟩
              | false => exact hp1 _ _ _ J.rebase r
            · rw [e] at hp1
              exact hp1.elim
          · rw [e2] at hp
            refine use_then hp fun d ρ1 v Hs1 H1 J r hp1 => ?_
            rcases truth_cases d with ⟨k, e⟩ | e
            · rw [e] at hp1
              refine ⟨k, tru_of r J.le.sub e, ?_⟩
              cases k with
              | true => exact hp1 _ _ _ J.rebase r
              | false => exact ⟨ρ1, Hs1, J.rebase, hp1⟩
            · rw [e] at hp1
              exact hp1.elim
          · have hp : PstME RB X.K X.mg W M Fx Hs H0 σ (truM (evAndM (fnsOf cs) M (.cons a (.cons a' as')) ρ)) Q := hp
            rw [e1] at hp
            show PstME RB X.K X.mg W M Fx Hs H0 σ (truM (evM (fnsOf cs) M a ρ)) _
            cases z : evM (fnsOf cs) M a ρ with
            | ok d ρ1 =>
              rw [z] at hp
              have hp : PstME RB X.K X.mg W M Fx Hs H0 σ (truM (match D.truth d with | .ok k => if k then evAndM (fnsOf cs) M (.cons a' as') ρ1 else .ok d ρ1 | _ => .stuck)) Q := hp
              rw [tru_eq]
              rcases truth_cases d with ⟨k, e⟩ | e
              · rw [e] at hp ⊢
                intro b Hi H' I1 rb
                cases rb
                cases k with
                | true => exact ⟨ρ1, Hi, I1.rebase, PstME.base I1.le hp⟩
                | false =>
                  have hp : PstME RB X.K X.mg W M Fx Hs H0 σ (truM (.ok d ρ1)) Q := hp
                  rw [tru_eq, e] at hp
                  exact hp false Hi H' I1 rfl
              · rw [e] at hp
                exact hp.elim
            | exc x ρ1 => rw [z] at hp; exact hp
            | stuck => rw [z] at hp; exact hp.elim
          · have hp : PstME RB X.K X.mg W M Fx Hs H0 σ (truM (evOrM (fnsOf cs) M (.cons a (.cons a' as')) ρ)) Q := hp
            rw [e2] at hp
            show PstME RB X.K X.mg W M Fx Hs H0 σ (truM (evM (fnsOf cs) M a ρ)) _
            cases z : evM (fnsOf cs) M a ρ with
            | ok d ρ1 =>
              rw [z] at hp
              have hp : PstME RB X.K X.mg W M Fx Hs H0 σ (truM (match D.truth d with | .ok k => if k then .ok d ρ1 else evOrM (fnsOf cs) M (.cons a' as') ρ1 | _ => .stuck)) Q := hp
              rw [tru_eq]
              rcases truth_cases d with ⟨k, e⟩ | e
              · rw [e] at hp ⊢
                intro b Hi H' I1 rb
                cases rb
                cases k with
                | false => exact ⟨ρ1, Hi, I1.rebase, PstME.base I1.le hp⟩
                | true =>
                  have hp : PstME RB X.K X.mg W M Fx Hs H0 σ (truM (.ok d ρ1)) Q := hp
                  rw [tru_eq, e] at hp
                  exact hp true Hi H' I1 rfl
              · rw [e] at hp
                exact hp.elim
            | exc x ρ1 => rw [z] at hp; exact hp
            | stuck => rw [z] at hp; exact hp.elim
theorem as_nil : AsOk C cs kk M .nil := fun X W xs hX tk h Fx H0 => by
  rw [chkEAs] at h
  have e : xs = [] := by simpa using h
  subst e
  refine ⟨PA.imp pa_nil fun σ H Q ⟨ρ, Hs, I, hp⟩ => ?_, fun x hx => (by cases hx), rfl, fun i hi => by cases hi⟩
  rw [evAs] at hp
  exact hp [] _ _ I .nil
theorem as_own (i : Nat) {as : EAs} (hs : AsOk C cs kk M as) : AsOk C cs kk M (.own i as) := fun X W xs hX tk h Fx H0 => by
  cases xs with
  | nil => rw [chkEAs] at h; cases h
  | cons x xs =>
    rw [chkEAs] at h
    simp only [Bool.and_eq_true] at h
    obtain ⟨⟨h1, h2⟩, h3⟩ := h
    obtain ⟨hi, n, px, rfl, po⟩ := slot_s hX h2
    obtain ⟨b1, b2, b3, b4⟩ := hs X W xs hX tk h3 Fx H0
    refine ⟨PA.imp (pa_cons po b1 (star_cons h1)) fun σ H Q ⟨ρ, Hs, I, hp⟩ => ?_, fun y hy => ?_, congrArg (· + 1) b3, fun j hj => ?_⟩
    · rw [evAs] at hp
      split at hp
      · rename_i d q0
        obtain ⟨OA, J⟩ := id I
        obtain ⟨v, hv, _⟩ := J.own i d hi q0
        refine ⟨v, hv, ρ, Hs, I, ?_⟩
        cases z : evAs (fnsOf cs) M as ρ with
        | ok ds ρ1 =>
          rw [z] at hp
          exact fun vs Hs1 H1 J1 rs => hp (v :: vs) Hs1 H1 J1 (.own hv rs)
        | exc x ρ1 => rw [z] at hp; exact hp
        | stuck => rw [z] at hp; exact hp.elim
      · exact hp.elim
    · rcases List.mem_cons.mp hy with rfl | hy
      · exact h1
      · exact b2 y hy
    · rcases List.mem_cons.mp hj with rfl | hj
      · exact hi
      · exact b4 j hj
theorem as_val {a : EM} {as : EAs} (ha : MOk C cs kk M a) (hs : AsOk C cs kk M as) : AsOk C cs kk M (.val a as) := fun X W xs hX tk h Fx H0 => by
  cases xs with
  | nil => rw [chkEAs] at h; cases h
  | cons x xs =>
    rw [chkEAs] at h
    simp only [Bool.and_eq_true] at h
    obtain ⟨⟨h1, h2⟩, h3⟩ := h
    obtain ⟨b1, b2, b3, b4⟩ := hs X W xs hX tk h3 Fx H0
    refine ⟨PA.imp (pa_cons (ha X W x hX tk h2 Fx H0).1 b1 (star_cons h1)) fun σ H Q ⟨ρ, Hs, I, hp⟩ => ?_, fun y hy => ?_, congrArg (· + 1) b3, b4⟩
    · rw [evAs] at hp
      refine ⟨ρ, Hs, I, use_then hp fun d ρ1 v Hs1 H1 J r hp1 => ⟨ρ1, Hs1, J.rebase, use_then hp1 fun ds ρ2 vs Hs2 H2 J2 rs hp2 => ?_⟩⟩
      exact hp2 _ _ _ J2.rebase (.val (r.mono J2.le.old) rs)
    · rcases List.mem_cons.mp hy with rfl | hy
      · exact h1
      · exact b2 y hy
mutual
theorem ok_EM : ∀ m : EM, MOk C cs kk M m
  | .pur e => m_pur e
  | .cur e => m_cur e
  | .mth i m k cl as => m_mth i m k cl (ok_EMs as)
  | .cal k as => m_cal k (ok_EAs as)
  | .tup as => m_tup (ok_EMs as)
  | .cmp o a b => m_cmp o (ok_EM a) (ok_EM b)
  | .not a => m_not (ok_EM a)
  | .and as => m_and (ok_EMs as)
  | .or as => m_or (ok_EMs as)
theorem ok_EMs : ∀ as : EMs, MsOk C cs kk M as
  | .nil => ms_nil
  | .cons a as => ms_cons (ok_EM a) (ok_EMs as)
theorem ok_EAs : ∀ as : EAs, AsOk C cs kk M as
  | .nil => as_nil
  | .own i as => as_own i (ok_EAs as)
  | .val a as => as_val (ok_EM a) (ok_EAs as)
end
end
end Py

namespace Py
open PySem PySem.Spec PyProof.Rows L2
variable {Fx : List (Nat × V)}
section
variable {α β : Type} {K : PySem.W.Frag} {mg : Str → Option Value} {W : WX} {M : List Nat} {Hs0 H0 Hs H : Hp} {ρ : Env} {σ : L2.St}
theorem use_flM {Rel : Hp → α → β → Prop} {r : ME α} {k : α → Env → R Fl} {Dd : Ends} {Q : β → Hp → Prop} (I : SInv K M Fx Hs0 H0 ρ Hs σ H) (h : PstS K mg M Fx Hs0 H0 (flM r k) Dd W)
    (q : ∀ a ρ1 b Hs1 H1, SInv K M Fx Hs0 H0 ρ1 Hs1 σ H1 → Rel Hs1 a b → PstS K mg M Fx Hs0 H0 (k a ρ1) Dd W → Q b H1) : PstME Rel K mg W M Fx Hs H0 σ r Q := by
  cases r with
  | ok a ρ1 => exact fun b Hs1 H1 J ra => q a ρ1 b Hs1 H1 (J.base I.le) ra h
  | exc x ρ1 => exact fun c d Hs1 H1 J rx => h c d Hs1 σ H1 (J.base I.le) rx
  | stuck => exact h
theorem FRs.ofReps {ds : List D} {vs : List V} (hd : (ds.all fun y => !y.isDct) = true) (r : Reps K Hs ds vs) : FRs K Hs H ds vs [] := by
  induction ds generalizing vs with
  | nil => cases r; exact .nil
  | cons d ds ih =>
    cases r with
    | cons a t =>
      rw [List.all_cons, Bool.and_eq_true] at hd
      exact .rep (by simpa using hd.1) a (ih hd.2 t)
theorem FRs.noDct {ds : List D} {vs : List V} {A : List Addr} (h : FRs K Hs H ds vs A) : (ds.all fun y => !y.isDct) = true → A = [] ∧ Reps K Hs ds vs := by
  induction h with
  | nil => exact fun _ => ⟨rfl, .nil⟩
  | rep _ r _ ih =>
    intro z
    rw [List.all_cons, Bool.and_eq_true] at z
    obtain ⟨a, b⟩ := ih z.2
    exact ⟨a, .cons r b⟩
  | dct _ _ _ _ _ _ =>
    intro z
    rw [List.all_cons, Bool.and_eq_true] at z
    cases z.1
theorem putN_all {f : Str} {d : D} (hd : d.isDct = false) : ∀ {ns : List Str} {ys : List D}, (ys.all fun y => !y.isDct) = true → ((putN f d ns ys).2.all fun y => !y.isDct) = true
  | [], _, _ => by simp [putN, hd]
  | _ :: _, [], _ => by simp [putN, hd]
  | n :: ns, y :: ys, h => by
    rw [List.all_cons, Bool.and_eq_true] at h
    show ((if n = f then (n :: ns, d :: ys) else (n :: (putN f d ns ys).1, y :: (putN f d ns ys).2)).2.all fun y => !y.isDct) = true
    by_cases c : n = f
    · rw [if_pos c, List.all_cons, hd, h.2]
      rfl
    · rw [if_neg c, List.all_cons, h.1, putN_all hd h.2]
      rfl
theorem putN_ok {f : Str} {d : D} {v : V} (rd : Rep K Hs d v) : ∀ {fs : List (Str × V)} {ys : List D}, Reps K Hs ys (fs.map (·.2)) →
    (L2.putF f v fs).map (·.1) = (putN f d (fs.map (·.1)) ys).1 ∧ Reps K Hs (putN f d (fs.map (·.1)) ys).2 ((L2.putF f v fs).map (·.2))
  | [], [], .nil => ⟨rfl, .cons rd .nil⟩
  | (g, x) :: fs, y :: ys, .cons r t => by
    obtain ⟨a, b⟩ := putN_ok rd t
    rw [show L2.putF f v ((g, x) :: fs) = (if g = f then (g, v) :: fs else (g, x) :: L2.putF f v fs) from rfl]
    show _ = (if g = f then (g :: fs.map (·.1), d :: ys) else (g :: (putN f d (fs.map (·.1)) ys).1, y :: (putN f d (fs.map (·.1)) ys).2)).1 ∧ Reps K Hs (if g = f then (g :: fs.map (·.1), d :: ys) else (g :: (putN f d (fs.map (·.1)) ys).1, y :: (putN f d (fs.map (·.1)) ys).2)).2 _
    by_cases h : g = f
    · simp only [if_pos h]
      exact ⟨rfl, .cons rd t⟩
    · simp only [if_neg h]
      exact ⟨congrArg (g :: ·) a, .cons r b⟩
end
section
variable {C : Cfg} {cs : List Cal} {kk : Nat} {M : List Nat}
theorem asg_sw {X : Cx} {N : List Str} {i : Nat} {tg e : Expr} (h1 : chkTgt N X.env.scope X.env.scope (.nm i) tg = true) : swappedStores [tg] e X.env = pure none := by
  have h1 : (match xName tg with | some x => decide (N[i]? = some x) && locOk X.env.scope X.env.scope x | none => false) = true := h1
  cases z : xName tg with
  | none => rw [z] at h1; cases h1
  | some x =>
    obtain ⟨px, rfl⟩ := xName_s z
    cases e <;> rfl
theorem ok_ownN (i : Nat) : SOk C cs kk M (.ownN i) := fun X W st hX sx tk h Fx hfx Hs0 H0 => by
  rw [chkS] at h
  cases q : sAsg st with
  | none => rw [q] at h; cases h
  | some u =>
    obtain ⟨tg, e, p⟩ := u
    rw [q] at h
    have hst := sAsg_s q
    subst hst
    simp only [Bool.and_eq_true] at h
    obtain ⟨⟨⟨h1, h2⟩, h4⟩, hnp⟩ := h
    have hi : i ∈ M := by simpa using h4
    have fxi : ∀ p ∈ Fx, p.1 ≠ i := fun p hp => by have := (hfx p hp).2; have := of_decide_eq_true hnp; omega
    have hg : PG X tg (gOf X.K (.nm i)) := pg_of hX.calm hX.names hX.nd rfl (fun x _ => sx.fn x) h1
    cases q2 : xConst e with
    | none => rw [q2] at h2; cases h2
    | some c =>
      rw [q2] at h2
      obtain ⟨j, pp, rfl⟩ := xConst_s q2
      cases c with
      | none =>
        refine PS.imp (ps_asg pe_non hg (by exact rfl) (asg_sw h1) (tgt_stores h1 X.env)) fun Dd σ H ⟨ρ, Hs, I, hp⟩ => ?_
        rw [exec] at hp
        obtain ⟨OA, I⟩ := I
        exact hp Hs (σ.set i (some .non)) H ⟨_, I.lay hi fxi .non (fun a ha => by cases ha) List.nodup_nil fun a ha => by cases ha⟩
      | _ => cases h2
theorem ok_setf (cl : Bool) (i : Nat) (f : Str) (a : E) : SOk C cs kk M (.setf cl i f a) := fun X W st hX sx tk h Fx hfx Hs0 H0 => by
  rw [chkS] at h
  cases q : sAsg st with
  | none => rw [q] at h; cases h
  | some u =>
    obtain ⟨tg, e, p⟩ := u
    rw [q] at h
    have hst := sAsg_s q
    subst hst
    simp only [Bool.and_eq_true] at h
    obtain ⟨⟨h1, h2⟩, h3⟩ := h
    cases z : xAttr tg with
    | none => rw [z] at h3; cases h3
    | some w =>
      obtain ⟨o, g⟩ := w
      rw [z] at h3
      obtain ⟨pa, rfl⟩ := xAttr_s z
      simp only [Bool.and_eq_true, decide_eq_true_eq] at h3
      obtain ⟨⟨rfl, h4⟩, h5⟩ := h3
      obtain ⟨hi, x, px, rfl, po⟩ := slot_s hX h5
      refine PS.imp (ps_fld po (ok_E a X W e hX tk h1).1 (sw_no h2 _ _ _)) fun Dd σ H ⟨ρ, Hs, I, hp⟩ => ?_
      rw [exec] at hp
      refine use_D I hp fun d v Hj H' J r hp => ?_
      unfold setfD at hp
      split at hp
      · rename_i c ns ys q0
        split at hp
        · rename_i hz
          obtain ⟨OA, JA⟩ := id J
          obtain ⟨v1, hv1, r1, n1, nd1⟩ := JA.own i _ hi q0
          obtain ⟨A, hA⟩ : ∃ A, A = OA i := ⟨_, rfl⟩
          rw [← hA] at r1
          cases r1 with
          | val l _ => simp [D.lf] at l
          | obj e1 T en fr =>
            rename_i p C1 dx fs A
            subst en
            refine ⟨_, hv1, p, C1, dx, fs, rfl, e1, T.cl, T.na _ (List.contains_iff_mem.mp h4), by have := hz.1; rw [List.length_map] at this; omega, ?_⟩
            obtain ⟨eA, rr⟩ := fr.noDct hz.2.1
            subst eA
            obtain ⟨b1, b2⟩ := putN_ok (f := g) r rr
            refine hp Hj σ _ ⟨OA, JA.alter hi q0 hv1 (by rw [← hA]; simp) ?_⟩
            rw [← hA]
            exact .obj upd_same T b1 (FRs.ofReps (putN_all hz.2.2 hz.2.1) b2)
        · exact hp.elim
      · exact hp.elim
theorem ok_mk (i : Nat) (c : Str) (k : Nat) (es : Es) : SOk C cs kk M (.mk i c k es) := fun X W st hX sx tk h Fx hfx Hs0 H0 => by
  rw [chkS] at h
  cases q : sAsg st with
  | none => rw [q] at h; cases h
  | some u =>
    obtain ⟨tg, e, p⟩ := u
    rw [q] at h
    have hst := sAsg_s q
    subst hst
    simp only [Bool.and_eq_true] at h
    obtain ⟨⟨⟨⟨⟨h1, h4⟩, hnp⟩, hmx⟩, hnc⟩, h2⟩ := h
    have hi : i ∈ M := by simpa using h4
    have fxi : ∀ p ∈ Fx, p.1 ≠ i := fun p hp => by have := (hfx p hp).2; have := of_decide_eq_true hnp; omega
    have hg : PG X tg (gOf X.K (.nm i)) := pg_of hX.calm hX.names hX.nd rfl (fun x _ => sx.fn x) h1
    cases q2 : xCall e with
    | none => rw [q2] at h2; cases h2
    | some w =>
      obtain ⟨x, xs⟩ := w
      rw [q2] at h2
      obtain ⟨pn, pos, rfl⟩ := xCall_s q2
      simp only [Bool.and_eq_true, decide_eq_true_eq] at h2
      obtain ⟨⟨⟨⟨rfl, c1⟩, c2⟩, c3⟩, c4⟩ := h2
      obtain ⟨j, rfl, Fj⟩ := hX.mxs hmx
      obtain ⟨cal, qc, hnm, hn, hcl, ho, eg, _⟩ := cal_at hX c2 c3
      have F := Fj cal (List.mem_of_getElem? qc)
      obtain ⟨C0, m1, T, mk⟩ := F.ini hnm x (by rw [hcl]; exact List.mem_singleton.mpr rfl)
      obtain ⟨a1, a2, a3, _⟩ := (ok_Es es).args X W xs hX tk c4
      have hfm := F.fm (by rw [ho]; exact fun z => nomatch z)
      rw [ho] at hfm
      obtain ⟨g1, g2, g3⟩ := gl_of c1
      have fin : ∀ Dd σ H, tS X.K X.mg W M Fx Hs0 H0 (exec (fnsOf cs) M (.mk i x k es)) Dd σ H → tAsg (tMakeQ C0 (spM X.K X.mg (true :: List.replicate es.len false) cal.g) (WE W) (tDL X.K X.mg W (evs (fnsOf cs) es))) (gOf X.K (.nm i)) Dd σ H := by
        rintro Dd σ H ⟨ρ, Hs, I, hp⟩
        rw [exec] at hp
        obtain ⟨Hb, e1, e2, _, e3⟩ := I.enter true
        refine ⟨_, Hb, e1, e2, use_P (Rel := Reps X.K) (l := D.lfs) e3 (fun _ _ _ _ dn z r => r.down dn z) hp fun ds vs Hj H1 eds J r hp => ?_⟩
        intro a dx na nx ne
        unfold mkD at hp
        rw [eg] at hp
        simp only at hp
        split at hp
        · rename_i hlen
          obtain ⟨H2, eH2⟩ : ∃ H2, H2 = upd (upd H1 dx (.own a)) a (.ins C0 dx []) := ⟨_, rfl⟩
          rw [← eH2]
          have la : ds.length = es.len := by omega
          have w1 : H2 a = some (.ins C0 dx []) := by rw [eH2]; exact upd_same
          have w2 : H2 dx = some (.own a) := by rw [eH2, upd_ne ne]; exact upd_same
          have w3 : ∀ b, b ≠ a → b ≠ dx → H2 b = H1 b := fun b h1 h2 => by rw [eH2, upd_ne h1, upd_ne h2]
          have ew : without H2 [a] = upd H1 dx (.own a) := by
            funext b
            unfold without
            by_cases z1 : b = a
            · subst z1; rw [if_pos (by simp), upd_ne (Ne.symm ne), na]
            rw [if_neg (by simp [z1]), eH2, upd_ne z1]
          have l0 : Le Hj H1 Hj (upd H1 dx (.own a)) := Le.new0 J.le.sub nx
          have hjn : ∀ b, H1 b = none → Hj b = none := fun b hb => by
            cases z : Hj b with
            | none => rfl
            | some o => rw [J.le.sub b o z] at hb; cases hb
          refine ⟨Hj, .obj x [] [] :: ds, [[a]], fun b o h => ?_, .own (.obj (fs := []) w1 T rfl .nil) (by rw [← la]; exact args_vals r), fun b hb => ?_, by simp, ?_⟩
          · have h' := J.le.sub b o h
            rw [w3 b (fun z => by subst z; rw [na] at h'; cases h') (fun z => by subst z; rw [nx] at h'; cases h')]
            exact h'
          · have hb : b = a := by simpa using hb
            subst hb
            exact hjn _ na
          · have pk : pick (true :: List.replicate es.len false) (V.ref a :: vs) = [V.ref a] := by
              show V.ref a :: pick (List.replicate es.len false) vs = _
              rw [pick_vals]
            have fl : ([[a]] : List (List Addr)).flatten = [a] := by simp
            rw [pk, fl]
            cases hd : decM (cal.g (.obj x [] [] :: ds)) with
            | stuck => rw [hd] at hp; exact hp.elim
            | exc xx os =>
              rw [hd] at hp
              intro c d Hi H' Bs le rx _ _ _
              rw [ew] at le
              exact hp c d Hi σ H' (J.step (l0.trans le)) rx
            | ok d os =>
              rw [hd] at hp
              match d, os, hp with
              | .non, [o], hp =>
                intro v Hi H' Bs le rv ow hB nd
                rw [ew] at le
                refine ⟨rv.nonI, ?_⟩
                cases ow with
                | cons r1 t =>
                  cases t
                  rename_i A
                  rw [List.flatten_cons, List.flatten_nil, List.append_nil] at hB nd
                  obtain ⟨OA, JA⟩ := J
                  have hb0 : ∀ b ∈ A, H1 b = none := fun b hb => by
                    rcases (hB b hb).2 with z | z
                    · have z : b = a := by simpa using z
                      subst z
                      exact na
                    · rw [← w3 b (fun z1 => by subst z1; rw [w1] at z; cases z) (fun z1 => by subst z1; rw [w2] at z; cases z)]
                      exact z
                  exact hp Hi (σ.set i (some (.ref a))) H' ⟨_, (JA.step (l0.trans le)).lay hi fxi r1 (fun b hb => ⟨(hB b hb).1, JA.le.free (hb0 b hb)⟩) nd fun b hb => JA.fresh (hb0 b hb)⟩
              | .non, [], hp => exact hp.elim
              | .non, _ :: _ :: _, hp => exact hp.elim
              | .int _, _, hp => exact hp.elim
              | .bl _, _, hp => exact hp.elim
              | .str _, _, hp => exact hp.elim
              | .tup _, _, hp => exact hp.elim
              | .lst _, _, hp => exact hp.elim
              | .scr _, _, hp => exact hp.elim
              | .dic, _, hp => exact hp.elim
              | .ftp _, _, hp => exact hp.elim
              | .exv _ _, _, hp => exact hp.elim
              | .obj _ _ _, _, hp => exact hp.elim
              | .dct _ _, _, hp => exact hp.elim
              | .dkt _, _, hp => exact hp.elim
        · exact hp.elim
      have hsw : swapsWithSole [tg] (.Call (.Name x pn) xs [] pos) p.line X.env = pure false := sw_no hnc (some tg) p.line X.env
      cases xs with
      | nil =>
        have e0 : es = .nil := by
          cases es with
          | nil => rfl
          | cons _ _ => simp [Es.len] at a3
        subst e0
        refine PS.imp (ps_asg (pe_makeQ0 mk hfm hX.room g1 m1 F.bd (fun σ => passAt tk σ) g2) hg hsw (asg_sw h1) (tgt_stores h1 X.env)) fun Dd σ H hh => ?_
        obtain ⟨ρ, Hb, e1, e2, c2⟩ := fin Dd σ H hh
        rw [evs] at c2
        exact c2 [] Hb H (Le.refl e1) .nil
      | cons y ys => exact PS.imp (ps_asg (pe_makeQ mk hfm hX.room g1 m1 F.bd (fun σ => passAt tk σ) a1 g2 (star_cons (a2 y (by simp))) (star_any fun x hx => a2 x (by simp [hx]))) hg hsw (asg_sw h1) (tgt_stores h1 X.env)) fin
theorem ok_ownV (cl : Bool) (i : Nat) (a : E) : SOk C cs kk M (.ownV cl i a) := fun X W st hX sx tk h Fx hfx Hs0 H0 => by
  rw [chkS] at h
  cases q : sAsg st with
  | none => rw [q] at h; cases h
  | some u =>
    obtain ⟨tg, e, p⟩ := u
    rw [q] at h
    have hst := sAsg_s q
    subst hst
    simp only [Bool.and_eq_true] at h
    obtain ⟨⟨⟨⟨h1, h2⟩, h3⟩, h4⟩, hnp⟩ := h
    have hi : i ∈ M := by simpa using h4
    have fxi : ∀ p ∈ Fx, p.1 ≠ i := fun p hp => by have := (hfx p hp).2; have := of_decide_eq_true hnp; omega
    have hg : PG X tg (gOf X.K (.nm i)) := pg_of hX.calm hX.names hX.nd rfl (fun x _ => sx.fn x) h1
    refine PS.imp (ps_asg (ok_E a X W e hX tk h2).1 hg (sw_no h3 _ _ _) (asg_sw h1) (tgt_stores h1 X.env)) fun Dd σ H ⟨ρ, Hs, I, hp⟩ => ?_
    rw [exec] at hp
    refine use_D I hp fun d v Hj H' J r hp => ?_
    by_cases l : d.lf = true
    · rw [if_pos l] at hp
      obtain ⟨OA, J⟩ := J
      exact hp Hj (σ.set i (some v)) H' ⟨_, J.lay hi fxi (.val l r) (fun a ha => by cases ha) List.nodup_nil fun a ha => by cases ha⟩
    · rw [if_neg l] at hp
      exact hp.elim
theorem ok_mk2 (i j : Nat) (k : Nat) (es : Es) : SOk C cs kk M (.mk2 i j k es) := fun X W st hX sx tk h Fx hfx Hs0 H0 => by
  rw [chkS] at h
  cases q : sAsg st with
  | none => rw [q] at h; cases h
  | some u =>
    obtain ⟨tg, e, p⟩ := u
    rw [q] at h
    have hst := sAsg_s q
    subst hst
    simp only [Bool.and_eq_true, Bool.not_eq_true'] at h
    obtain ⟨⟨⟨⟨⟨⟨h1, h2⟩, h3⟩, h4⟩, h5⟩, h6⟩, hnp⟩ := h
    have hi : i ∈ M := by simpa using h5
    have hj : j ∉ M := fun z => by
      have : M.contains j = true := List.contains_iff_mem.mpr z
      rw [this] at h6; cases h6
    have hij : i ≠ j := fun z => hj (z ▸ hi)
    have fxi : ∀ p ∈ Fx, p.1 ≠ i := fun p hp => by have := (hfx p hp).2; have := of_decide_eq_true hnp; omega
    have hg : PG X tg (gOf X.K (.tp [i, j])) := pg_of hX.calm hX.names hX.nd rfl (fun x _ => sx.fn x) h1
    rw [chk] at h2
    cases q9 : xCall e with
    | none => rw [q9] at h2; cases h2
    | some w =>
      obtain ⟨x, xs⟩ := w
      rw [q9] at h2
      obtain ⟨p9, pos9, rfl⟩ := xCall_s q9
      simp only [Bool.and_eq_true, decide_eq_true_eq] at h2
      obtain ⟨⟨⟨⟨c1, c0⟩, c2⟩, c3⟩, c4⟩ := h2
      obtain ⟨cal, _, rfl, hn, hc, ho, eg, F⟩ := cal_at hX c1 c0
      obtain ⟨a1, a2, a3, _⟩ := (ok_Es es).args X W xs hX tk c4
      cases xs with
      | nil => exact absurd a3.symm c2
      | cons y ys =>
        obtain ⟨g1, g2, g3⟩ := gl_of c3
        refine PS.imp (ps_asg (pe_callS (F.fn ho) hX.room g1 (F.gl hc) F.kp F.bd (fun σ => passAt tk σ) a1 g2 (star_cons (a2 y (by simp))) (star_any fun x hx => a2 x (by simp [hx]))) hg (sw_no h3 (some tg) p.line X.env) (swst_no h4 X.env) (tgt_stores h1 X.env)) fun Dd σ H ⟨ρ, Hs, I, hp⟩ => ?_
        rw [exec] at hp
        obtain ⟨Hb, e1, e2, _, e3⟩ := I.enter false
        refine ⟨_, Hb, e1, e2, use_P (Rel := Reps X.K) (l := D.lfs) e3 (fun _ _ _ _ dn z r => r.down dn z) hp fun ds vs Hi H1 eds J r hp => ?_⟩
        unfold mk2D at hp
        rw [eg] at hp
        simp only at hp
        split at hp
        · rename_i hlen
          refine ⟨noL Hi, ds, (noL_sub Hi).trans J.le.sub, r.drop (noL_keep Hi) hlen.2, hlen.1.trans hn.symm, ?_⟩
          cases hgd : cal.g ds with
          | stuck => rw [hgd] at hp; exact hp.elim
          | exc x => rw [hgd] at hp; exact hp.elim
          | ok d =>
            rw [hgd] at hp
            intro v Hk H2 l2 rv
            match d, hp, rv with
            | .tup [o, y], hp, rv =>
              obtain ⟨t, ws, rfl, ht, rs⟩ := rv.tupI
              cases rs with
              | cons r1 rs =>
                rename_i v1 ws
                cases rs with
                | cons r2 rs =>
                  rename_i v2 ws
                  cases rs
                  by_cases hc : (y.lf && o.mkOk) = true
                  rotate_left
                  · have hp : PstS X.K X.mg M Fx Hs0 H0 (if (y.lf && o.mkOk) = true then .ok (.nx ((ρ.set i (some o)).set j (some y))) else .stuck) Dd W := hp
                    rw [if_neg hc] at hp
                    exact hp.elim
                  have hp : PstS X.K X.mg M Fx Hs0 H0 (if (y.lf && o.mkOk) = true then .ok (.nx ((ρ.set i (some o)).set j (some y))) else .stuck) Dd W := hp
                  rw [if_pos hc] at hp
                  rw [Bool.and_eq_true] at hc
                  obtain ⟨hy, ho2⟩ := hc
                  have fin : ∀ {Hj : Hp} {A : List Addr}, Le Hi H1 Hj H2 → OwnR X.K Hj H2 o v1 A → Rep X.K Hj y v2 → (∀ a ∈ A, Hj a = none ∧ H1 a = none) → A.Nodup → gOf X.K (.tp [i, j]) (.ref t) σ H2 Dd.nx := fun {Hj A} l rO rY hA nd => by
                    obtain ⟨OA, JA⟩ := J
                    have I1 : SInv X.K M Fx Hs0 H0 (ρ.set i (some o)) Hj (σ.set i (some v1)) H2 := ⟨_, (JA.step l).lay hi fxi rO (fun a ha => ⟨(hA a ha).1, JA.le.free (hA a ha).2⟩) nd fun a ha => JA.fresh (hA a ha).2⟩
                    exact ⟨t, _, rfl, SqT.of (l2.sub _ _ ht), rfl, v1, _, rfl, v2, _, rfl, rfl, hp _ _ _ (I1.set hj rY)⟩
                  by_cases hob : ∃ c ns ys, o = .obj c ns ys
                  · obtain ⟨c, ns, ys, rfl⟩ := hob
                    have ho2 : (D.nobs ys && ys.all fun y => !y.isDct) = true := ho2
                    rw [Bool.and_eq_true] at ho2
                    obtain ⟨p, C0, dx, fs, rfl, h1, T, en, rys⟩ := r1.objI
                    have hnew : H1 p = none := by
                      rcases l2.new p _ h1 with w | w
                      · exact absurd w (noL_soft rfl)
                      · exact w
                    have hHi : Hi p = none := by
                      cases z : Hi p with
                      | none => rfl
                      | some o => rw [J.le.sub p o z] at hnew; cases hnew
                    have kp := both2_keepS (o0 := .ins C0 dx fs) rfl J.le.sub l2 h1
                    refine fin (both2_le (p := some p) J.le.sub l2) (.obj (l2.sub _ _ h1) T en (FRs.ofReps ho2.2 (rys.dropI (both2_keepI (o0 := .ins C0 dx fs) rfl J.le.sub l2 h1) ho2.1))) (r2.drop kp hy) (fun a ha => ?_) (by simp)
                    have ha := List.mem_singleton.mp ha
                    subst ha
                    refine ⟨?_, hnew⟩
                    unfold both2
                    rw [hHi]
                    simp
                  · have ho3 : o.lf = true := by
                      cases o with
                      | obj c ns ys => exact absurd ⟨_, _, _, rfl⟩ hob
                      | _ => exact ho2
                    have kx := both2_ex J.le.sub l2
                    exact fin (both2_le (p := none) J.le.sub l2) (.val ho3 (r1.mono kx)) (r2.mono kx) (fun a ha => by cases ha) List.nodup_nil
            | .tup [], hp, _ => exact hp.elim
            | .tup [_], hp, _ => exact hp.elim
            | .tup (_ :: _ :: _ :: _), hp, _ => exact hp.elim
            | .non, hp, _ => exact hp.elim
            | .int _, hp, _ => exact hp.elim
            | .bl _, hp, _ => exact hp.elim
            | .str _, hp, _ => exact hp.elim
            | .lst _, hp, _ => exact hp.elim
            | .scr _, hp, _ => exact hp.elim
            | .dic, hp, _ => exact hp.elim
            | .ftp _, hp, _ => exact hp.elim
            | .exv _ _, hp, _ => exact hp.elim
            | .obj _ _ _, hp, _ => exact hp.elim
            | .dct _ _, hp, _ => exact hp.elim
            | .dkt _, hp, _ => exact hp.elim
        · exact hp.elim
theorem ok_asgM (t : Tgt) (m : EM) : SOk C cs kk M (.asgM t m) := fun X W st hX sx tk h Fx hfx Hs0 H0 => by
  rw [chkS] at h
  cases q : sAsg st with
  | none => rw [q] at h; cases h
  | some u =>
    obtain ⟨tg, e, p⟩ := u
    rw [q] at h
    have hst := sAsg_s q
    subst hst
    simp only [Bool.and_eq_true] at h
    obtain ⟨⟨⟨⟨h1, h2⟩, h3⟩, h4⟩, h5⟩ := h
    have hi := allM h5
    have hg : PG X tg (gOf X.K t) := pg_of hX.calm hX.names hX.nd rfl (fun x _ => sx.fn x) h1
    have hw : swappedStores [tg] e X.env = pure none := by
      cases t with
      | tp is => exact swst_no h4 X.env
      | nm i => exact asg_sw h1
    refine PS.imp (ps_asg (ok_EM m X W e hX tk h2 Fx H0).1 hg (sw_no h3 _ _ _) hw (tgt_stores h1 X.env)) fun Dd σ H ⟨ρ, Hs, I, hp⟩ => ?_
    rw [exec] at hp
    exact ⟨ρ, Hs, I.rebase, use_flM I hp fun d ρ1 v Hs1 H1 J r hp => use_T hp r J hi fun ρ' σ' J' hp => hp _ _ _ J'⟩
theorem ok_exM (m : EM) : SOk C cs kk M (.exM m) := fun X W st hX sx tk h Fx hfx Hs0 H0 => by
  rw [chkS] at h
  cases q : sExp st with
  | none => rw [q] at h; cases h
  | some u =>
    obtain ⟨e, p⟩ := u
    rw [q] at h
    have hst := sExp_s q
    subst hst
    simp only [Bool.and_eq_true] at h
    refine PS.imp (ps_expr (ok_EM m X W e hX tk h.1 Fx H0).1 (sw_no h.2 _ _ _)) fun Dd σ H ⟨ρ, Hs, I, hp⟩ => ?_
    rw [exec] at hp
    exact ⟨ρ, Hs, I.rebase, use_flM I hp fun d ρ1 v Hs1 H1 J r hp => hp _ _ _ J⟩
theorem ok_retM (m : EM) : SOk C cs kk M (.retM m) := fun X W st hX sx tk h Fx hfx Hs0 H0 => by
  rw [chkS] at h
  cases q : sRet st with
  | none => rw [q] at h; cases h
  | some u =>
    cases u with
    | none => rw [q] at h; cases h
    | some e =>
      rw [q] at h
      obtain ⟨pos, rfl⟩ := sRet_s q
      refine PS.imp (ps_ret (ok_EM m X W e hX tk h Fx H0).1) fun Dd σ H ⟨ρ, Hs, I, hp⟩ => ?_
      rw [exec] at hp
      exact ⟨ρ, Hs, I.rebase, use_flM I hp fun d ρ1 v Hs1 H1 J r hp => hp _ _ _ J.le r⟩
theorem ok_retO (m : EM) : SOk C cs kk M (.retO m) := fun X W st hX sx tk h Fx hfx Hs0 H0 => by
  rw [chkS] at h
  cases q : sRet st with
  | none => rw [q] at h; cases h
  | some u =>
    cases u with
    | none => rw [q] at h; cases h
    | some e =>
      rw [q] at h
      obtain ⟨pos, rfl⟩ := sRet_s q
      refine PS.imp (ps_ret (ok_EM m X W e hX tk h Fx H0).1) fun Dd σ H ⟨ρ, Hs, I, hp⟩ => ?_
      rw [exec] at hp
      exact ⟨ρ, Hs, I.rebase, use_flM I hp fun d ρ1 v Hs1 H1 J r hp => hp _ _ _ _ J r⟩
theorem ok_iteM (m : EM) {a b : Ss} (ha : SsOk C cs kk M a) (hb : SsOk C cs kk M b) : SOk C cs kk M (.iteM m a b) := fun X W st hX sx tk h Fx hfx Hs0 H0 => by
  rw [chkS] at h
  cases q : sIf st with
  | none => rw [q] at h; cases h
  | some u =>
    obtain ⟨e, pa, pb⟩ := u
    rw [q] at h
    obtain ⟨pos, rfl⟩ := sIf_s q
    simp only [Bool.and_eq_true] at h
    obtain ⟨⟨h1, h2⟩, h3⟩ := h
    refine PS.imp (ps_if (ok_EM m X W e hX tk h1 Fx H0).2 (ha X W pa hX sx tk h2 Fx hfx Hs0 H0) (hb X W pb hX sx tk h3 Fx hfx Hs0 H0)) fun Dd σ H ⟨ρ, Hs, I, hp⟩ => ?_
    rw [exec] at hp
    refine ⟨ρ, Hs, I.rebase, ?_⟩
    show PstME RB X.K X.mg W M Fx Hs H0 σ (truM (evM (fnsOf cs) M m ρ)) _
    cases z : evM (fnsOf cs) M m ρ with
    | ok d ρ1 =>
      rw [z] at hp
      have hp : PstS X.K X.mg M Fx Hs0 H0 (match D.truth d with | .ok true => execs (fnsOf cs) M a ρ1 | .ok false => execs (fnsOf cs) M b ρ1 | _ => .stuck) Dd W := hp
      rw [tru_eq]
      rcases truth_cases d with ⟨k, e⟩ | e
      · rw [e] at hp ⊢
        intro b' Hi H' J rb
        cases rb
        cases k with
        | true => exact iteT ⟨ρ1, Hi, J.base I.le, hp⟩
        | false => exact iteF ⟨ρ1, Hi, J.base I.le, hp⟩
      · rw [e] at hp
        exact hp.elim
    | exc x ρ1 =>
      rw [z] at hp
      exact fun c d Hs1 H1 J rx => hp c d Hs1 σ H1 (J.base I.le) rx
    | stuck => rw [z] at hp; exact hp.elim
end
end Py

namespace Py
open PySem PySem.Spec PyProof.Rows L2
variable {Fx : List (Nat × V)}
/-- what an instance with its dicts lies in -/
def softB : HO → Bool
  | .ins _ _ _ => true
  | .own _ => true
  | .dK _ => true
  | _ => false
mutual
theorem Rep.dropB {K : PySem.W.Frag} {H H' : Hp} (e : ∀ a o, H a = some o → softB o = false → H' a = some o) : ∀ {d : D} {v : V}, Rep K H d v → d.nod = true → Rep K H' d v
  | _, _, .non, _ => .non
  | _, _, .bl b, _ => .bl b
  | _, _, .int i, _ => .int i
  | _, _, .str x, _ => .str x
  | _, _, .tup h r, l => .tup (e _ _ h rfl) (Reps.dropB e r (by simpa [D.nod] using l))
  | _, _, .lst h r, l => .lst (e _ _ h rfl) (Reps.dropB e r (by simpa [D.nod] using l))
  | _, _, .scr h, _ => .scr (h.imp (fun ⟨o, q⟩ => ⟨o, e _ _ q rfl⟩) id)
  | _, _, .dic _, l => by simp [D.nod] at l
  | _, _, .ftp h c d, _ => .ftp (e _ _ h rfl) c d
  | _, _, .dkt h1 h2 r, _ => .dkt (e _ _ h1 rfl) h2 (r.mono fun b xs q => e b _ q rfl)
  | _, _, .exv0 h1 h2 h3 h4, _ => .exv0 h1 h2 h3 (e _ _ h4 rfl)
  | _, _, .exv1 h1 h2 h3 h4 h5 h6 r, l => .exv1 h1 h2 h3 h4 (e _ _ h5 rfl) (e _ _ h6 rfl) (Rep.dropB e r (by simpa [D.nod, D.nods] using l))
  | _, _, .obj _ _ _ _, l => by simp [D.nod] at l
  | _, _, .dct _ _ _, l => by simp [D.nod] at l
theorem Reps.dropB {K : PySem.W.Frag} {H H' : Hp} (e : ∀ a o, H a = some o → softB o = false → H' a = some o) : ∀ {ds : List D} {vs : List V}, Reps K H ds vs → D.nods ds = true → Reps K H' ds vs
  | _, _, .nil, _ => .nil
  | _, _, .cons r t, l => by
    simp only [D.nods, Bool.and_eq_true] at l
    exact .cons (Rep.dropB e r l.1) (Reps.dropB e t l.2)
end
theorem maskB_get : ∀ (M : List Nat) (ρ : Env) (i : Nat) (d : D), (maskB M ρ)[i]? = some (some d) → ρ[i]? = some (some d) ∧ (i ∈ M → d.isO = true)
  | [], ρ, i, d, h => ⟨h, fun z => by cases z⟩
  | j :: M, ρ, i, d, h => by
    have h : (maskB M (match ρ[j]? with | some (some d) => if d.isO then ρ else ρ.set j none | _ => ρ))[i]? = some (some d) := h
    obtain ⟨h1, h2⟩ := maskB_get M _ i d h
    have old : ∀ (h1 : (ρ.set j none)[i]? = some (some d)), ρ[i]? = some (some d) ∧ i ≠ j := fun h1 => by
      by_cases e : j = i
      · subst e
        by_cases hl : j < ρ.length
        · rw [List.getElem?_set_self hl] at h1
          cases h1
        · rw [List.getElem?_eq_none (by simpa using hl)] at h1
          cases h1
      · rw [List.getElem?_set_ne e] at h1
        exact ⟨h1, Ne.symm e⟩
    cases q : ρ[j]? with
    | none =>
      rw [q] at h1
      refine ⟨h1, fun hm => ?_⟩
      rcases List.mem_cons.mp hm with e | hm
      · subst e
        have h1 : ρ[i]? = some (some d) := h1
        rw [q] at h1; cases h1
      · exact h2 hm
    | some o =>
      cases o with
      | none =>
        rw [q] at h1
        refine ⟨h1, fun hm => ?_⟩
        rcases List.mem_cons.mp hm with e | hm
        · subst e
          have h1 : ρ[i]? = some (some d) := h1
          rw [q] at h1; cases h1
        · exact h2 hm
      | some d0 =>
        rw [q] at h1
        have h9 : (if d0.isO = true then ρ else ρ.set j none)[i]? = some (some d) := h1
        by_cases c : d0.isO = true
        · rw [if_pos c] at h9
          refine ⟨h9, fun hm => ?_⟩
          rcases List.mem_cons.mp hm with e | hm
          · subst e
            rw [q] at h9
            cases h9
            exact c
          · exact h2 hm
        · rw [if_neg c] at h9
          obtain ⟨h3, h4⟩ := old h9
          refine ⟨h3, fun hm => ?_⟩
          rcases List.mem_cons.mp hm with e | hm
          · exact absurd e h4
          · exact h2 hm
theorem maskB_len : ∀ (M : List Nat) (ρ : Env), (maskB M ρ).length = ρ.length
  | [], ρ => rfl
  | j :: M, ρ => by
    show (maskB M (match ρ[j]? with | some (some d) => if d.isO then ρ else ρ.set j none | _ => ρ)).length = _
    rw [maskB_len M]
    split
    · split
      · rfl
      · rw [List.length_set]
    · rfl
section
variable {K : PySem.W.Frag} {mg : Str → Option Value} {M : List Nat} {Hs0 H0 Hs H Hi H' : Hp} {ρ ρ' : Env} {σ : L2.St} {OA : Nat → List Addr}
theorem FRs.softB {ds : List D} {vs : List V} {A : List Addr} (h : FRs K Hs H ds vs A) : ∀ a ∈ A, ∃ o, H a = some o ∧ Py.softB o = true := by
  induction h with
  | nil => exact fun a ha => by cases ha
  | rep _ _ _ ih => exact ih
  | dct e _ _ _ _ ih =>
    intro a ha
    rcases List.mem_cons.mp ha with rfl | ha
    · exact ⟨_, e, rfl⟩
    · exact ih a ha
theorem OwnR.softB {d : D} {v : V} {A : List Addr} (h : OwnR K Hs H d v A) (hd : d.isO = true) : ∀ a ∈ A, ∃ o, H a = some o ∧ Py.softB o = true := by
  cases h with
  | non => exact fun a ha => by cases ha
  | lst e _ => cases hd
  | obj e1 _ _ r =>
    intro a ha
    rcases List.mem_cons.mp ha with rfl | ha
    · exact ⟨_, e1, rfl⟩
    · exact r.softB a ha
  | val _ _ => exact fun a ha => by cases ha
  | dkt _ _ _ => cases hd
def OwnB (OA : Nat → List Addr) (M : List Nat) (ρ : Env) (p : Addr) : Prop := ∃ i d, i ∈ M ∧ ρ[i]? = some (some d) ∧ d.isO = true ∧ p ∈ OA i
open Classical in
theorem SInvA.enterB (I : SInvA OA K M Fx Hs0 H0 ρ Hs σ H) : ∃ Hb, Ex Hb H ∧ ERel K Hb (maskB M ρ) σ ∧ Le Hs0 H0 Hb H ∧
    ∀ Hi H', Le Hb H Hi H' → ∃ Hj, SInvA OA K M Fx Hs0 H0 ρ Hj σ H' ∧ Ex Hj Hi ∧ ∀ a o, Hi a = some o → Py.softB o = false → Hj a = some o := by
  have own : ∀ p, OwnB OA M ρ p → Hs p = none ∧ H0 p = none ∧ ∃ o, H p = some o ∧ Py.softB o = true := fun p ⟨i, d, h1, h2, h4, h3⟩ => by
    obtain ⟨v, a, r, n, nd⟩ := I.own i d h1 h2
    obtain ⟨o, e1, e2⟩ := r.softB h4 p h3
    exact ⟨(n p h3).1, (n p h3).2, o, e1, e2⟩
  let Hb : Hp := fun a => if OwnB OA M ρ a then H a else Hs a
  have hb1 : ∀ a, OwnB OA M ρ a → Hb a = H a := fun a h => if_pos h
  have hb2 : ∀ a, ¬ OwnB OA M ρ a → Hb a = Hs a := fun a h => if_neg h
  have exb : Ex Hb H := fun a o h => by
    by_cases z : OwnB OA M ρ a
    · rw [hb1 a z] at h; exact h
    · rw [hb2 a z] at h; exact I.le.sub a o h
  have exs : Ex Hs Hb := fun a o h => by
    by_cases z : OwnB OA M ρ a
    · rw [(own a z).1] at h; cases h
    · rw [hb2 a z]; exact h
  refine ⟨Hb, exb, ⟨by rw [maskB_len]; exact I.len, fun i d q => ?_⟩, ⟨I.le.old.trans exs, I.le.ex, exb, fun a o h => ?_⟩, fun Hi H' l => ?_⟩
  · obtain ⟨q, hO⟩ := maskB_get M ρ i d q
    by_cases hi : i ∈ M
    · obtain ⟨v, a, r, n, nd⟩ := I.own i d hi q
      exact ⟨v, a, r.rep exs fun b hb o e => by rw [hb1 b ⟨i, d, hi, q, hO hi, hb⟩]; exact e⟩
    · obtain ⟨v, a, b⟩ := I.sl i d hi q
      exact ⟨v, a, b.mono exs⟩
  · by_cases z : OwnB OA M ρ a
    · exact .inr (own a z).2.1
    · rw [hb2 a z] at h
      exact I.le.new a o h
  · let Hj : Hp := fun a => if OwnB OA M ρ a then none else Hi a
    have hj1 : ∀ a, OwnB OA M ρ a → Hj a = none := fun a h => if_pos h
    have hj2 : ∀ a, ¬ OwnB OA M ρ a → Hj a = Hi a := fun a h => if_neg h
    have lj : Le Hs H Hj H' := by
      refine ⟨fun a o h => ?_, l.ex, fun a o h => ?_, fun a o h => ?_⟩
      · have z : ¬ OwnB OA M ρ a := fun z => by rw [(own a z).1] at h; cases h
        rw [hj2 a z]
        exact l.old a o (exs a o h)
      · by_cases z : OwnB OA M ρ a
        · rw [hj1 a z] at h; cases h
        · rw [hj2 a z] at h; exact l.sub a o h
      · by_cases z : OwnB OA M ρ a
        · rw [hj1 a z] at h; cases h
        · rw [hj2 a z] at h
          rcases l.new a o h with w | w
          · rw [hb2 a z] at w; exact .inl w
          · exact .inr w
    refine ⟨Hj, I.step lj, fun a o h => ?_, fun a o h hn => ?_⟩
    · by_cases z : OwnB OA M ρ a
      · rw [hj1 a z] at h; cases h
      · rw [hj2 a z] at h; exact h
    · have z : ¬ OwnB OA M ρ a := fun z => by
        obtain ⟨_, _, o2, e, so⟩ := own a z
        have e2 := l.sub a o h
        rw [l.ex a _ e] at e2
        cases e2
        rw [hn] at so
        cases so
      rw [hj2 a z]
      exact h
theorem lf_nod : ∀ {d : D}, d.lf = true → d.nod = true
  | .non, _ => rfl
  | .bl _, _ => rfl
  | .int _, _ => rfl
  | .str _, _ => rfl
  | .scr _, _ => rfl
  | .ftp _, _ => rfl
  | .tup xs, h => by
    rw [D.nod]
    rw [D.lf] at h
    exact lfs_nods h
  | .exv _ ys, h => by
    rw [D.nod]
    rw [D.lf] at h
    exact lfs_nods h
  | .lst _, h => by simp [D.lf] at h
  | .dic, h => by simp [D.lf] at h
  | .obj _ _ _, h => by simp [D.lf] at h
  | .dct _ _, h => by simp [D.lf] at h
where lfs_nods : ∀ {ds : List D}, D.lfs ds = true → D.nods ds = true
  | [], _ => rfl
  | d :: ds, h => by
    rw [D.lfs, Bool.and_eq_true] at h
    rw [D.nods, Bool.and_eq_true]
    exact ⟨lf_nod h.1, lfs_nods h.2⟩
theorem use_DB {f : Env → R D} {k : D → R Fl} {Dd : Ends} {W : WX} {Q : VK} (I : SInv K M Fx Hs0 H0 ρ Hs σ H) (h : PstS K mg M Fx Hs0 H0 (liftB (f (maskB M ρ)) ρ k) Dd W)
    (q : ∀ d v Hj H', SInv K M Fx Hs0 H0 ρ Hj σ H' → Rep K Hj d v → PstS K mg M Fx Hs0 H0 (k d) Dd W → Q v H') : tD K mg W f σ H Q := by
  obtain ⟨OA, I⟩ := I
  obtain ⟨Hb, e1, e2, _, e3⟩ := I.enterB
  refine ⟨_, Hb, e1, e2, ?_⟩
  cases z : f (maskB M ρ) with
  | ok d =>
    rw [z] at h
    have h : PstS K mg M Fx Hs0 H0 (if d.nod then k d else .stuck) Dd W := h
    by_cases c : d.nod = true
    · rw [if_pos c] at h
      intro v Hi H' le r
      obtain ⟨Hj, J, j1, j2⟩ := e3 Hi H' le
      exact q d v Hj H' ⟨OA, J⟩ (r.dropB j2 c) h
    · rw [if_neg c] at h
      exact h.elim
  | exc x =>
    rw [z] at h
    have h : PstS K mg M Fx Hs0 H0 (if x.lf then .ok (.xc x ρ) else .stuck) Dd W := h
    by_cases c : x.lf = true
    · rw [if_pos c] at h
      intro v dd Hi H' le rx
      obtain ⟨Hj, J, j1, j2⟩ := e3 Hi H' le
      refine h v dd Hj σ H' ⟨OA, J⟩ ⟨rx.1, ?_⟩
      obtain ⟨cls, fld⟩ := x
      cases fld with
      | none => exact rx.2
      | some fy =>
        obtain ⟨d1, v1, a1, a2, a3⟩ := rx.2
        exact ⟨d1, v1, a1, j2 _ _ a2 rfl, a3.dropB j2 (lf_nod c)⟩
    · rw [if_neg c] at h
      exact h.elim
  | stuck => rw [z] at h; exact h.elim
theorem use_DX {f : Env → R D} {k : D → R Fl} {Dd : Ends} {W : WX} {Q : VK} (I : SInv K M Fx Hs0 H0 ρ Hs σ H) (h : PstS K mg M Fx Hs0 H0 (lift false D.lf (f (view M false ρ)) ρ k) Dd W)
    (q : ∀ d v Hj H', Ex H H' → SInv K M Fx Hs0 H0 ρ Hj σ H' → Rep K Hj d v → PstS K mg M Fx Hs0 H0 (k d) Dd W → Q v H') : tD K mg W f σ H Q := by
  obtain ⟨Hb, e1, e2, _, e3⟩ := I.enter false
  refine ⟨_, Hb, e1, e2, ?_⟩
  cases z : f (view M false ρ) with
  | ok d =>
    rw [z] at h
    have h : PstS K mg M Fx Hs0 H0 (if d.lf then k d else .stuck) Dd W := h
    by_cases c : d.lf = true
    · rw [if_pos c] at h
      intro v Hi H' le r
      obtain ⟨Hj, J, dn⟩ := e3 Hi H' le
      exact q d v Hj H' le.ex J (r.down dn (by simpa using c)) h
    · rw [if_neg c] at h
      exact h.elim
  | exc x =>
    rw [z] at h
    have h : PstS K mg M Fx Hs0 H0 (if x.lf then .ok (.xc x ρ) else .stuck) Dd W := h
    by_cases c : x.lf = true
    · rw [if_pos c] at h
      intro v dd Hi H' le rx
      obtain ⟨Hj, J, dn⟩ := e3 Hi H' le
      exact h v dd Hj σ H' J (rx.down dn (by simpa using c))
    · rw [if_neg c] at h
      exact h.elim
  | stuck => rw [z] at h; exact h.elim
theorem haveD_s {i : Nat} {f : Str} {k : R Fl} {Dd : Ends} {W : WX} (h : PstS K mg M Fx Hs0 H0 (haveD i f ρ k) Dd W) : ∃ c ks ys, ρ[i]? = some (some (.obj c [f] [.dct ks ys])) ∧ PstS K mg M Fx Hs0 H0 k Dd W := by
  unfold haveD at h
  split at h
  · split at h
    · rename_i e
      subst e
      exact ⟨_, _, _, by assumption, h⟩
    · exact h.elim
  · exact h.elim
/-- an own thing is changed, and has new parts -/
theorem SInvA.alter2 {i : Nat} {d d' : D} {v : V} {p : Addr} {o : HO} {A' : List Addr} (I : SInvA OA K M Fx Hs0 H0 ρ Hs σ H) (hi : i ∈ M) (q0 : ρ[i]? = some (some d)) (q1 : σ[i]? = some (some v)) (hp : p ∈ OA i) (r : OwnR K Hs (upd H p o) d' v A')
    (hA : ∀ a ∈ A', a ∈ OA i ∨ (Hs a = none ∧ H0 a = none ∧ ¬ Own OA M ρ a)) (nd' : A'.Nodup) :
    SInvA (fun j => if j = i then A' else OA j) K M Fx Hs0 H0 (ρ.set i (some d')) Hs σ (upd H p o) := by
  obtain ⟨v', a, r0, n, nd⟩ := I.own i d hi q0
  rw [q1] at a
  cases a
  have ne : ∀ j, j ∉ M → i ≠ j := fun j h e => h (e ▸ hi)
  have dfn : ∀ j e, (ρ.set i (some d'))[j]? = some (some e) → ∃ e', ρ[j]? = some (some e') := fun j e q => by
    by_cases h : i = j
    · subst h; exact ⟨_, q0⟩
    · rw [List.getElem?_set_ne h] at q; exact ⟨e, q⟩
  have apart : ∀ j e, j ∈ M → i ≠ j → ρ[j]? = some (some e) → ∀ a ∈ A', a ∉ OA j := fun j e hj hij q a ha hb => by
    rcases hA a ha with h | ⟨_, _, h⟩
    · exact I.inj i j _ _ hi hj q0 q hij a h hb
    · exact h ⟨j, e, hj, q, hb⟩
  refine ⟨⟨I.le.old, fun a o h => ?_, fun a o h => ?_, I.le.new⟩, by simpa using I.len, fun j e hj q => ?_, fun j e hj q => ?_, fun j k e e2 hj hk q1 q2 hjk => ?_, I.fix, I.fxM⟩
  · rw [upd_ne (ne_of_none h (n p hp).2)]; exact I.le.ex a o h
  · rw [upd_ne (ne_of_none h (n p hp).1)]; exact I.le.sub a o h
  · rw [List.getElem?_set_ne (ne j hj)] at q
    exact I.sl j e hj q
  · by_cases h : i = j
    · subst h
      have hl : i < ρ.length := (List.getElem?_eq_some_iff.mp q0).1
      rw [List.getElem?_set_self hl] at q
      cases q
      simp only [if_true]
      refine ⟨v, q1, r, fun a ha => ?_, nd'⟩
      rcases hA a ha with h | h
      · exact n a h
      · exact ⟨h.1, h.2.1⟩
    · rw [List.getElem?_set_ne h] at q
      simp only [if_neg (Ne.symm h)]
      obtain ⟨v2, a2, r2, n2, nd2⟩ := I.own j e hj q
      refine ⟨v2, a2, r2.keep (Ex.refl _) fun b hb u e => ?_, n2, nd2⟩
      rw [upd_ne]
      · exact e
      · intro z
        subst z
        exact I.inj i j _ _ hi hj q0 q h b hp hb
  · obtain ⟨d1, z1⟩ := dfn j e q1
    obtain ⟨d2, z2⟩ := dfn k e2 q2
    by_cases a : i = j
    · subst a
      simp only [if_true, if_neg (Ne.symm hjk)]
      exact apart k d2 hk hjk z2
    · simp only [if_neg (Ne.symm a)]
      by_cases b : i = k
      · subst b
        simp only [if_true]
        exact fun x hx hy => apart j d1 hj a z1 x hy hx
      · simp only [if_neg (Ne.symm b)]
        exact I.inj j k d1 d2 hj hk z1 z2 hjk
end
section
variable {C : Cfg} {cs : List Cal} {kk : Nat} {M : List Nat}
theorem ok_asgB (t : Tgt) (a : E) : SOk C cs kk M (.asgB t a) := fun X W st hX sx tk h Fx hfx Hs0 H0 => by
  rw [chkS] at h
  cases q : sAsg st with
  | none => rw [q] at h; cases h
  | some u =>
    obtain ⟨tg, e, p⟩ := u
    rw [q] at h
    have hst := sAsg_s q
    subst hst
    simp only [Bool.and_eq_true] at h
    obtain ⟨⟨⟨⟨h1, h2⟩, h3⟩, h4⟩, h5⟩ := h
    have hi := allM h5
    have he := (ok_E a X W e hX tk h2).1
    have hg : PG X tg (gOf X.K t) := pg_of hX.calm hX.names hX.nd rfl (fun x _ => sx.fn x) h1
    have go : ∀ (u : TE), (∀ σ H Q, tD X.K X.mg W (ev (fnsOf cs) a) σ H Q → u σ H Q) → ∀ Dd σ H, tS X.K X.mg W M Fx Hs0 H0 (exec (fnsOf cs) M (.asgB t a)) Dd σ H → tAsg u (gOf X.K t) Dd σ H := by
      intro u hu Dd σ H ⟨ρ, Hs, I, hp⟩
      rw [exec] at hp
      exact hu _ _ _ (use_DB I hp fun d v Hj H' J r hp => use_T hp r J hi fun ρ' σ' J' hp => hp Hj σ' H' J')
    by_cases hc : noComp e = true
    · have hw : swappedStores [tg] e X.env = pure none := by
        cases t with
        | tp is => exact swst_no h4 X.env
        | nm i =>
          have h1 : (match xName tg with | some x => decide (C.N[i]? = some x) && locOk X.env.scope X.env.scope x | none => false) = true := h1
          cases z : xName tg with
          | none => rw [z] at h1; cases h1
          | some x =>
            obtain ⟨px, rfl⟩ := xName_s z
            cases e <;> rfl
      exact PS.imp (ps_asg he hg (sw_no hc _ _ _) hw (tgt_stores h1 X.env)) (go _ fun _ _ _ h => h)
    · cases e with
      | ListComp el gs raw pos =>
        cases tg with
        | Name y py =>
          by_cases hloc : X.env.scope.names.lookup y = some .local
          rotate_left
          · exact PS.imp (ps_asg he hg (sw_cell hloc p.line) (by rfl) (tgt_stores h1 X.env)) (go _ fun _ _ _ h => h)
          have h3 : (decide (X.env.scope.names.lookup y ≠ some .local) || (decide (X.env.scope.names.lookup y = some .local) && (py.line == pos.line) && !(raw.names.any fun (n, k) => n == y && (k == .local || k == .cell)))) = true := h3
          have h3 : (decide (X.env.scope.names.lookup y = some .local) && (py.line == pos.line) && !(raw.names.any fun (n, k) => n == y && (k == .local || k == .cell))) = true := by
            rw [decide_eq_false (fun z => z hloc), Bool.false_or] at h3
            exact h3
          have h3' : (decide (X.env.scope.names.lookup y = some .local) && (py.line == pos.line) && !(raw.names.any fun (n, k) => n == y && (k == .local || k == .cell))) = true := h3
          simp only [Bool.and_eq_true, decide_eq_true_eq, Bool.not_eq_true'] at h3'
          have hsw := sw_true (elt := el) (gs := gs) (l := p.line) sx.kind h3'.1.1 h3'.1.2 h3'.2
          cases t with
          | tp is => cases h1
          | nm i =>
            have h1 : (decide (C.N[i]? = some y) && locOk X.env.scope X.env.scope y) = true := h1
            simp only [Bool.and_eq_true, decide_eq_true_eq] at h1
            cases a with
            | lc t2 it ifs el2 =>
              rw [chk] at h2
              cases z : xLc (.ListComp el gs raw pos) with
              | none => rw [z] at h2; cases h2
              | some w =>
                obtain ⟨x, tg2, i2, fs, raw2⟩ := w
                rw [z] at h2
                obtain ⟨pos2, e0⟩ := xLc_s z
                cases e0
                simp only [Bool.and_eq_true, decide_eq_true_eq] at h2
                obtain ⟨⟨⟨⟨⟨⟨⟨c1, c2⟩, c3⟩, c4⟩, c5⟩, c6⟩, c7⟩, c8⟩ := h2
                obtain ⟨j1, j2⟩ := ok_It it X W tg2 i2 hX tk c2 fun a b z => by
                  subst z
                  cases t2 with
                  | nm i => cases c3
                  | tp is =>
                    have h4 : (match xTup tg2 with | some es => chkNames C.N (relS raw X.env.scope) raw is es | none => false) = true := c4
                    cases q3 : xTup tg2 with
                    | none => rw [q3] at h4; cases h4
                    | some ks =>
                      obtain ⟨k, p, rfl⟩ := xTup_s q3
                      exact ⟨_, _, _, rfl⟩
                refine PS.imp (ps_setLc (own := ownOf C.N t2) (g := gOf X.K t2) (tt := tDB X.K X.mg WN (evTests (fnsOf cs) ifs)) (te := tD X.K X.mg WN (ev (fnsOf cs) el2)) hX.calm (by rw [hX.names]; exact hX.nd) (show X.N[i]? = some y by rw [hX.names]; exact h1.1) h3'.1.1 hsw j1 (blkOk_by (by rw [hX.names]; exact c1)) (fun s H C' cl fp => ?_) (fun s H C' cl fp => ?_) (fun s H C' cl fp => ?_) (folded_ok j2)) (go _ fun σ H Q hh => ?_)
                · exact pg_of (X := X.blk s H raw (compEnvC raw cl C' X.env) fp) hX.calm (by exact hX.names) hX.nd rfl blk_fn c4
                · exact (ok_Es ifs).tests (X.blk s H raw (compEnvC raw cl C' X.env) fp) WN fs hX.blk takes0 c5
                · exact (ok_E el2 (X.blk s H raw (compEnvC raw cl C' X.env) fp) WN el hX.blk takes0 c6).1
                · rw [c7]
                  refine lc_imp (W := W) c8 ?_
                  obtain ⟨ρ, Hs, e1, e2, e3⟩ := hh
                  refine ⟨ρ, Hs, e1, e2, ?_⟩
                  rw [ev] at e3
                  exact e3
            | _ => simp [chk, xName, xConst, xBin, xUn, xCmp, xChain, xBool, xTup, xLst, xSub, xCall, xCallK, xStep, xMeth, xAttr, xDic, xDisp, xJoin] at h2
        | _ => cases h3
      | SetComp _ _ _ _ => cases tg <;> cases h3
      | DictComp _ _ _ _ _ => cases tg <;> cases h3
      | _ => exact absurd rfl hc
theorem passX {X : Cx} {W : WX} {σ0 : L2.St} {s : Shared} {H : Hp} {raw : Scope} {ce : PySem.Env} {fp : List Addr} {E' : Value → Shared → Prop} (h : Passes X W { X.blk s H raw ce fp with xe := E' } σ0) (σ : L2.St) :
    PassesAt (L2.CX { X.blk s H raw ce fp with xe := E' }.prog { X.blk s H raw ce fp with xe := E' }.w) { X.blk s H raw ce fp with xe := E' } σ (fun c d H => W c d σ0 H) := fun pins H s e s' I c => h pins σ H s e s' I c
theorem ok_lcM (i : Nat) (t2 : Tgt) (it : It) (ifs : Es) (m : Str) (k : Nat) (cl : List Str) (a : E) (es : Es) : SOk C cs kk M (.lcM i t2 it ifs m k cl a es) := fun X W st hX sx tk h Fx hfx Hs0 H0 => by
  rw [chkS] at h
  cases q : sAsg st with
  | none => rw [q] at h; cases h
  | some u =>
    obtain ⟨tg, e, p⟩ := u
    rw [q] at h
    have hst := sAsg_s q
    subst hst
    simp only [Bool.and_eq_true] at h
    obtain ⟨⟨⟨h1, h2⟩, h3⟩, h5⟩ := h
    have hi : ∀ j ∈ (Tgt.nm i).ixs, j ∉ M := fun j hj => by
      have e : j = i := by simpa [Tgt.ixs] using hj
      subst e
      simpa using h5
    have hg : PG X tg (gOf X.K (.nm i)) := pg_of hX.calm hX.names hX.nd rfl (fun x _ => sx.fn x) h1
    have go : ∀ (u : TE), (∀ σ H Q, tD X.K X.mg W (lcMv (fnsOf cs) t2 it ifs m k cl a es) σ H Q → u σ H Q) → ∀ Dd σ H, tS X.K X.mg W M Fx Hs0 H0 (exec (fnsOf cs) M (.lcM i t2 it ifs m k cl a es)) Dd σ H → tAsg u (gOf X.K (.nm i)) Dd σ H := by
      intro u hu Dd σ H ⟨ρ, Hs, I, hp⟩
      rw [exec] at hp
      exact hu _ _ _ (use_DB I hp fun d v Hj H' J r hp => use_T hp r J hi fun ρ' σ' J' hp => hp Hj σ' H' J')
    rw [chk] at h2
    cases z : xLc e with
    | none => rw [z] at h2; cases h2
    | some w =>
      obtain ⟨el, tg2, i2, fs, raw⟩ := w
      rw [z] at h2
      obtain ⟨pos, e0⟩ := xLc_s z
      subst e0
      simp only [Bool.and_eq_true, decide_eq_true_eq] at h2
      obtain ⟨⟨⟨⟨⟨⟨⟨c1, c2⟩, c3⟩, c4⟩, c5⟩, c6⟩, c7⟩, c8⟩ := h2
      obtain ⟨j1, j2⟩ := ok_It it X W tg2 i2 hX tk c2 fun a b z => by
        subst z
        cases t2 with
        | nm i => cases c3
        | tp is =>
          have h4 : (match xTup tg2 with | some es => chkNames C.N (relS raw X.env.scope) raw is es | none => false) = true := c4
          cases q3 : xTup tg2 with
          | none => rw [q3] at h4; cases h4
          | some ks =>
            obtain ⟨k, p, rfl⟩ := xTup_s q3
            exact ⟨_, _, _, rfl⟩
      have g1 : ∀ (s : Shared) (H : Hp) (C' : Addr) (cl : List (Str × Addr)) (fp : List Addr), PG (X.blk s H raw (compEnvC raw cl C' X.env) fp) tg2 (gOf X.K t2) := fun s H C' cl fp => pg_of (X := X.blk s H raw (compEnvC raw cl C' X.env) fp) hX.calm (by exact hX.names) hX.nd rfl blk_fn c4
      have g2 : ∀ (s : Shared) (H : Hp) (C' : Addr) (cl : List (Str × Addr)) (fp : List Addr), PTs (X.blk s H raw (compEnvC raw cl C' X.env) fp) fs (tDB X.K X.mg WN (evTests (fnsOf cs) ifs)) := fun s H C' cl fp => (ok_Es ifs).tests (X.blk s H raw (compEnvC raw cl C' X.env) fp) WN fs hX.blk takes0 c5
      have g3 : ∀ (σ : L2.St) (s : Shared) (H : Hp) (C' : Addr) (c2 : List (Str × Addr)) (fp : List Addr) (E' : Value → Shared → Prop), Passes X W { X.blk s H raw (compEnvC raw c2 C' X.env) fp with xe := E' } σ → PE { X.blk s H raw (compEnvC raw c2 C' X.env) fp with xe := E' } el (tD X.K X.mg (fun c d _ H => W c d σ H) (methX (fnsOf cs) m k cl a es)) := fun σ s H C' c2 fp E' hp =>
        ok_methX (Y := { X.blk s H raw (compEnvC raw c2 C' X.env) fp with xe := E' }) m k cl (ok_E a) (ok_Es es) (XOk.xe hX.blk) (passX hp) c6
      have imp : ∀ σ H Q, tD X.K X.mg W (lcMv (fnsOf cs) t2 it ifs m k cl a es) σ H Q → tLcX (iD X.K X.mg W (evIt (fnsOf cs) it)) (gOf X.K t2) (tDB X.K X.mg WN (evTests (fnsOf cs) ifs)) (fun σ0 => tD X.K X.mg (fun c d _ H => W c d σ0 H) (methX (fnsOf cs) m k cl a es)) ((ownOf C.N t2).map (·.2)) σ H Q := by
        intro σ H Q hh
        rw [c7]
        exact lc_impX (W := W) c8 hh
      cases tg with
      | Name y py =>
        have h1o := h1
        have h1 : (decide (C.N[i]? = some y) && locOk X.env.scope X.env.scope y) = true := h1
        by_cases hloc : X.env.scope.names.lookup y = some .local
        rotate_left
        · exact PS.imp (ps_asg (pe_lcX (own := ownOf C.N t2) tk sx.stk sx.frm hX.calm (by rw [hX.names]; exact hX.nd) j1 (blkOk_by (by rw [hX.names]; exact c1)) g1 g2 g3 (folded_ok j2)) hg (sw_cell hloc p.line) (by rfl) (tgt_stores h1o X.env)) (go _ imp)
        have h3 : (decide (X.env.scope.names.lookup y ≠ some .local) || (decide (X.env.scope.names.lookup y = some .local) && (py.line == pos.line) && !(raw.names.any fun (n, k) => n == y && (k == .local || k == .cell)))) = true := h3
        have h3' : (decide (X.env.scope.names.lookup y = some .local) && (py.line == pos.line) && !(raw.names.any fun (n, k) => n == y && (k == .local || k == .cell))) = true := by
          rw [decide_eq_false (fun z => z hloc), Bool.false_or] at h3
          exact h3
        simp only [Bool.and_eq_true, decide_eq_true_eq, Bool.not_eq_true'] at h3'
        have hsw := sw_true (elt := el) (gs := [⟨tg2, i2, fs, 0⟩]) (l := p.line) sx.kind h3'.1.1 h3'.1.2 h3'.2
        simp only [Bool.and_eq_true, decide_eq_true_eq] at h1
        exact PS.imp (ps_setLcX (own := ownOf C.N t2) (g := gOf X.K t2) tk sx.stk sx.frm hX.calm (by rw [hX.names]; exact hX.nd) (show X.N[i]? = some y by rw [hX.names]; exact h1.1) h3'.1.1 hsw j1 (blkOk_by (by rw [hX.names]; exact c1)) g1 g2 g3 (folded_ok j2)) (go _ imp)
      | _ => cases h1
theorem sw_par {N : PySem.Env} {x y u v : Str} {px py pu pv pt pt2 : Pos} {kt k2} (hk : N.blockKind = .function) (hx : N.kindOf x = some .local) (hy : N.kindOf y = some .local) (hl : (py.line == px.line) = true) (hne : x ≠ y) (hu : u ≠ "__debug__") :
    swappedStores [.Tuple [.Name x px, .Name y py] kt pt] (.Tuple [.Name u pu, .Name v pv] k2 pt2) N = pure (some [x, y]) := by
  have e : ([x, y] : List Str).eraseDups = [x, y] := by simp [List.eraseDups_cons, hne.symm, hne]
  have p1 : (Expr.Name x px).pos.line = px.line := rfl
  have p2 : py.line = px.line := by simpa using hl
  unfold swappedStores
  simp [hk, hx, hy, p1, p2, e, foldedForSure, constantsAlone, hu, List.filterMap_cons]
theorem ok_par (i j : Nat) (a b : E) : SOk C cs kk M (.par i j a b) := fun X W st hX sx tk h Fx hfx Hs0 H0 => by
  rw [chkS] at h
  cases q : sPar st with
  | none => rw [q] at h; cases h
  | some t =>
    obtain ⟨x, y, u, v⟩ := t
    rw [q] at h
    obtain ⟨px, py, un, vn, pu, pv, kt, pt, k2, pt2, pos, rfl, rfl, rfl, hl, hun⟩ := sPar_s q
    simp only [Bool.and_eq_true, decide_eq_true_eq, Bool.not_eq_true'] at h
    obtain ⟨⟨⟨⟨⟨⟨⟨⟨⟨h1, h2⟩, h3⟩, h4⟩, h5⟩, h6⟩, h7⟩, h8⟩, h9⟩, h10⟩ := h
    have hi : i ∉ M := fun z => by rw [List.contains_iff_mem.mpr z] at h9; cases h9
    have hj : j ∉ M := fun z => by rw [List.contains_iff_mem.mpr z] at h10; cases h10
    have ha := (oks_cons (ok_E a) (oks_cons (ok_E b) oks_nil)).args X W [.Name un pu, .Name vn pv] hX tk (by simp [chks, h7, h8, plain])
    refine PS.imp (ps_par hX.calm (by rw [hX.names]; exact hX.nd) (by rw [hX.names]; exact h1) (by rw [hX.names]; exact h2) h3 h4 h5 ha.1 (sw_par (by unfold PySem.Env.blockKind; rw [sx.kind]; rfl) h4 h5 hl h6 hun)) fun Dd σ H ⟨ρ, Hs, I, hp⟩ => ?_
    rw [exec] at hp
    obtain ⟨Hb, e1, e2, _, e3⟩ := I.enter true
    refine ⟨_, Hb, e1, e2, use_P e3 (fun _ _ _ _ dn z r => r.down dn rfl) hp fun ds vs Hj H' _ J r hp => ?_⟩
    match ds, vs, r, hp with
    | [d, d2], [w, w2], .cons r1 (.cons r2 .nil), hp =>
      exact ⟨w, w2, rfl, hp _ _ _ ((J.set hi r1).set hj r2)⟩
    | [], _, _, hp => exact hp.elim
    | [_], _, _, hp => exact hp.elim
    | _ :: _ :: _ :: _, _, _, hp => exact hp.elim
theorem ok_setd (i : Nat) (f : Str) : SOk C cs kk M (.setd i f) := fun X W st hX sx tk h Fx hfx Hs0 H0 => by
  rw [chkS] at h
  cases q : sAsg st with
  | none => rw [q] at h; cases h
  | some u =>
    obtain ⟨tg, e, p⟩ := u
    rw [q] at h
    have hst := sAsg_s q
    subst hst
    simp only [Bool.and_eq_true] at h
    obtain ⟨h1, h3⟩ := h
    obtain ⟨pd, rfl⟩ := xDic_s h1
    cases z : xAttr tg with
    | none => rw [z] at h3; cases h3
    | some w =>
      obtain ⟨o, g⟩ := w
      rw [z] at h3
      obtain ⟨pa, rfl⟩ := xAttr_s z
      simp only [Bool.and_eq_true, decide_eq_true_eq] at h3
      obtain ⟨⟨rfl, h4⟩, h5⟩ := h3
      obtain ⟨hi, x, px, rfl, po⟩ := slot_s hX h5
      refine PS.imp (ps_fld po pe_dnewK rfl) fun Dd σ H ⟨ρ, Hs, I, hp⟩ => ?_
      rw [exec] at hp
      intro a hn
      unfold setdD at hp
      split at hp
      · rename_i c q0
        obtain ⟨OA, JA⟩ := id I
        obtain ⟨v1, hv1, r1, n1, nd1⟩ := JA.own i _ hi q0
        have JB := JA.step (Le.new0 (o := .dK []) JA.le.sub hn)
        obtain ⟨A, hA⟩ : ∃ A, A = OA i := ⟨_, rfl⟩
        rw [← hA] at r1
        cases r1 with
        | val l _ => simp [D.lf] at l
        | obj e1 T en fr =>
          rename_i p C1 dx fs A
          cases fs with
          | cons _ _ => cases en
          | nil =>
            cases fr
            have npa : p ≠ a := fun z => by subst z; rw [hn] at e1; cases e1
            have e2 : upd H a (.dK []) p = some (.ins C1 dx []) := by rw [upd_ne npa]; exact e1
            refine ⟨_, hv1, p, C1, dx, [], rfl, e2, T.cl, T.na _ (List.contains_iff_mem.mp h4), by decide, ?_⟩
            have hsa : Hs a = none := by
              cases zz : Hs a with
              | none => rfl
              | some o => rw [JA.le.sub a o zz] at hn; cases hn
            have ho : upd (upd H a (.dK [])) p (.ins C1 dx [(g, .ref a)]) a = some (.dK []) := by rw [upd_ne (Ne.symm npa)]; exact upd_same
            refine hp Hs σ _ ⟨_, JB.alter2 (A' := [p, a]) hi q0 hv1 (by rw [← hA]; simp) ?_ (fun b hb => ?_) (by simp [npa])⟩
            · exact .obj upd_same T rfl (.dct ho rfl .nil (by simp) .nil)
            · rcases List.mem_cons.mp hb with e | hb
              · subst e; exact .inl (by rw [← hA]; simp)
              · have hb := List.mem_singleton.mp hb
                subst hb
                refine .inr ⟨hsa, JA.le.free hn, JA.fresh hn⟩
      · exact hp.elim
theorem ok_putf (cl : Bool) (i : Nat) (f : Str) (a b : E) : SOk C cs kk M (.putf cl i f a b) := fun X W st hX sx tk h Fx hfx Hs0 H0 => by
  rw [chkS] at h
  cases q : sAsg st with
  | none => rw [q] at h; cases h
  | some u =>
    obtain ⟨tg, e, p⟩ := u
    rw [q] at h
    have hst := sAsg_s q
    subst hst
    simp only [Bool.and_eq_true] at h
    obtain ⟨h1, h3⟩ := h
    cases z : xSub tg with
    | none => rw [z] at h3; cases h3
    | some w =>
      obtain ⟨o, k⟩ := w
      rw [z] at h3
      obtain ⟨ps, rfl⟩ := xSub_s z
      simp only [Bool.and_eq_true] at h3
      obtain ⟨⟨h4, h5⟩, h6⟩ := h3
      cases z2 : xAttr o with
      | none => rw [z2] at h6; cases h6
      | some w2 =>
        obtain ⟨o2, g⟩ := w2
        rw [z2] at h6
        obtain ⟨pa, rfl⟩ := xAttr_s z2
        simp only [Bool.and_eq_true, decide_eq_true_eq] at h6
        obtain ⟨⟨rfl, h7⟩, h8⟩ := h6
        obtain ⟨hi, x, px, rfl, po⟩ := slot_s hX h8
        have hu : X.A.units + 1 < cLine := by have := hX.units; omega
        refine PS.imp (ps_dput hu (pe_fld po rfl) (ok_E a X W k hX tk h5).1 (ok_E b X W e hX tk h1).1 (sw_sub (a := .Attribute (.Name x px) g pa) (b := k) (p := ps) p.line X.env)) fun Dd σ H ⟨ρ, Hs, I, hp⟩ => ?_
        rw [exec] at hp
        obtain ⟨c, ks, ys, q0, hp⟩ := haveD_s hp
        refine use_D I hp fun d v Hj H' J r hp => ?_
        have base : ∀ {Hj0 : Hp} {Hj : Hp} {H' : Hp}, SInv X.K M Fx Hj0 H0 ρ Hj σ H' → ∃ OA, SInvA OA X.K M Fx Hj0 H0 ρ Hj σ H' ∧ ∃ p C1 dx q1 kvs, σ[i]? = some (some (.ref p)) ∧ H' p = some (.ins C1 dx [(g, .ref q1)]) ∧ ObK X.K c C1 ∧ OA i = [p, q1] ∧ p ≠ q1 ∧ H' q1 = some (.dK kvs) ∧ kvs.map (·.1) = ks.map Sum.inr ∧ Reps X.K Hj ys (kvs.map (·.2)) := fun {Hj0 Hj H'} J => by
          obtain ⟨OA, JA⟩ := id J
          obtain ⟨v1, hv1, r1, n1, nd1⟩ := JA.own i _ hi q0
          obtain ⟨A, hA⟩ : ∃ A, A = OA i := ⟨_, rfl⟩
          rw [← hA] at r1 nd1
          cases r1 with
          | val l _ => simp [D.lf] at l
          | obj e1 T en fr =>
            rename_i p C1 dx fs A
            obtain ⟨v0, rfl⟩ : ∃ v0, fs = [(g, v0)] := by
              cases fs with
              | nil => cases en
              | cons a fs =>
                cases fs with
                | nil =>
                  obtain ⟨g', v0⟩ := a
                  have eg : g' = g := by simpa using en
                  subst eg
                  exact ⟨v0, rfl⟩
                | cons _ _ => simp at en
            have fr2 : FRs X.K Hj H' [.dct ks ys] [v0] A := fr
            clear fr
            cases fr2 with
            | rep nd _ _ => cases nd
            | dct w1 w2 w3 w4 fr3 =>
              cases fr3
              exact ⟨OA, JA, _, _, _, _, _, hv1, e1, T, hA.symm, by simpa using nd1, w1, w2, w3⟩
        obtain ⟨OA, JA, p1, C1, dx, q1, kvs, s1, e1, T, hA, hne, w1, w2, w3⟩ := base J
        refine ⟨.ref p1, s1, p1, C1, dx, _, .ref q1, rfl, e1, T.cl, T.na _ (List.contains_iff_mem.mp h7), by simp [List.lookup], use_DX J.rebase (hp.base J.le) fun d2 v2 Hj2 H2 ex J2 r2 hp2 => ?_⟩
        obtain ⟨OA2, JA2, p2, C2, dx2, q2, kvs2, s2, e2, T2, hA2, hne2, u1, u2, u3⟩ := base J2
        rw [s1] at s2
        cases s2
        have := ex _ _ e1
        rw [e2] at this
        cases this
        unfold putfD at hp2
        rw [q0] at hp2
        cases d2 with
        | str y =>
          simp only at hp2
          split at hp2
          · rename_i hz
            obtain ⟨b1, b2⟩ := put_rep (x := y) (r.mono J2.le.old) u2 u3
            have hl : kvs2.length = ks.length := by rw [← List.length_map (as := kvs2) (f := (·.1)), u2, List.length_map]
            refine ⟨q1, _, rfl, .inl ⟨kvs2, Sum.inr y, u1, by rw [r2.strI]; rfl, by rw [hl]; exact Nat.lt_of_lt_of_le hz.2 (by decide), rfl⟩, hp2 Hj2 σ _ ⟨OA2, JA2.alter hi q0 s1 (by rw [hA2]; simp) ?_⟩⟩
            rw [hA2]
            exact .obj (by rw [upd_ne hne2]; exact e2) T2 rfl (.dct upd_same b1 b2 (by simp) .nil)
          · exact hp2.elim
        | _ => exact hp2.elim

section
variable {K : PySem.W.Frag} {mg : Str → Option Value} {Hs0 H0 Hs H : Hp} {ρ : Env} {σ : L2.St} {OA : Nat → List Addr}
theorem dkVal_rep {d : D} {v : V} {y : Option Int} (h : dkVal d = some y) (r : Rep K Hs d v) : v = oV y := by
  cases d with
  | non => cases h; exact r.nonI
  | int i => cases h; exact r.intI
  | _ => cases h
theorem SInv.ownK {i : Nat} {zs : List (NKey × Option Int)} (I : SInv K M Fx Hs0 H0 ρ Hs σ H) (hi : i ∈ M) (q : ρ[i]? = some (some (.dkt zs))) : ∃ OA, SInvA OA K M Fx Hs0 H0 ρ Hs σ H ∧ ∃ p o xs, σ[i]? = some (some (.ref p)) ∧ OA i = [p] ∧ H p = some (dko p o) ∧ DkE p o xs ∧ DkR Hs zs xs := by
  obtain ⟨OA, J⟩ := I
  obtain ⟨v, h1, h2, h3, _⟩ := J.own i _ hi q
  obtain ⟨A, hA⟩ : ∃ A, A = OA i := ⟨_, rfl⟩
  rw [← hA] at h2
  cases h2 with
  | dkt e D r => exact ⟨OA, J, _, _, _, h1, hA.symm, e, D, r⟩
  | val l _ => simp [D.lf] at l
theorem haveK_s {i : Nat} {k : R Fl} {Dd : Ends} {W : WX} (h : PstS K mg M Fx Hs0 H0 (haveK i ρ k) Dd W) : ∃ zs, ρ[i]? = some (some (.dkt zs)) ∧ PstS K mg M Fx Hs0 H0 k Dd W := by
  unfold haveK at h
  split at h
  · exact ⟨_, by assumption, h⟩
  · exact h.elim
open Classical in
/-- an own thing is given up -/
theorem SInvA.freeze {i : Nat} {d : D} (I : SInvA OA K M Fx Hs0 H0 ρ Hs σ H) (hi : i ∈ M) (q : ρ[i]? = some (some d)) (fx : ∀ p ∈ Fx, p.1 ≠ i) : ∃ Hs', SInvA OA K (M.filter (· != i)) Fx Hs0 H0 ρ Hs' σ H := by
  obtain ⟨v, h1, h2, h3, _⟩ := I.own i _ hi q
  let Hb : Hp := fun a => if a ∈ OA i then H a else Hs a
  have hb1 : ∀ a, a ∈ OA i → Hb a = H a := fun a h => if_pos h
  have hb2 : ∀ a, ¬ a ∈ OA i → Hb a = Hs a := fun a h => if_neg h
  have exs : Ex Hs Hb := fun a o h => by
    by_cases z : a ∈ OA i
    · rw [(h3 a z).1] at h; cases h
    · rw [hb2 a z]; exact h
  have mem : ∀ j, j ∈ M.filter (· != i) → j ∈ M ∧ j ≠ i := fun j h => by
    simpa using h
  refine ⟨Hb, ⟨I.le.old.trans exs, I.le.ex, fun a o h => ?_, fun a o h => ?_⟩, I.len, fun j e hj q2 => ?_, fun j e hj q2 => ?_, fun j k e e2 hj hk q1 q2 hjk => I.inj j k e e2 (mem j hj).1 (mem k hk).1 q1 q2 hjk, I.fix, fun p hp => ?_⟩
  · by_cases z : a ∈ OA i
    · rw [hb1 a z] at h; exact h
    · rw [hb2 a z] at h; exact I.le.sub a o h
  · by_cases z : a ∈ OA i
    · exact .inr (h3 a z).2
    · rw [hb2 a z] at h; exact I.le.new a o h
  · by_cases c : j = i
    · subst c
      rw [q] at q2
      cases q2
      exact ⟨v, h1, h2.rep exs fun b hb o e => by rw [hb1 b hb]; exact e⟩
    · have hj2 : j ∉ M := fun z => hj (by simpa using ⟨z, c⟩)
      obtain ⟨v2, a, b⟩ := I.sl j e hj2 q2
      exact ⟨v2, a, b.mono exs⟩
  · obtain ⟨m1, m2⟩ := mem j hj
    obtain ⟨v2, a, r, n, nd⟩ := I.own j e m1 q2
    refine ⟨v2, a, r.keep exs (fun _ _ _ e => e), fun b hb => ⟨?_, (n b hb).2⟩, nd⟩
    rw [hb2 b (I.inj j i e d m1 hi q2 q m2 b hb)]
    exact (n b hb).1
  · have := fx p hp
    simpa using ⟨I.fxM p hp, this⟩
end
theorem ok_dkn (i : Nat) : SOk C cs kk M (.dkn i) := fun X W st hX sx tk h Fx hfx Hs0 H0 => by
  rw [chkS] at h
  cases q : sAsg st with
  | none => rw [q] at h; cases h
  | some u =>
    obtain ⟨tg, e, p⟩ := u
    rw [q] at h
    have hst := sAsg_s q
    subst hst
    simp only [Bool.and_eq_true] at h
    obtain ⟨⟨⟨h1, h2⟩, h4⟩, hnp⟩ := h
    have hi : i ∈ M := by simpa using h4
    have fxi : ∀ p ∈ Fx, p.1 ≠ i := fun p hp => by have := (hfx p hp).2; have := of_decide_eq_true hnp; omega
    have hg : PG X tg (gOf X.K (.nm i)) := pg_of hX.calm hX.names hX.nd rfl (fun x _ => sx.fn x) h1
    obtain ⟨pd, rfl⟩ := xDic_s h2
    refine PS.imp (ps_asg pe_dnewN hg (by exact rfl) (asg_sw h1) (tgt_stores h1 X.env)) fun Dd σ H ⟨ρ, Hs, I, hp⟩ => ?_
    rw [exec] at hp
    obtain ⟨OA, J⟩ := I
    intro p o hn D
    have J2 := J.step (Le.new0 (o := dko p o) J.le.sub hn)
    exact hp Hs (σ.set i (some (.ref p))) _ ⟨_, J2.lay hi fxi (.dkt upd_same D .nil) (fun a ha => by rw [List.mem_singleton.mp ha]; exact ⟨fresh_s J.le.sub hn, J.le.free hn⟩) (by simp) fun a ha => by rw [List.mem_singleton.mp ha]; exact J.fresh hn⟩
theorem ok_dkp (i : Nat) (a b : E) : SOk C cs kk M (.dkp i a b) := fun X W st hX sx tk h Fx hfx Hs0 H0 => by
  rw [chkS] at h
  cases q : sAsg st with
  | none => rw [q] at h; cases h
  | some u =>
    obtain ⟨tg, e, p⟩ := u
    rw [q] at h
    have hst := sAsg_s q
    subst hst
    simp only [Bool.and_eq_true] at h
    obtain ⟨h1, h3⟩ := h
    cases z : xSub tg with
    | none => rw [z] at h3; cases h3
    | some w =>
      obtain ⟨o, k⟩ := w
      rw [z] at h3
      obtain ⟨ps, rfl⟩ := xSub_s z
      simp only [Bool.and_eq_true] at h3
      obtain ⟨⟨h4, h5⟩, h6⟩ := h3
      obtain ⟨hi, x, px, rfl, po⟩ := slot_s hX h6
      have hu : X.A.units + 9 < cLine := by have := hX.units; omega
      refine PS.imp (ps_dputN hu po (ok_E a X W k hX tk h5).1 (ok_E b X W e hX tk h1).1 (sw_sub (a := .Name x px) (b := k) (p := ps) p.line X.env)) fun Dd σ H ⟨ρ, Hs, I, hp⟩ => ?_
      rw [exec] at hp
      obtain ⟨zs, q0, hp⟩ := haveK_s hp
      refine use_D I hp fun d v Hj H' J r hp => ?_
      obtain ⟨OA, JA, p1, o1, xs1, s1, hA, e1, D1, r1⟩ := J.ownK hi q0
      refine ⟨.ref p1, s1, use_D J.rebase (hp.base J.le) fun d2 v2 Hj2 H2 J2 r2 hp2 => ?_⟩
      obtain ⟨OA2, JA2, p2, o2, xs2, s2, hA2, e2, D2, r3⟩ := J2.ownK hi q0
      rw [s1] at s2
      cases s2
      unfold dkpD at hp2
      rw [q0] at hp2
      cases hv : dkVal d with
      | none =>
        rw [hv] at hp2
        split at hp2
        · contradiction
        · exact hp2.elim
      | some y =>
        rw [hv] at hp2
        have ev := dkVal_rep hv r
        cases d2 with
        | tup ds =>
          match ds, r2, hp2 with
          | [.int c, .tup [.int x', .int y']], r2, hp2 =>
            have hp2 : PstS X.K X.mg M Fx _ H0 (if zs.length ≤ 100000 then .ok (.nx (ρ.set i (some (.dkt (dkPut zs (c, x', y') y))))) else .stuck) Dd W := hp2
            by_cases hz : zs.length ≤ 100000
            rotate_left
            · rw [if_neg hz] at hp2
              exact hp2.elim
            rw [if_pos hz] at hp2
            obtain ⟨b', vs, rfl, f1, f2⟩ := r2.tupI
            cases f2 with
            | cons g1 f2 =>
              cases f2 with
              | cons g2 f2 =>
                cases f2
                obtain ⟨c', us, rfl, k1, k2⟩ := g2.tupI
                cases k2 with
                | cons j1 k2 =>
                  cases k2 with
                  | cons j2 k2 =>
                    cases k2
                    have g1 := g1.intI
                    have j1 := j1.intI
                    have j2 := j2.intI
                    subst g1 j1 j2
                    have kb : KeyAt Hj2 (c, x', y') b' := ⟨c', f1, k1⟩
                    refine ⟨p1, o2, xs2, zs, (c, x', y'), b', y, rfl, e2, D2, r3.mono fun b xs => J2.le.sub b _, rfl, kb.mono fun b xs => J2.le.sub b _, ev, by rw [← r3.len]; exact hz, fun o' u D' ru => hp2 Hj2 σ _ ⟨OA2, JA2.alter hi q0 s1 (by rw [hA2]; simp) ?_⟩⟩
                    rw [hA2]
                    exact .dkt upd_same D' (r3.put _ kb ru)
        | _ => exact hp2.elim
theorem oks_freS {i : Nat} {ss : Ss} (hss : ∀ M, SsOk C cs kk M ss) : SsOk C cs kk M (.fre i ss) := fun X W sts hX sx tk h Fx hfx Hs0 H0 => by
  rw [chkSs] at h
  simp only [Bool.and_eq_true, decide_eq_true_eq] at h
  obtain ⟨⟨hnp, h4⟩, h5⟩ := h
  have hi : i ∈ M := by simpa using h4
  have fxi : ∀ p ∈ Fx, p.1 ≠ i := fun p hp => by have := (hfx p hp).2; omega
  refine PSs.imp (hss _ X W sts hX sx tk h5 Fx (fun p hp => ⟨by simpa using ⟨(hfx p hp).1, fxi p hp⟩, (hfx p hp).2⟩) Hs0 H0) fun Dd σ H ⟨ρ, Hs, I, hp⟩ => ?_
  rw [execs] at hp
  unfold freD at hp
  split at hp
  · rename_i zs d q0 hd
    obtain ⟨OA, J⟩ := I
    obtain ⟨Hs', J'⟩ := J.freeze hi q0 fxi
    refine ⟨ρ, Hs', ⟨OA, J'⟩, ?_⟩
    rw [hd]
    exact hp
  · exact hp.elim
end
end Py

namespace Py
open PySem PySem.Spec PyProof.Rows L2
variable {Fx : List (Nat × V)}
/-- a range, whatever the heap -/
abbrev RgRel : Hp → List D → L2.It → Prop := fun _ ds J => ∃ (lo : Int) (n : Nat), J = Itr lo n ∧ ds = (List.range n).map fun i => D.int (lo + (i : Nat))
def iR (K : PySem.W.Frag) (mg : Str → Option Value) (W : WX) (f : Env → R (List D)) : TI := fun σ H R =>
  ∃ (ρ : Env) (Hs : Hp), Ex Hs H ∧ ERel K Hs ρ σ ∧ Pst RgRel K mg Hs H (f ρ) R (fun c d H' => W c d σ H')
section
variable {X : Cx} {W : WX} {e a b tg : Expr} {es : List Expr} {pos : Pos} {fs : Env → R (List D)}
theorem si_range1R {p : Pos} (hg : glOk X.env.scope "range" = true) (hm : X.mg "range" = none) (hpl : plain a = true) (hs : SA X W [a] fs) (hl : ∀ ρ ds, fs ρ = .ok ds → ds.length = 1) : PI X tg (.Call (.Name "range" p) [a] [] pos) (iR X.K X.mg W (fun ρ => do
    let xs ← fs ρ
    D.rangeOf xs)) := by
  obtain ⟨g1, g2, g3⟩ := gl_of hg
  refine PI.imp (pi_range1 g1 hm hs (star_cons hpl)) fun σ H Q ⟨ρ, Hs, he, hr, hp⟩ => ⟨ρ, Hs, he, hr, hp.bind fun ds eds vs Hi H1 l rv hp1 => ?_⟩
  rcases rangeOf_cases ds with ⟨n, rfl⟩ | ⟨a, b, rfl⟩ | e
  · cases rv with
    | cons r1 t =>
      cases t
      have hp1 : Pst _ X.K X.mg Hi H1 (rangeD 0 n) Q _ := hp1
      rcases rangeD_cases 0 n with ⟨l2, q⟩ | q
      · rw [q] at hp1
        obtain ⟨⟨b1, b2, b3, b4⟩, rfl⟩ := rng_items q
        exact ⟨n, by rw [r1.intI], b3, b4, hp1.now l.sub ⟨0, n.toNat, rfl, by simp⟩⟩
      · rw [q] at hp1
        exact hp1.elim
  · exact absurd (hl ρ _ eds) (by simp)
  · rw [e] at hp1
    exact hp1.elim
theorem si_range2R {p : Pos} (hg : glOk X.env.scope "range" = true) (hm : X.mg "range" = none) (hpl : plain a = true) (hpl2 : plain b = true) (hs : SA X W [a, b] fs) (hl : ∀ ρ ds, fs ρ = .ok ds → ds.length = 2) : PI X tg (.Call (.Name "range" p) [a, b] [] pos) (iR X.K X.mg W (fun ρ => do
    let xs ← fs ρ
    D.rangeOf xs)) := by
  obtain ⟨g1, g2, g3⟩ := gl_of hg
  refine PI.imp (pi_range2 g1 hm hs (by rw [star_cons hpl, star_cons hpl2]; rfl) (by rw [star_cons hpl2]; rfl)) fun σ H Q ⟨ρ, Hs, he, hr, hp⟩ => ⟨ρ, Hs, he, hr, hp.bind fun ds eds vs Hi H1 l rv hp1 => ?_⟩
  rcases rangeOf_cases ds with ⟨n, rfl⟩ | ⟨a, b, rfl⟩ | e
  · exact absurd (hl ρ _ eds) (by simp)
  · cases rv with
    | cons r1 t =>
      cases t with
      | cons r2 t =>
        cases t
        have hp1 : Pst _ X.K X.mg Hi H1 (rangeD a b) Q _ := hp1
        rcases rangeD_cases a b with ⟨l2, q⟩ | q
        · rw [q] at hp1
          obtain ⟨bb, rfl⟩ := rng_items q
          exact ⟨a, b, by rw [r1.intI, r2.intI], bb, hp1.now l.sub ⟨a, (b - a).toNat, rfl, rfl⟩⟩
        · rw [q] at hp1
          exact hp1.elim
  · rw [e] at hp1
    exact hp1.elim
end
section
variable {C : Cfg} {cs : List Cal} {kk : Nat} {M : List Nat}
theorem oki_rangeR {es : Es} {X : Cx} {W : WX} {tg e : Expr} (hX : XOk X C cs kk) (tk : Takes X W) (h : chkIt C X.env.scope (.range es) e = true) : PI X tg e (iR X.K X.mg W (evIt (fnsOf cs) (.range es))) ∧ plain e = true := by
  rw [chkIt] at h
  cases q : xCall e with
  | none => rw [q] at h; cases h
  | some u =>
    obtain ⟨x, xs⟩ := u
    rw [q] at h
    obtain ⟨p, pos, rfl⟩ := xCall_s q
    simp only [Bool.and_eq_true, decide_eq_true_eq] at h
    obtain ⟨⟨⟨⟨rfl, h1⟩, h2⟩, h3⟩, h4⟩ := h
    refine ⟨?_, rfl⟩
    obtain ⟨a1, a2, a3, _⟩ := (ok_Es es).args X W xs hX tk h4
    have e : evIt (fnsOf cs) (.range es) = fun ρ => (do
      let xs ← evs (fnsOf cs) es ρ
      D.rangeOf xs) := by funext ρ; rw [evIt]
    rw [e]
    match xs, a1, a2, a3 with
    | [y], a1, a2, a3 => exact si_range1R h2 (glob_free hX h1) (a2 y (by simp)) a1 fun ρ ds q => by rw [evs_len q, ← a3]; rfl
    | [y, z], a1, a2, a3 => exact si_range2R h2 (glob_free hX h1) (a2 y (by simp)) (a2 z (by simp)) a1 fun ρ ds q => by rw [evs_len q, ← a3]; rfl
    | [], a1, a2, a3 => rcases h3 with h3 | h3 <;> (rw [← a3] at h3; cases h3)
    | _ :: _ :: _ :: _, a1, a2, a3 => rcases h3 with h3 | h3 <;> (rw [← a3] at h3; simp at h3)
def tBody (K : PySem.W.Frag) (mg : Str → Option Value) (W : WX) (M : List Nat) (Fx : List (Nat × V)) (H0 : Hp) (f : Env → R Fl) : TS := fun Dd σ H => ∃ Hs1, tS K mg W M Fx Hs1 H0 f Dd σ H
theorem for_turns {K : PySem.W.Frag} {mg : Str → Option Value} {W : WX} {H0 Hs1 H1 : Hp} {J : L2.It} {ds : List D} {t : Tgt} {body : Env → R Fl} {ρ : Env} {σ : L2.St} {Dd : Ends} (wk : Walk K J Hs1 ds) (I : SInv K M Fx Hs1 H0 ρ Hs1 σ H1) (hi : ∀ i ∈ t.ixs, i ∉ M)
    (hp : PstS K mg M Fx Hs1 H0 (forGo t body ds ρ) Dd W) : ∃ Wv : Nat → Nat → L2.St → Hp → Prop, (∃ m, Wv 0 m σ H1) ∧ ∀ i m σ H, Wv i m σ H →
  (J.stop i H ∧ Dd.nx σ H) ∨ (J.go i H ∧ ∃ N : L2.St → Hp → Prop, (∀ σ' H', N σ' H' → ∃ m', m' < m ∧ Wv (i + 1) m' σ' H') ∧ ∀ x H', J.yld i H x H' → gOf K t x σ H' fun σ2 H2 => tBody K mg W M Fx H0 body { Dd with nx := N, ct := N, bk := Dd.nx } σ2 H2) := by
  refine ⟨fun i m σ H => m = ds.length - i ∧ i ≤ ds.length ∧ ∃ ρ Hs, SInv K M Fx Hs1 H0 ρ Hs σ H ∧ PstS K mg M Fx Hs1 H0 (forGo t body (ds.drop i) ρ) Dd W, ⟨ds.length, by simp, Nat.zero_le _, ρ, Hs1, I, hp⟩, ?_⟩
  rintro i m σ H ⟨rfl, hle, ρ, Hs, I, hp⟩
  by_cases hlt : i < ds.length
  · refine .inr ⟨wk.go i H (I.le.old.trans I.le.sub) hlt, fun σ' H' => ∃ m', m' < ds.length - i ∧ (m' = ds.length - (i + 1) ∧ i + 1 ≤ ds.length ∧ ∃ ρ Hs, SInv K M Fx Hs1 H0 ρ Hs σ' H' ∧ PstS K mg M Fx Hs1 H0 (forGo t body (ds.drop (i + 1)) ρ) Dd W), fun σ' H' h => h, fun x H' hy => ?_⟩
    have hd : ds[i]? = some ds[i] := List.getElem?_eq_getElem hlt
    obtain ⟨Hi, l2, rx⟩ := wk.yld i Hs H x H' _ I.le.old I.le.sub hd hy
    rw [List.drop_eq_getElem_cons hlt, forGo] at hp
    refine use_T hp rx (I.step l2) hi fun ρ' σ' J' hp => ⟨Hs1, ρ', Hi, J', ?_⟩
    have go : ∀ ρ2, PstS K mg M Fx Hs1 H0 (forGo t body (ds.drop (i + 1)) ρ2) Dd W → ∀ Hs σ' H', SInv K M Fx Hs1 H0 ρ2 Hs σ' H' → ∃ m', m' < ds.length - i ∧ (m' = ds.length - (i + 1) ∧ i + 1 ≤ ds.length ∧ ∃ ρ Hs, SInv K M Fx Hs1 H0 ρ Hs σ' H' ∧ PstS K mg M Fx Hs1 H0 (forGo t body (ds.drop (i + 1)) ρ) Dd W) :=
      fun ρ2 hp Hs σ' H' I => ⟨ds.length - (i + 1), by omega, rfl, by omega, ρ2, Hs, I, hp⟩
    cases z : body ρ' with
    | ok f =>
      rw [z] at hp
      cases f with
      | nx ρ2 => exact go ρ2 hp
      | ct ρ2 => exact go ρ2 hp
      | bk ρ2 => exact hp
      | rt d => exact hp
      | rto d ρ2 => exact hp
      | xc x ρ2 => exact hp
    | exc x => rw [z] at hp; exact hp.elim
    | stuck => rw [z] at hp; exact hp.elim
  · refine .inl ⟨wk.stop i H (I.le.old.trans I.le.sub) (by omega), ?_⟩
    rw [List.drop_eq_nil_of_le (by omega)] at hp
    exact hp _ _ _ I
theorem exec_for {Φ : Fns} {M : List Nat} (cl : Bool) (t : Tgt) (it : It) (b : Ss) (ρ : Env) : exec Φ M (.for_ cl t it b) ρ = lift cl (fun _ => match it with | .range _ => true | _ => false) (evIt Φ it (view M cl ρ)) ρ fun ds => forGo t (execs Φ M b) ds ρ := by
  cases it <;> rw [exec] <;> first | rfl | (intro es h; cases h)
theorem ok_for (cl : Bool) (t : Tgt) (it : It) {b : Ss} (hb : SsOk C cs kk M b) : SOk C cs kk M (.for_ cl t it b) := fun X W st hX sx tk h Fx hfx Hs0 H0 => by
  rw [chkS] at h
  cases q : sFor st with
  | none => rw [q] at h; cases h
  | some u =>
    obtain ⟨tg, e, p⟩ := u
    rw [q] at h
    obtain ⟨pos, rfl⟩ := sFor_s q
    simp only [Bool.and_eq_true] at h
    obtain ⟨⟨⟨⟨h1, h2⟩, h3⟩, h4⟩, h5⟩ := h
    have hi := allM h5
    have hg : PG X tg (gOf X.K t) := pg_of hX.calm hX.names hX.nd rfl (fun x _ => sx.fn x) h1
    have hbody : PSs X p (tBody X.K X.mg W M Fx H0 (execs (fnsOf cs) M b)) := ⟨fun pins s σ H Dd I ⟨Hs1, hh⟩ => (hb X W p hX sx tk h4 Fx hfx Hs1 H0).run pins s σ H Dd I hh⟩
    by_cases hr : ∃ es, it = .range es
    · obtain ⟨es, rfl⟩ := hr
      obtain ⟨i1, i2⟩ := oki_rangeR (tg := tg) hX tk h2
      refine PS.imp (ps_for sx.pas hX.calm i1 hg hbody (folded_ok i2)) fun Dd σ H ⟨ρ, Hs, I, hp⟩ => ?_
      rw [exec] at hp
      obtain ⟨Hb, e1, e2, _, e3⟩ := I.enter cl
      refine ⟨_, Hb, e1, e2, use_P (Rel := RgRel) e3 (fun _ _ _ _ _ _ r => r) hp fun ds J Hj H' _ I' r hp => ?_⟩
      obtain ⟨lo, n, rfl, rfl⟩ := r
      exact for_turns (walk_rng lo n) I'.rebase hi (hp.base I'.le)
    · obtain ⟨i1, i2⟩ := ok_It it X W tg e hX tk h2 fun a b z => by
        subst z
        cases t with
        | nm i => cases h3
        | tp is =>
          have h1 : (match xTup tg with | some es => chkNames C.N X.env.scope X.env.scope is es | none => false) = true := h1
          cases q3 : xTup tg with
          | none => rw [q3] at h1; cases h1
          | some ks =>
            obtain ⟨k, p, rfl⟩ := xTup_s q3
            exact ⟨_, _, _, rfl⟩
      refine PS.imp (ps_for sx.pas hX.calm i1 hg hbody (folded_ok i2)) fun Dd σ H ⟨ρ, Hs, I, hp⟩ => ?_
      have hp := (congrArg (fun r => PstS X.K X.mg M Fx Hs0 H0 r Dd W) (exec_for (Φ := fnsOf cs) (M := M) cl t it b ρ)).mp hp
      obtain ⟨Hb, e1, e2, _, e3⟩ := I.enter cl
      refine ⟨_, Hb, e1, e2, use_P (Rel := fun Hi ds J => Walk X.K J Hi ds) e3 (fun Hi Hj ds J dn z r => ?_) hp fun ds J Hj H' _ I' wk hp => for_turns wk I'.rebase hi (hp.base I'.le)⟩
      cases cl with
      | true => rw [dn.same rfl]; exact r
      | false =>
        exfalso
        cases it with
        | range es => exact hr ⟨es, rfl⟩
        | val a => cases z
        | zip a b => cases z
        | range3 es => cases z
theorem ok_exC (a : E) : SOk C cs kk M (.exC a) := fun X W st hX sx tk h Fx hfx Hs0 H0 => by
  rw [chkS] at h
  cases q : sExp st with
  | none => rw [q] at h; cases h
  | some u =>
    obtain ⟨e, p⟩ := u
    rw [q] at h
    have hst := sExp_s q
    subst hst
    simp only [Bool.and_eq_true] at h
    refine PS.imp (ps_expr (ok_E a X W e hX tk h.1).1 (sw_no h.2 _ _ _)) fun Dd σ H ⟨ρ, Hs, I, hp⟩ => ?_
    rw [exec] at hp
    exact use_D I hp fun d v Hj H' J _ hp => hp _ _ _ J
theorem ok_retC (a : E) : SOk C cs kk M (.retC a) := fun X W st hX sx tk h Fx hfx Hs0 H0 => by
  rw [chkS] at h
  cases q : sRet st with
  | none => rw [q] at h; cases h
  | some u =>
    cases u with
    | none => rw [q] at h; cases h
    | some e =>
      rw [q] at h
      obtain ⟨pos, rfl⟩ := sRet_s q
      refine PS.imp (ps_ret (ok_E a X W e hX tk h).1) fun Dd σ H ⟨ρ, Hs, I, hp⟩ => ?_
      rw [exec] at hp
      exact use_D I hp fun d v Hj H' J r hp => hp _ _ _ J.le r
theorem ok_rse (cl : Bool) (c : Str) (a : E) : SOk C cs kk M (.rse cl c a) := fun X W st hX sx tk h Fx hfx Hs0 H0 => by
  rw [chkS] at h
  cases q : sRse st with
  | none => rw [q] at h; cases h
  | some u =>
    obtain ⟨x, as⟩ := u
    rw [q] at h
    obtain ⟨p1, p2, p3, rfl⟩ := sRse_s q
    simp only [Bool.and_eq_true, decide_eq_true_eq] at h
    obtain ⟨⟨⟨⟨⟨rfl, h1⟩, hxc⟩, h2⟩, h25⟩, h3⟩ := h
    match as, h3 with
    | [], h3 => cases h3
    | _ :: _ :: _, h3 => cases h3
    | [e], h3 =>
      simp only [Bool.and_eq_true] at h3
      obtain ⟨⟨B, T⟩, hk, hxn⟩ := hX.exs h1
      obtain ⟨g1, g2, g3⟩ := gl_of h2
      by_cases hf : ∃ f, exFld x = some (some f)
      · obtain ⟨f, hf⟩ := hf
        obtain ⟨C', c1, c2, c3, c4, _⟩ := T.one x _ hf (hxn x (List.contains_iff_mem.mp hxc))
        have TR := c4 f rfl
        refine PS.imp (ps_rse TR hX.calm tk (hX.room.mono hk) g1 c2 (ok_E a X W e hX tk h3.2).1 (star_cons h3.1) g2) fun Dd σ H ⟨ρ, Hs, I, hp⟩ => ?_
        rw [exec] at hp
        refine use_D I hp fun d v Hj H' J r hp => wRse_of TR.ox TR.no fun dd hd => ?_
        have hp : PstS X.K X.mg M Fx Hs0 H0 (rseD x d ρ) Dd W := hp
        unfold rseD at hp
        rw [hf] at hp
        have l := Le.new1 (o := .xd [(f, v)]) J.le.sub hd
        exact hp _ _ _ _ _ (J.step l) ⟨c2, dd, v, rfl, upd_same, r.mono l.old⟩
      · exfalso
        split at h25
        · exact hf ⟨_, by assumption⟩
        · cases h25
theorem ok_rs0 (c : Str) : SOk C cs kk M (.rs0 c) := fun X W st hX sx tk h Fx hfx Hs0 H0 => by
  rw [chkS] at h
  cases q : sRse st with
  | none => rw [q] at h; cases h
  | some u =>
    obtain ⟨x, as⟩ := u
    rw [q] at h
    obtain ⟨p1, p2, p3, rfl⟩ := sRse_s q
    simp only [Bool.and_eq_true, decide_eq_true_eq] at h
    obtain ⟨⟨⟨⟨rfl, h1⟩, hxc⟩, h2⟩, h3⟩ := h
    match as, h3 with
    | [], h3 => cases h3
    | _ :: _ :: _, h3 => cases h3
    | [e], h3 =>
      cases q2 : xConst e with
      | none => simp only [q2] at h3; cases h3
      | some k =>
        obtain ⟨j, p, rfl⟩ := xConst_s q2
        cases k with
        | str m =>
          obtain ⟨⟨B, T⟩, hk, hxn⟩ := hX.exs h1
          obtain ⟨g1, g2, g3⟩ := gl_of h2
          by_cases hf : exFld x = some none
          · obtain ⟨C', c1, c2, c3, c4, c5⟩ := T.one x _ hf (hxn x (List.contains_iff_mem.mp hxc))
            refine PS.imp (ps_rs0 (c5 rfl) c3.kC c3.xf.exC c3.ty hX.calm tk g1 c2 g2) fun Dd σ H ⟨ρ, Hs, I, hp⟩ => ?_
            rw [exec] at hp
            unfold rs0D at hp
            rw [hf] at hp
            exact hp _ _ _ _ _ I ⟨c2, rfl⟩
          · refine ⟨fun pins s σ H D I ⟨ρ, Hs, I', hp⟩ => ?_⟩
            exfalso
            rw [exec] at hp
            unfold rs0D at hp
            split at hp
            · exact hf (by assumption)
            · exact hp
        | _ => simp [xConst] at h3
theorem SInv.clear {K : PySem.W.Frag} {Hs0 H0 Hs H : Hp} {ρ : Env} {σ : L2.St} {i : Nat} {o : Option V} (I : SInv K M Fx Hs0 H0 ρ Hs σ H) (hi : i ∉ M) : SInv K M Fx Hs0 H0 (ρ.set i none) Hs (σ.set i o) H := by
  obtain ⟨OA, I⟩ := I
  have ne : ∀ j, j ∈ M → i ≠ j := fun j h e => hi (e ▸ h)
  refine ⟨OA, I.le, by simpa using I.len, fun j e hj q => ?_, fun j e hj q => ?_, fun j k d e hj hk q1 q2 hjk => ?_, fun p hp => ?_, I.fxM⟩
  · by_cases h : i = j
    · subst h
      by_cases hl : i < ρ.length
      · rw [List.getElem?_set_self hl] at q
        cases q
      · rw [List.getElem?_eq_none (by simpa using hl)] at q
        cases q
    · rw [List.getElem?_set_ne h] at q ⊢
      exact I.sl j e hj q
  · rw [List.getElem?_set_ne (ne j hj)] at q ⊢
    exact I.own j e hj q
  · rw [List.getElem?_set_ne (ne j hj)] at q1
    rw [List.getElem?_set_ne (ne k hk)] at q2
    exact I.inj j k d e hj hk q1 q2 hjk
  · rw [List.getElem?_set_ne (ne p.1 (I.fxM p hp))]
    exact I.fix p hp
theorem ok_tryx (i j : Nat) {b : Ss} (hb : SsOk C cs kk M b) : SOk C cs kk M (.tryx i j b) := fun X W st hX sx tk h Fx hfx Hs0 H0 => by
  rw [chkS] at h
  cases q : sTry st with
  | none => rw [q] at h; cases h
  | some u =>
    obtain ⟨bd, x, n, y⟩ := u
    rw [q] at h
    obtain ⟨np, yp, ep, ap, pos', pos, rfl⟩ := sTry_s q
    simp only [Bool.and_eq_true, decide_eq_true_eq, Bool.not_eq_true'] at h
    obtain ⟨⟨⟨⟨⟨⟨⟨⟨⟨⟨⟨⟨rfl, h1⟩, h2⟩, h3⟩, h4⟩, h5⟩, h6⟩, h7⟩, h8⟩, h9⟩, h10⟩, h11⟩, h12⟩ := h
    have hi : i ∉ M := fun z => by
      have : M.contains i = true := List.contains_iff_mem.mpr z
      rw [this] at h9; cases h9
    have hj : j ∉ M := fun z => by
      have : M.contains j = true := List.contains_iff_mem.mpr z
      rw [this] at h10; cases h10
    obtain ⟨⟨B, T⟩, hk, hxn⟩ := hX.exs h1
    obtain ⟨g1, g2, g3⟩ := gl_of h2
    obtain ⟨l1, l2⟩ := loc_of (X := X) h8 rfl fun x _ => sx.fn x
    refine PS.imp (ps_try_keep (tb := fun W => tS X.K X.mg W M Fx Hs0 H0 (execs (fnsOf cs) M b)) sx.stk sx.frm sx.noe (by rw [hX.names]; exact hX.nd) (by rw [hX.names]; exact h3) h4 (by rw [hX.names]; exact h7) l1 (sx.fn y) (c := .ref B) ⟨g1, g2, .inl T.mP⟩ tk h5 h6 fun W' pn xe tk' pas => ?_) fun Dd σ H ⟨ρ, Hs, I, hp⟩ => ?_
    · exact hb (X.tr pn xe) W' bd ⟨hX.calm, hX.names, hX.nd, hX.room, hX.fns, hX.cn, hX.free, hX.glob, hX.exs, hX.km, hX.mxs⟩ ⟨sx.fn, pas, sx.kind, sx.stk, sx.frm, sx.noe⟩ tk' h12 Fx hfx Hs0 H0
    · refine ⟨ρ, Hs, I, ?_⟩
      rw [exec] at hp
      cases z : execs (fnsOf cs) M b ρ with
      | ok f =>
        rw [z] at hp
        cases f with
        | nx ρ2 => exact hp
        | bk ρ2 => exact hp
        | ct ρ2 => exact hp
        | rt d => exact hp
        | rto d ρ2 => exact hp
        | xc x ρ2 =>
          intro c d Hi σ' H' J rx
          have hp : PstS X.K X.mg M Fx Hs0 H0 (match excD x with | some d => R.ok (.nx ((ρ2.set i none).set j (some d))) | none => .stuck) Dd W := hp
          cases hx : excD x with
          | none => rw [hx] at hp; exact hp.elim
          | some d0 =>
            rw [hx] at hp
            obtain ⟨cls, fld⟩ := x
            have key : ∃ fo C', exFld cls = some fo ∧ PySem.W.nsIn X.K mainGlobals cls = some (some (.ref C')) ∧ X.mg cls = some (.ref C') ∧ ExC X.K B C' ∧ (∀ f, fo = some f → PySem.W.findIn X.K (.ref C') f = some none) := by
              cases q : exFld cls with
              | none => unfold excD at hx; simp only [q] at hx; cases hx
              | some fo =>
                obtain ⟨C', c1, c2, c3, c4, _⟩ := T.one cls fo q (by have := rx.1; intro z; rw [z] at this; cases this)
                exact ⟨fo, C', rfl, c1, c2, c3, fun f e => (c4 f e).no⟩
            obtain ⟨fo, C', k1, k2, k3, k4, k5⟩ := key
            have ec : c = .ref C' := by
              have := rx.1
              rw [k3] at this
              exact (Option.some.inj this).symm
            subst ec
            refine ⟨true, k4.ex, fun _ a na => ?_, fun z => nomatch z⟩
            have l := Le.new1 (o := exk (.ref C') d a) J.le.sub na
            have J2 := (J.step l).clear (o := none) hi
            have fin : ∀ {d1 : D}, Rep X.K (upd Hi a (exk (.ref C') d a)) d1 (.ref a) → d1 = d0 → Dd.nx (((σ'.set i (some (.ref a))).set j (some (.ref a))).set i none) (upd H' a (exk (.ref C') d a)) := fun {d1} r e => by
              subst e
              have es : ((σ'.set i (some (.ref a))).set j (some (.ref a))).set i none = (σ'.set i none).set j (some (.ref a)) := by
                rw [List.set_comm _ _ h11, List.set_set, List.set_comm _ _ h11]
              rw [es]
              exact hp _ _ _ (J2.set hj r)
            cases fo with
            | none =>
              unfold excD at hx
              simp only [k1] at hx
              cases fld with
              | some _ => cases hx
              | none =>
                cases hx
                have hd : d = none := rx.2
                subst hd
                exact fin (.exv0 k1 k2 k4 upd_same) rfl
            | some f =>
              unfold excD at hx
              simp only [k1] at hx
              cases fld with
              | none => cases hx
              | some gy =>
                obtain ⟨g, y⟩ := gy
                simp only at hx
                split at hx
                · rename_i e
                  subst e
                  cases hx
                  obtain ⟨dd, v, e1, e2, e3⟩ := rx.2
                  subst e1
                  exact fin (.exv1 k1 k2 k4 (k5 f rfl) upd_same (l.old _ _ e2) (e3.mono l.old)) rfl
                · cases hx
      | exc x => rw [z] at hp; exact hp.elim
      | stuck => rw [z] at hp; exact hp.elim
theorem Reps.eraseIdx {K : PySem.W.Frag} {H : Hp} : ∀ {xs : List D} {us : List V} (i : Nat), Reps K H xs us → Reps K H (xs.eraseIdx i) (us.eraseIdx i)
  | _, _, _, .nil => .nil
  | _, _, 0, .cons _ t => t
  | _, _, i + 1, .cons q t => .cons q (Reps.eraseIdx i t)
theorem Reps.reverse {K : PySem.W.Frag} {H : Hp} : ∀ {xs : List D} {us : List V}, Reps K H xs us → Reps K H xs.reverse us.reverse
  | _, _, .nil => .nil
  | _, _, .cons q t => by
    rw [List.reverse_cons, List.reverse_cons]
    exact (Reps.reverse t).append (.cons q .nil)
theorem use_PG2 {α β γ : Type} {Rel : Hp → α → β → Prop} {K : PySem.W.Frag} {mg : Str → Option Value} {Hs0 H0 H : Hp} {ρ : Env} {σ : L2.St} {r : R α} {g : α → R γ} {k : γ → R Fl} {Dd : Ends} {W : WX} {Q : β → Hp → Prop} {Hb : Hp}
    (hb : ∀ Hi H', Le Hb H Hi H' → ∃ Hj, SInv K M Fx Hs0 H0 ρ Hj σ H' ∧ Down false Hi Hj)
    (h : PstS K mg M Fx Hs0 H0 (lift false (fun _ => true) (r >>= g) ρ k) Dd W) (q : ∀ a b Hi H', r = .ok a → Le Hb H Hi H' → Rel Hi a b → PstS K mg M Fx Hs0 H0 (lift false (fun _ => true) (g a) ρ k) Dd W → Q b H') : Pst Rel K mg Hb H r Q (fun c d H' => W c d σ H') := by
  cases r with
  | ok a => exact fun v Hi H' le ra => q a v Hi H' rfl le ra h
  | exc x =>
    intro c d Hi H' le rx
    have h : PstS K mg M Fx Hs0 H0 (if false || x.lf then .ok (.xc x ρ) else .stuck) Dd W := h
    by_cases z : (false || x.lf) = true
    · rw [if_pos z] at h
      obtain ⟨Hj, J, dn⟩ := hb Hi H' le
      exact h c d Hj σ H' J (rx.down dn z)
    · rw [if_neg z] at h
      exact h.elim
  | stuck => exact h.elim
/-- a new list that a call gives: it stands beside what stood -/
theorem call_new {K : PySem.W.Frag} {mg : Str → Option Value} {Hs0 H0 H : Hp} {ρ : Env} {σ : L2.St} {ds l : List D} {vs : List V} {Hb Hi H1 : Hp} {n : Nat} {g : List D → R D} {W : WX} {Q : VK}
    (e1 : Ex Hb H) (e3 : ∀ Hi H', Le Hb H Hi H' → ∃ Hj, SInv K M Fx Hs0 H0 ρ Hj σ H' ∧ Down false Hi Hj) (le : Le Hb H Hi H1) (r : Reps K Hi ds vs) (hz : D.lfs ds = true) (hn : ds.length = n) (hg : g ds = .ok (.lst l)) (hl : D.lfs l = true)
    (q : ∀ p ws Hj H', SInv K M Fx Hs0 H0 ρ Hj σ H' → Hj p = some (.lst ws) → Reps K Hj l ws → SqL K H' p ws → Q (.ref p) H') :
    spOf K mg n g vs H1 Q (fun c d H' => W c d σ H') := by
  obtain ⟨Ht, J0, dn0⟩ := e3 Hb H (Le.refl e1)
  refine ⟨noL Hi, ds, (noL_sub Hi).trans le.sub, r.drop (noL_keep Hi) hz, hn, ?_⟩
  rw [hg]
  intro v Hk H2 l2 rv
  obtain ⟨p, ws, rfl, q1, q2⟩ := rv.lstI
  have hnew : H1 p = none := by
    rcases l2.new p _ q1 with w | w
    · exact absurd w noL_not
    · exact w
  have hHp : H p = none := le.free hnew
  have toH : ∀ a, H1 a = none → H a = none := fun a h => le.free h
  let Hj : Hp := fun a => match Ht a with
    | some o => some o
    | none => if H a = none then Hk a else none
  have hj1 : ∀ a o, Ht a = some o → Hj a = some o := fun a o h => by show (match Ht a with | some o => some o | none => if H a = none then Hk a else none) = _; rw [h]
  have hj2 : ∀ a, H a = none → Hj a = Hk a := fun a h => by
    have : Ht a = none := by
      cases z : Ht a with
      | none => rfl
      | some o => rw [J0.le.sub a o z] at h; cases h
    show (match Ht a with | some o => some o | none => if H a = none then Hk a else none) = _
    rw [this]
    simp only [if_pos h]
  have hj3 : ∀ a o, Hj a = some o → Ht a = some o ∨ (H a = none ∧ Hk a = some o) := fun a o h => by
    cases z : Ht a with
    | some o' =>
      rw [hj1 a o' z] at h
      exact .inl h
    | none =>
      by_cases w : H a = none
      · rw [hj2 a w] at h
        exact .inr ⟨w, h⟩
      · have h : (match Ht a with | some o => some o | none => if H a = none then Hk a else none) = some o := h
        rw [z] at h
        simp only [if_neg w] at h
        cases h
  have lj : Le Ht H Hj H2 := ⟨hj1, le.ex.trans l2.ex, fun a o h => by
    rcases hj3 a o h with w | w
    · exact l2.ex a o (le.ex a o (J0.le.sub a o w))
    · exact l2.sub a o w.2, fun a o h => by
    rcases hj3 a o h with w | w
    · exact .inl w
    · exact .inr w.1⟩
  have keep : ExN Hk Hj := fun a o h hnl => by
    by_cases w : H a = none
    · rw [hj2 a w]; exact h
    · have hi : noL Hi a = some o := by
        rcases l2.new a o h with z | z
        · exact z
        · exact absurd (toH a z) w
      have hi := noL_sub Hi a o hi
      rcases le.new a o hi with z | z
      · exact hj1 a o (dn0.keep a o z hnl)
      · exact absurd z w
  exact q p ws Hj H2 (J0.step lj) (by rw [hj2 p hHp]; exact q1) (q2.drop keep hl) (SqL.of (l2.sub _ _ q1))
theorem ok_forC (t : Tgt) (k : Nat) (es : Es) {b : Ss} (hb : SsOk C cs kk M b) : SOk C cs kk M (.forC t k es b) := fun X W st hX sx tk h Fx hfx Hs0 H0 => by
  rw [chkS] at h
  cases q : sFor st with
  | none => rw [q] at h; cases h
  | some u =>
    obtain ⟨tg, e, p⟩ := u
    rw [q] at h
    obtain ⟨pos, rfl⟩ := sFor_s q
    simp only [Bool.and_eq_true] at h
    obtain ⟨⟨⟨⟨⟨h1, h2⟩, hnc⟩, hpe⟩, h4⟩, h5⟩ := h
    have hi := allM h5
    have hg : PG X tg (gOf X.K t) := pg_of hX.calm hX.names hX.nd rfl (fun x _ => sx.fn x) h1
    have hbody : PSs X p (tBody X.K X.mg W M Fx H0 (execs (fnsOf cs) M b)) := ⟨fun pins s σ H Dd I ⟨Hs1, hh⟩ => (hb X W p hX sx tk h4 Fx hfx Hs1 H0).run pins s σ H Dd I hh⟩
    rw [chk] at h2
    cases q9 : xCall e with
    | none => rw [q9] at h2; cases h2
    | some w =>
      obtain ⟨x, xs⟩ := w
      rw [q9] at h2
      obtain ⟨p9, pos9, rfl⟩ := xCall_s q9
      simp only [Bool.and_eq_true, decide_eq_true_eq] at h2
      obtain ⟨⟨⟨⟨c1, c0⟩, c2⟩, c3⟩, c4⟩ := h2
      rw [hX.cn, List.getElem?_map] at c1
      rw [hX.km, List.getElem?_map] at c0
      cases q2 : cs[k]? with
      | none => rw [q2] at c1; cases c1
      | some cal =>
        rw [q2] at c1 c0
        have c0 : some (cal.cls, cal.own) = some ([], []) := c0
        simp only [Option.some.injEq, Prod.mk.injEq] at c0
        have c1 : some (cal.name, cal.ps.length) = some (x, es.len) := c1
        simp only [Option.some.injEq, Prod.mk.injEq] at c1
        obtain ⟨rfl, h5'⟩ := c1
        obtain ⟨a1, a2, a3, _⟩ := (ok_Es es).args X W xs hX tk c4
        cases xs with
        | nil => exact absurd a3.symm c2
        | cons y ys =>
          obtain ⟨g1, g2, g3⟩ := gl_of c3
          have F := hX.fns cal (List.mem_of_getElem? q2)
          have hcall := pe_callS (pos := pos9) (p := p9) (F.fn c0.2) hX.room g1 (F.gl c0.1) F.kp F.bd (fun σ => passAt tk σ) a1 g2 (star_cons (a2 y (by simp))) (star_any fun x hx => a2 x (by simp [hx]))
          refine PS.imp (ps_for sx.pas hX.calm (pi_list (tg := tg) hcall) hg hbody (folded_ok hpe)) fun Dd σ H ⟨ρ, Hs, I, hp⟩ => ?_
          rw [exec] at hp
          unfold callC at hp
          obtain ⟨Hb, e1, e2, _, e3⟩ := I.enter false
          refine ⟨_, Hb, e1, e2, use_PG2 (Rel := Reps X.K) e3 hp fun ds vs Hi H1 _ le r hp => ?_⟩
          by_cases hz : D.lfs ds = true
          rotate_left
          · rw [if_neg hz] at hp
            exact hp.elim
          rw [if_pos hz] at hp
          have eg : (fnsOf cs)[k]? = some (cal.ps.length, cal.g) := by
            unfold fnsOf
            rw [List.getElem?_map, q2]
            rfl
          rw [eg] at hp
          simp only at hp
          by_cases hn : ds.length = cal.ps.length
          rotate_left
          · rw [if_neg hn] at hp
            exact hp.elim
          rw [if_pos hn] at hp
          cases hgd : cal.g ds with
          | stuck => rw [hgd] at hp; exact hp.elim
          | exc x => rw [hgd] at hp; exact hp.elim
          | ok d =>
            rw [hgd] at hp
            cases d with
            | lst l =>
              simp only at hp
              by_cases hl : D.lfs l = true
              rotate_left
              · rw [if_neg hl] at hp
                exact hp.elim
              rw [if_pos hl] at hp
              refine call_new e1 e3 le r hz hn hgd hl fun p ws Hj H' J hjp hr hsq => ⟨p, rfl, ⟨ws, hsq⟩, ?_⟩
              exact for_turns (walk_lst hjp hr) J.rebase hi (PstS.base J.le (hp : PstS X.K X.mg M Fx Hs0 H0 (forGo t (execs (fnsOf cs) M b) l ρ) Dd W))
            | _ => exact hp.elim
theorem ok_unset (i : Nat) : SOk C cs kk M (.unset i) := fun X W st hX sx tk h Fx hfx Hs0 H0 => by
  rw [chkS] at h
  cases q : sAsg st with
  | none => rw [q] at h; cases h
  | some u =>
    obtain ⟨tg, e, p⟩ := u
    rw [q] at h
    have hst := sAsg_s q
    subst hst
    simp only [Bool.and_eq_true] at h
    obtain ⟨⟨⟨h1, h2⟩, h4⟩, hnp⟩ := h
    have hi : i ∈ M := by simpa using h4
    have fxi : ∀ p ∈ Fx, p.1 ≠ i := fun p hp => by have := (hfx p hp).2; have := of_decide_eq_true hnp; omega
    have hg : PG X tg (gOf X.K (.nm i)) := pg_of hX.calm hX.names hX.nd rfl (fun x _ => sx.fn x) h1
    cases q2 : xConst e with
    | none => rw [q2] at h2; cases h2
    | some c =>
      rw [q2] at h2
      obtain ⟨j, pp, rfl⟩ := xConst_s q2
      cases c with
      | none =>
        have hw : swappedStores [tg] (.Constant .none j pp) X.env = pure none := by
          have h1 : (match xName tg with | some x => decide (C.N[i]? = some x) && locOk X.env.scope X.env.scope x | none => false) = true := h1
          cases z : xName tg with
          | none => rw [z] at h1; cases h1
          | some x =>
            obtain ⟨px, rfl⟩ := xName_s z
            rfl
        refine PS.imp (ps_asg pe_non hg (by exact rfl) hw (tgt_stores h1 X.env)) fun Dd σ H ⟨ρ, Hs, I, hp⟩ => ?_
        rw [exec] at hp
        obtain ⟨OA, I⟩ := I
        have no : ∀ j d, (ρ.set i none)[j]? = some (some d) → i ≠ j := fun j d q z => by
          subst z
          by_cases hl : i < ρ.length
          · rw [List.getElem?_set_self hl] at q
            cases q
          · rw [List.getElem?_eq_none (by simpa using hl)] at q
            cases q
        refine hp Hs (σ.set i (some .non)) H ⟨OA, I.le, by simpa using I.len, fun j e hj q => ?_, fun j e hj q => ?_, fun j k d e hj hk q1 q2 hjk => ?_, fun p hp => ?_, I.fxM⟩
        · have ne : i ≠ j := fun z => hj (z ▸ hi)
          rw [List.getElem?_set_ne ne] at q ⊢
          exact I.sl j e hj q
        · have ne := no j e q
          rw [List.getElem?_set_ne ne] at q ⊢
          exact I.own j e hj q
        · rw [List.getElem?_set_ne (no j d q1)] at q1
          rw [List.getElem?_set_ne (no k e q2)] at q2
          exact I.inj j k d e hj hk q1 q2 hjk
        · rw [List.getElem?_set_ne (Ne.symm (fxi p hp))]
          exact I.fix p hp
      | _ => cases h2
theorem ok_rev (i : Nat) : SOk C cs kk M (.rev i) := fun X W st hX sx tk h Fx hfx Hs0 H0 => by
  rw [chkS] at h
  cases q : sExp st with
  | none => rw [q] at h; cases h
  | some u =>
    obtain ⟨e, p⟩ := u
    rw [q] at h
    have hst := sExp_s q
    subst hst
    simp only [Bool.and_eq_true] at h
    have hi : i ∈ M := by simpa using h.1
    obtain ⟨x, px, ap, cp, rfl, hl, ho⟩ := chkM0_s hX h.2
    refine PS.imp (ps_expr (pe_bm0 PySem.F.plainAttrs_list PySem.F.slot_list_reverse PySem.F.type_list_reverse mt_reverse ho rfl hl)) fun Dd σ H ⟨ρ, Hs, I, hp⟩ => ?_
    rw [exec] at hp
    unfold revD at hp
    split at hp
    · rename_i xs q0
      obtain ⟨p, xs', vs, e, q1, b, c, f, g⟩ := I.own i _ hi q0
      cases e
      exact ⟨.ref p, q1, .inl ⟨rfl, vs, SqL.of f⟩, p, vs, rfl, rfl, f, hp _ _ _ (I.change hi q0 q1 g.reverse)⟩
    · exact hp.elim
theorem ok_apop (i j : Nat) (a : E) : SOk C cs kk M (.apop i j a) := fun X W st hX sx tk h Fx hfx Hs0 H0 => by
  rw [chkS] at h
  cases q : sExp st with
  | none => rw [q] at h; cases h
  | some u =>
    obtain ⟨e, p⟩ := u
    rw [q] at h
    have hst := sExp_s q
    subst hst
    simp only [Bool.and_eq_true, decide_eq_true_eq] at h
    obtain ⟨⟨⟨m1, m2⟩, hij⟩, h⟩ := h
    have hi : i ∈ M := by simpa using m1
    have hj : j ∈ M := by simpa using m2
    unfold chkAp at h
    cases z : xMeth e with
    | none => rw [z] at h; cases h
    | some w =>
      obtain ⟨o, n, xs, l⟩ := w
      rw [z] at h
      obtain ⟨ap, cp, rfl, hl⟩ := xMeth_s z
      simp only [Bool.and_eq_true, decide_eq_true_eq] at h
      obtain ⟨⟨⟨rfl, h1⟩, h2⟩, h3⟩ := h
      cases z2 : xName o with
      | none => rw [z2] at h2; cases h2
      | some x =>
        rw [z2] at h2
        obtain ⟨px, rfl⟩ := xName_s z2
        simp only [Bool.and_eq_true, decide_eq_true_eq] at h2
        obtain ⟨v1, v2, v3⟩ := vis_of h2.2
        have ho : PE X (.Name x px) (tVar i) := pe_var (by rw [hX.names]; exact h2.1) v1 v2 v3
        match xs, h3 with
        | [], h3 => cases h3
        | _ :: _ :: _, h3 => cases h3
        | [y], h3 =>
          obtain ⟨x2, px2, ap2, cp2, y2, rfl, hl2, ho2, hy2, hpl2⟩ := chkM_s hX tk h3
          have hpop := pe_bm PySem.F.plainAttrs_list PySem.F.slot_list_pop PySem.F.type_list_pop mt_popAt ho2 (pa_cons hy2 pa_nil (star_cons hpl2)) rfl (few1 hpl2) hl2 (star_cons hpl2) rfl
          refine PS.imp (ps_expr (pe_bm PySem.F.plainAttrs_list PySem.F.slot_list_append PySem.F.type_list_append mt_append ho (pa_cons hpop pa_nil (star_cons rfl)) rfl (few1 rfl) (by rw [← hl]; exact h1) (star_cons rfl) rfl)) fun Dd σ H ⟨ρ, Hs, I, hp⟩ => ?_
          rw [exec] at hp
          obtain ⟨xs, q0, hp⟩ := haveL_s hp
          obtain ⟨ys, qy, hp⟩ := haveL_s hp
          obtain ⟨p, xs', vs, e, q1, b, c, f, g⟩ := I.own i _ hi q0
          obtain ⟨p2, ys', ws, e', qs2, b2, c2, f2, g2⟩ := I.own j _ hj qy
          refine ⟨.ref p, q1, .inl ⟨rfl, vs, SqL.of f⟩, .ref p2, qs2, .inl ⟨rfl, ws, SqL.of f2⟩, use_D I hp fun d v Hj H' J r hp => ?_⟩
          unfold apopD at hp
          simp only [q0, qy] at hp
          cases d with
          | int k =>
            simp only at hp
            cases hs : seqIndex? k ys.length with
            | none => simp only [hs] at hp; exact hp.elim
            | some n =>
              simp only [hs] at hp
              cases hyn : ys[n]? with
              | none => simp only [hyn] at hp; exact hp.elim
              | some y =>
                simp only [hyn] at hp
                by_cases hz : xs.length < 16777216 ∧ -1000000 ≤ k ∧ k ≤ 1000000
                rotate_left
                · rw [if_neg hz] at hp
                  exact hp.elim
                rw [if_pos hz] at hp
                obtain ⟨p3, ys3, ws3, e3, q3, b3, c3, f3, g3⟩ := J.own j _ hj qy
                cases e3
                rw [qs2] at q3
                cases q3
                obtain ⟨yv, hyv, ry⟩ := g3.get hyn
                have J1 := J.change hj qy qs2 (g3.eraseIdx n)
                have q0' : (ρ.set j (some (.lst (ys.eraseIdx n))))[i]? = some (some (.lst xs)) := by
                  rw [List.getElem?_set_ne (Ne.symm hij)]
                  exact q0
                obtain ⟨p4, xs4, vs4, e4, q4, b4, c4, f4, g4⟩ := J1.own i _ hi q0'
                cases e4
                rw [q1] at q4
                cases q4
                refine ⟨p2, ws3, k, n, yv, rfl, by rw [r.intI], f3, by omega, by omega, by rw [← g3.length]; exact hs, hyv, ?_⟩
                exact ⟨p, vs4, yv, rfl, rfl, f4, by rw [size_eq, ← g4.length]; exact hz.1, hp _ _ _ (J1.change hi q0' q1 (g4.append (.cons ry .nil)))⟩
          | _ => exact hp.elim
mutual
theorem ok_S : ∀ (s : S) {M : List Nat}, SOk C cs kk M s
  | .asg cl t e, _ => ok_asg cl t e
  | .own cl i o, _ => ok_own cl i o
  | .app cl i e, _ => ok_app cl i e
  | .ext cl i e, _ => ok_ext cl i e
  | .grw i e, _ => ok_grw i e
  | .put cl i j e, _ => ok_put cl i j e
  | .ex e, _ => ok_ex e
  | .ite c a b, _ => ok_ite (ok_Ss a) (ok_Ss b)
  | .whl n c b, _ => ok_whl n (ok_Ss b)
  | .for_ cl t it b, _ => ok_for cl t it (ok_Ss b)
  | .ret e, _ => ok_ret e
  | .retN, _ => ok_retN
  | .pass, _ => ok_pass
  | .brk, _ => ok_brk
  | .cont, _ => ok_cont
  | .nev, _ => ok_nev
  | .clr i, _ => ok_clr i
  | .pop i, _ => ok_pop i
  | .exC e, _ => ok_exC e
  | .retC e, _ => ok_retC e
  | .rse cl c e, _ => ok_rse cl c e
  | .rs0 c, _ => ok_rs0 c
  | .tryx i j b, _ => ok_tryx i j (ok_Ss b)
  | .forC t k es b, _ => ok_forC t k es (ok_Ss b)
  | .apop i j e, _ => ok_apop i j e
  | .unset i, _ => ok_unset i
  | .rev i, _ => ok_rev i
  | .ownN i, _ => ok_ownN i
  | .ownV cl i e, _ => ok_ownV cl i e
  | .mk2 i j k es, _ => ok_mk2 i j k es
  | .mk i c k es, _ => ok_mk i c k es
  | .setf cl i f e, _ => ok_setf cl i f e
  | .asgM t m, _ => ok_asgM t m
  | .exM m, _ => ok_exM m
  | .iteM m a b, _ => ok_iteM m (ok_Ss a) (ok_Ss b)
  | .retM m, _ => ok_retM m
  | .retO m, _ => ok_retO m
  | .setd i f, _ => ok_setd i f
  | .putf cl i f a e, _ => ok_putf cl i f a e
  | .asgB t e, _ => ok_asgB t e
  | .par i j a b, _ => ok_par i j a b
  | .lcM i t it ifs m k cl a es, _ => ok_lcM i t it ifs m k cl a es
  | .dkn i, _ => ok_dkn i
  | .dkp i a e, _ => ok_dkp i a e
theorem ok_Ss : ∀ (s : Ss) {M : List Nat}, SsOk C cs kk M s
  | .nil, _ => oks_nilS
  | .fre i ss, _ => oks_freS fun _ => ok_Ss ss
  | .cons s ss, _ => oks_consS (ok_S s) (ok_Ss ss)
end
end

def env0 (n : Nat) (ds : List D) : Env := ds.map some ++ List.replicate (n - ds.length) none
def outD (r : R Fl) : R D := match r with
  | .ok (.rt d) => .ok d
  | .ok (.nx _) => .ok .non
  | .ok (.xc x _) => .exc x
  | _ => .stuck
def runFn (Φ : Fns) (n : Nat) (M : List Nat) (body : Ss) (ds : List D) : R D := outD (execs Φ M body (env0 n ds))
structure Def where
  N : List Str
  np : Nat
  M : List Nat
  body : Ss
def Def.run (d : Def) (Φ : Fns) : List D → R D := runFn Φ d.N.length d.M d.body
theorem def_ok {P : Program} {w : World} {K : PySem.W.Frag} {mg : Str → Option Value} {base : Heap} {x qual : Str} {st : Stmt} {f : Addr} {fd : FuncData} {ps : List Str} {k : Nat} {C : Cfg} {cs : List Cal} {M : List Nat} {body : Ss}
    (F : Fun K x qual st f fd) (S : FnScope C.N ps (defScope st)) (fns : ∀ c ∈ cs, c.Ok P w K mg base k) (cn : C.cn = cs.map fun c => (c.name, c.ps.length)) (free : ∀ x ∈ C.bl, mg x = none) (glob : ∀ p ∈ C.gl, GlP K w mg p)
    (exs : C.ex = true → (∃ B, ExAll P w K mg base B) ∧ 2 ≤ k ∧ ∀ c ∈ C.exn, mg c ≠ none) (km : C.km = cs.map fun c => (c.cls, c.own)) (mxs : C.mx = true → ∃ j, k = j + 1 ∧ ∀ c ∈ cs, c.Ok P w K mg base j)
    (hb : chkSs C (defScope st) M body (defBody st) = true) (hm : (M.all fun i => decide (ps.length ≤ i)) = true) : FnOk P w K mg base (L2.CX P w) (k + 1) f fd ps (spOf K mg ps.length (runFn (fnsOf cs) C.N.length M body)) := by
  refine F.okX S (fun vs H Q E h => ?_) (fun cdv A outer s H vs Q E hr h => ?_)
  · obtain ⟨Hs, ds, he, r, hl, _⟩ := h
    rw [← r.length, hl]
  · obtain ⟨Hs, ds, he, r, hl, hp⟩ := h
    have hX : XOk (cxOf (L2.CX P w) P w K mg base C.N qual (defScope st) f cdv A outer s H E) C cs k := ⟨rfl, rfl, S.nd, hr, fns, cn, free, glob, exs, km, mxs⟩
    have sx : SX (cxOf (L2.CX P w) P w K mg base C.N qual (defScope st) f cdv A outer s H E) := ⟨fun _ => rfl, passes_of rfl, S.kind, rfl, rfl, rfl⟩
    refine ⟨_, ok_Ss body _ (fun c d _ H' => E c d H') _ hX sx (L2.takes_of rfl rfl rfl rfl) hb [] (fun p hp => by cases hp) Hs H, env0 C.N.length ds, Hs, ?_, ?_⟩
    · have hN : ds.length = vs.length := r.length
      have low : ∀ i d, (env0 C.N.length ds)[i]? = some (some d) → i < ds.length ∧ ds[i]? = some d := fun i d q => by
        unfold env0 at q
        by_cases hi : i < ds.length
        · rw [List.getElem?_append_left (by simpa using hi), List.getElem?_map] at q
          cases z : ds[i]? with
          | none => rw [z] at q; cases q
          | some a => rw [z] at q; cases q; exact ⟨hi, rfl⟩
        · rw [List.getElem?_append_right (by simpa using hi), List.getElem?_replicate] at q
          split at q <;> cases q
      have noM : ∀ i d, i ∈ M → (env0 C.N.length ds)[i]? = some (some d) → False := fun i d hi q => by
        have h1 := (low i d q).1
        have h2 := List.all_eq_true.mp hm i hi
        have h2 : ps.length ≤ i := of_decide_eq_true h2
        omega
      refine ⟨fun _ => [], Le.refl he, ?_, fun i d hi q => ?_, fun i d hi q => (noM i d hi q).elim, fun i j d e hi hj q1 => (noM i d hi q1).elim, (fun p hp => by cases hp), fun p hp => by cases hp⟩
      · show (env0 C.N.length ds).length ≤ (L2.start C.N vs).length
        unfold env0 L2.start
        simp [hN]
      · obtain ⟨h1, h2⟩ := low i d q
        obtain ⟨v, q1, q2⟩ := r.get h2
        refine ⟨v, ?_, q2⟩
        show (L2.start C.N vs)[i]? = _
        unfold L2.start
        rw [List.getElem?_append_left (by rw [List.length_map, ← hN]; exact h1), List.getElem?_map, q1]
        rfl
    · unfold runFn at hp
      show PstS K mg M [] Hs H (execs (fnsOf cs) M body (env0 C.N.length ds)) _ _
      cases z : execs (fnsOf cs) M body (env0 C.N.length ds) with
      | ok fl =>
        rw [z] at hp
        cases fl with
        | nx ρ => exact fun Hs σ H I => hp _ _ _ I.le .non
        | rt d => exact hp
        | rto d ρ => exact hp.elim
        | xc x ρ => exact fun c d Hs σ H I xr => hp c d Hs H I.le xr
        | bk ρ => exact hp.elim
        | ct ρ => exact hp.elim
      | exc x => rw [z] at hp; exact hp.elim
      | stuck => rw [z] at hp; exact hp.elim
end Py

namespace Py
open PySem PySem.Spec PyProof.Rows L2
def oaOf : List Bool → List (List Addr) → Nat → List Addr
  | true :: _, A :: _, 0 => A
  | true :: bs, _ :: As, i + 1 => oaOf bs As i
  | false :: bs, As, i + 1 => oaOf bs As i
  | _, _, _ => []
section
variable {K : PySem.W.Frag} {Hs H : Hp}
theorem ArgsR.len {bs : List Bool} {ds : List D} {vs : List V} {As : List (List Addr)} (h : ArgsR K Hs H bs ds vs As) : bs.length = ds.length ∧ ds.length = vs.length := by
  induction h with
  | nil => exact ⟨rfl, rfl⟩
  | own _ _ ih => exact ⟨congrArg (· + 1) ih.1, congrArg (· + 1) ih.2⟩
  | val _ _ ih => exact ⟨congrArg (· + 1) ih.1, congrArg (· + 1) ih.2⟩
theorem ArgsR.at {bs : List Bool} {ds : List D} {vs : List V} {As : List (List Addr)} (h : ArgsR K Hs H bs ds vs As) : ∀ {i : Nat} {d : D}, As.flatten.Nodup → ds[i]? = some d → ∃ v, vs[i]? = some v ∧
    ((bs[i]? = some true ∧ OwnR K Hs H d v (oaOf bs As i) ∧ (oaOf bs As i).Nodup) ∨ (bs[i]? = some false ∧ Rep K Hs d v)) := by
  induction h with
  | nil => exact fun _ e => by simp at e
  | own r _ ih =>
    intro i d nd e
    rw [List.flatten_cons, List.nodup_append] at nd
    cases i with
    | zero =>
      simp at e
      subst e
      exact ⟨_, rfl, .inl ⟨rfl, r, nd.1⟩⟩
    | succ i =>
      obtain ⟨v, h1, h2⟩ := ih (i := i) nd.2.1 (by simpa using e)
      exact ⟨v, by simpa using h1, by simpa [oaOf] using h2⟩
  | val r _ ih =>
    intro i d nd e
    cases i with
    | zero =>
      simp at e
      subst e
      exact ⟨_, rfl, .inr ⟨rfl, r⟩⟩
    | succ i =>
      obtain ⟨v, h1, h2⟩ := ih (i := i) nd (by simpa using e)
      exact ⟨v, by simpa using h1, by simpa [oaOf] using h2⟩
end
end Py

namespace Py
open PySem PySem.Spec PyProof.Rows L2
theorem Cal.Ok.mono {c : Cal} {P : Program} {w : World} {K : PySem.W.Frag} {mg : Str → Option Value} {base : Heap} {j k : Nat} (h : c.Ok P w K mg base j) (l : j ≤ k) : c.Ok P w K mg base k := ⟨h.ok.mono l, h.gl, h.kp, h.bd, h.mt, h.ini⟩
structure FactP (K : PySem.W.Frag) (x : Str) (st : Stmt) (f : Addr) (fd : FuncData) : Prop where
  a : PySem.W.nsIn K mainGlobals x = some (some (.ref f))
  F : Fun K x x st f fd
theorem fact_mk {K : PySem.W.Frag} {x : Str} {st : Stmt} {f : Addr} {oc : Value} {od an : Option Addr} {osl : Array (Option Value)} {kV doc pm cdv ct : Value} (a : PySem.W.nsIn K mainGlobals x = some (some (.ref f)))
    (l : K.lookup f = some ⟨oc, od, .func (PySem.W.fnOf x x (defArgs st) (defBody st) (defScope st) .none kV doc pm an cdv ct), osl⟩)
    (c : PySem.W.codeIn K cdv x = true) (k : PySem.W.keepIn K (.ref f) = true) : FactP K x st f (PySem.W.fnOf x x (defArgs st) (defBody st) (defScope st) .none kV doc pm an cdv ct) := ⟨a, fun_mk l c k⟩
section
variable {P : Program} {w : World} {K : PySem.W.Frag} {mg : Str → Option Value} {base : Heap}
theorem fns_nil {k : Nat} : ∀ c ∈ ([] : List Cal), c.Ok P w K mg base k := fun c h => by cases h
theorem fns_cons {c : Cal} {cs : List Cal} {j k : Nat} (h : c.Ok P w K mg base j) (l : j ≤ k) (t : ∀ c ∈ cs, c.Ok P w K mg base k) : ∀ d ∈ c :: cs, d.Ok P w K mg base k := fun d hd => by
  rcases List.mem_cons.mp hd with rfl | hd
  · exact h.mono l
  · exact t d hd
theorem free_nil : ∀ x ∈ ([] : List Str), mg x = none := fun x hx => by cases hx
theorem free_cons {x : Str} {l : List Str} (h : mg x = none) (t : ∀ y ∈ l, mg y = none) : ∀ y ∈ x :: l, mg y = none := fun y hy => by
  rcases List.mem_cons.mp hy with rfl | hy
  · exact h
  · exact t y hy
theorem glob_nil : ∀ p ∈ ([] : List (Str × Cst)), GlP K w mg p := fun x hx => by cases hx
theorem cal_ok {x : Str} {st : Stmt} {f : Addr} {fd : FuncData} {ps : List Str} {k : Nat} {C : Cfg} {cs : List Cal} {M : List Nat} {body : Ss} {n : Nat}
    (F : FactP K x st f fd) (gl : mg x = some (.ref f)) (S : FnScope C.N ps (defScope st)) (bd : Binds K fd ps []) (fns : ∀ c ∈ cs, c.Ok P w K mg base k) (cn : C.cn = cs.map fun c => (c.name, c.ps.length)) (free : ∀ x ∈ C.bl, mg x = none) (glob : ∀ p ∈ C.gl, GlP K w mg p)
    (exs : C.ex = true → (∃ B, ExAll P w K mg base B) ∧ 2 ≤ k ∧ ∀ c ∈ C.exn, mg c ≠ none) (km : C.km = cs.map fun c => (c.cls, c.own)) (mxs : C.mx = true → ∃ j, k = j + 1 ∧ ∀ c ∈ cs, c.Ok P w K mg base j)
    (hb : chkSs C (defScope st) M body (defBody st) = true) (hm : (M.all fun i => decide (ps.length ≤ i)) = true) (hn : C.N.length = n) {g : List D → R D} (hg : runFn (fnsOf cs) n M body = g) : (Cal.mk x f fd ps g [] []).Ok P w K mg base (k + 1) :=
  ⟨by subst hn; subst hg; exact def_ok F.F S fns cn free glob exs km mxs hb hm, fun _ => gl, F.F.kp, bd, fun _ y hy => (by cases hy), fun _ y hy => (by cases hy)⟩
structure FactM (K : PySem.W.Frag) (m qual : Str) (st : Stmt) (f : Addr) (fd : FuncData) : Prop where
  F : Fun K m qual st f fd
/-- the law's promise, by its script alone -/
def spL (K : PySem.W.Frag) (n : Nat) : Sp := fun vs H Q _ => ∃ (a : Addr) (ns : List Int), vs = [.ref a] ∧ ns.length ≤ n ∧ Only H ∧ SqL K H a (ns.map V.int) ∧ ∀ H', Q (.bl true) H'
theorem end_ok {c : Cal} {k n : Nat} (h : c.Ok P w K mg base k) {x : Str} (hx : c.ps = [x]) (hg : ∀ ns : List Int, ns.length ≤ n → c.g [.scr ns] = .ok (.bl true)) (h0 : c.own = [] := by rfl) : FnOk P w K mg base (L2.CX P w) k c.f c.fd [x] (spL K n) := by
  have ho := h.fn h0
  rw [hx] at ho
  refine ho.imp fun vs H Q E q => ?_
  obtain ⟨a, ns, rfl, hl, hO, hS, hQ⟩ := q
  refine ⟨H, [.scr ns], Ex.refl _, .cons (.scr ?_) .nil, rfl, ?_⟩
  · rcases hS with hS | hS
    · rcases hS with hS | ⟨o, hS⟩
      · rcases hO a with q | ⟨o, xs, q⟩
        · rw [q] at hS; cases hS
        · rw [q] at hS; cases hS
      · exact .inl ⟨o, hS⟩
    · exact .inr fun H' => .inr hS
  · rw [hg ns hl]
    intro v Hi H' _ r
    rw [r.blI]
    exact hQ _
theorem cx_never {P : Program} {w : World} {H : Hp} {s : Shared} {e : Value} {s' : Shared} (h : L2.CX P w [] H s (fun _ _ _ => False) e s') : False := by
  obtain ⟨_, _, _, _, _, _, _, _, _, _, _, _, z⟩ := h
  exact z
end
section
variable {P : Program} {w : World} {K : PySem.W.Frag} {mg : Str → Option Value} {base : Heap}
end
end Py

namespace Py
open PySem PySem.Spec PyProof.Rows L2
theorem log2_small {n : Nat} (h : n < 18446744073709551616) : (n.log2 < 9000) = True := by
  refine eq_true ?_
  by_cases h0 : n = 0
  · subst h0; decide
  · have h1 : n.log2 < 64 := (Nat.log2_lt h0).mpr (by simpa using h)
    omega
theorem forGo_cons {t : Tgt} {body : Env → R Fl} {d : D} {ds : List D} {ρ : Env} : forGo t body (d :: ds) ρ = bindT t d ρ fun ρ1 => match body ρ1 with
    | .ok (.nx ρ') => forGo t body ds ρ'
    | .ok (.ct ρ') => forGo t body ds ρ'
    | .ok (.bk ρ') => .ok (.nx ρ')
    | r => r := rfl
theorem forGo_nx {t : Tgt} {body : Env → R Fl} {d : D} {ds : List D} {ρ ρ1 ρ2 : Env} (h1 : t.bind d ρ = .ok ρ1) (h2 : body ρ1 = .ok (.nx ρ2)) : forGo t body (d :: ds) ρ = forGo t body ds ρ2 := by
  rw [forGo_cons, bindT, h1]
  show (match body ρ1 with | .ok (.nx ρ') => forGo t body ds ρ' | .ok (.ct ρ') => forGo t body ds ρ' | .ok (.bk ρ') => .ok (.nx ρ') | r => r) = _
  rw [h2]
theorem forGo_ct {t : Tgt} {body : Env → R Fl} {d : D} {ds : List D} {ρ ρ1 ρ2 : Env} (h1 : t.bind d ρ = .ok ρ1) (h2 : body ρ1 = .ok (.ct ρ2)) : forGo t body (d :: ds) ρ = forGo t body ds ρ2 := by
  rw [forGo_cons, bindT, h1]
  show (match body ρ1 with | .ok (.nx ρ') => forGo t body ds ρ' | .ok (.ct ρ') => forGo t body ds ρ' | .ok (.bk ρ') => .ok (.nx ρ') | r => r) = _
  rw [h2]
theorem forGo_rt {t : Tgt} {body : Env → R Fl} {d v : D} {ds : List D} {ρ ρ1 : Env} (h1 : t.bind d ρ = .ok ρ1) (h2 : body ρ1 = .ok (.rt v)) : forGo t body (d :: ds) ρ = .ok (.rt v) := by
  rw [forGo_cons, bindT, h1]
  show (match body ρ1 with | .ok (.nx ρ') => forGo t body ds ρ' | .ok (.ct ρ') => forGo t body ds ρ' | .ok (.bk ρ') => .ok (.nx ρ') | r => r) = _
  rw [h2]
theorem lcGo_map {α : Type} {f : D → R (Option D)} {enc : α → D} {g : α → D} : ∀ (xs : List α), (∀ x ∈ xs, f (enc x) = .ok (some (g x))) → lcGo f (xs.map enc) = .ok (xs.map g)
  | [], _ => rfl
  | x :: xs, h => by
    have e := lcGo_map (f := f) (enc := enc) (g := g) xs fun y hy => h y (by simp [hy])
    rw [List.map_cons, lcGo, h x (by simp), e]
    rfl
theorem ev_lc_map {Φ : Fns} {t : Tgt} {it : It} {ifs : Es} {e : E} {ρ : Env} {α : Type} (enc : α → D) (g : α → D) (xs : List α) (hit : evIt Φ it ρ = .ok (xs.map enc)) (hlen : xs.length ≤ 16777215)
    (h : ∀ x ∈ xs, lcF (evTests Φ ifs) (ev Φ e) t ρ (enc x) = .ok (some (g x))) : ev Φ (.lc t it ifs e) ρ = .ok (.lst (xs.map g)) := by
  rw [ev, hit]
  show (if (xs.map enc).length ≤ 16777215 then (lcGo (lcF (evTests Φ ifs) (ev Φ e) t ρ) (xs.map enc) >>= fun l => R.ok (D.lst l)) else .stuck) = _
  rw [List.length_map, if_pos hlen, lcGo_map xs h]
  rfl
theorem eqv_enc {α : Type} [DecidableEq α] (enc : α → PyData) (h : ∀ a b, PyData.eqv (enc a) (enc b) = decide (a = b)) : ∀ xs ys : List α, PyData.eqvAll (xs.map enc) (ys.map enc) = decide (xs = ys)
  | [], [] => rfl
  | [], _ :: _ => rfl
  | _ :: _, [] => rfl
  | x :: xs, y :: ys => by
    show (PyData.eqv (enc x) (enc y) && PyData.eqvAll (xs.map enc) (ys.map enc)) = _
    rw [h, eqv_enc enc h xs ys]
    by_cases h1 : x = y
    · by_cases h2 : xs = ys
      · simp [h1, h2]
      · simp [h1, h2]
    · simp [h1]
theorem rangeD_ok {lo hi : Int} (h : -1000000 ≤ lo) (h2 : hi ≤ 1000000) (h3 : lo ≤ 1000000) (h4 : -1000000 ≤ hi) : rangeD lo hi = .ok ((List.range (hi - lo).toNat).map fun i => .int (lo + (i : Nat))) := by
  unfold rangeD
  rw [if_pos (by omega)]
theorem rangeD_nat {n : Nat} (h : n ≤ 1000000) : rangeD 0 (n : Int) = .ok ((List.range n).map fun i => .int (i : Nat)) := by
  rw [rangeD_ok (by omega) (by omega) (by omega) (by omega)]
  simp
/-- pairs of ints -/
def pd2 (p : Int × Int) : D := .tup [.int p.1, .int p.2]
theorem sortOk_pd2 (xs : List (Int × Int)) : sortOk (xs.map pd2) = true := by
  unfold sortOk
  simp only [Bool.and_eq_true, List.all_eq_true, decide_eq_true_eq, Bool.or_eq_true, List.mem_map, forall_exists_index, and_imp, forall_apply_eq_imp_iff₂]
  refine ⟨⟨⟨fun a _ => rfl, fun a _ b _ => rfl⟩, fun a _ => Nat.le_of_ble_eq_true rfl⟩, .inl fun a _ => rfl⟩
theorem ix_tup_nat {xs : List D} {j : Nat} {d : D} (h : xs[j]? = some d) : D.ix (.tup xs) (.int (j : Int)) = .ok d := by
  show (match atI xs (j : Int) with | some d => R.ok d | none => .stuck) = _
  rw [atI_nat h]
theorem ix_lst_nat {xs : List D} {j : Nat} {d : D} (h : xs[j]? = some d) : D.ix (.lst xs) (.int (j : Int)) = .ok d := by
  show (match atI xs (j : Int) with | some d => R.ok d | none => .stuck) = _
  rw [atI_nat h]
section
variable (a b c d e : D) (l xs ys : List D) (i j : Int) (p q : Bool) (ns : List Int)
theorem truth_non : D.truth .non = .ok false := Eq.trans rfl rfl
theorem truth_int : D.truth (.int i) = .ok (i != 0) := Eq.trans rfl rfl
theorem truth_lst : D.truth (.lst xs) = .ok (!xs.isEmpty) := Eq.trans rfl rfl
theorem truth_tup : D.truth (.tup xs) = .ok (!xs.isEmpty) := Eq.trans rfl rfl
theorem ix_t0 : D.ix (.tup (a :: l)) (.int 0) = .ok a := ix_tup_nat (j := 0) rfl
theorem ix_t1 : D.ix (.tup (a :: b :: l)) (.int 1) = .ok b := ix_tup_nat (j := 1) rfl
theorem ix_t2 : D.ix (.tup (a :: b :: c :: l)) (.int 2) = .ok c := ix_tup_nat (j := 2) rfl
theorem ix_t3 : D.ix (.tup (a :: b :: c :: d :: l)) (.int 3) = .ok d := ix_tup_nat (j := 3) rfl
theorem ix_t4 : D.ix (.tup (a :: b :: c :: d :: e :: l)) (.int 4) = .ok e := ix_tup_nat (j := 4) rfl
theorem ix_l0 : D.ix (.lst (a :: l)) (.int 0) = .ok a := ix_lst_nat (j := 0) rfl
theorem ix_l1 : D.ix (.lst (a :: b :: l)) (.int 1) = .ok b := ix_lst_nat (j := 1) rfl
theorem ix_l2 : D.ix (.lst (a :: b :: c :: l)) (.int 2) = .ok c := ix_lst_nat (j := 2) rfl
theorem ix_l3 : D.ix (.lst (a :: b :: c :: d :: l)) (.int 3) = .ok d := ix_lst_nat (j := 3) rfl
theorem len_lst : D.len (.lst xs) = .ok (.int xs.length) := Eq.trans rfl rfl
theorem len_tup : D.len (.tup xs) = .ok (.int xs.length) := Eq.trans rfl rfl
theorem len_scr : D.len (.scr ns) = .ok (.int ns.length) := Eq.trans rfl rfl
theorem ltD_int : D.lt (.int i) (.int j) = .ok (.bl (decide (i < j))) := Eq.trans rfl rfl
theorem eqD_int : D.eq (.int i) (.int j) = .ok (.bl (decide (i = j))) := Eq.trans rfl rfl
theorem eqD_bl : D.eq (.bl p) (.bl q) = .ok (.bl (decide (p = q))) := Eq.trans rfl rfl
theorem ne_int : D.ne (.int i) (.int j) = .ok (.bl (!decide (i = j))) := Eq.trans rfl rfl
theorem ne_bl : D.ne (.bl p) (.bl q) = .ok (.bl (!decide (p = q))) := Eq.trans rfl rfl
theorem cmpI_int (f : Int → Int → Bool) : D.cmpI f (.int i) (.int j) = .ok (.bl (f i j)) := Eq.trans rfl rfl
theorem add_int : D.add (.int i) (.int j) = .ok (.int (i + j)) := Eq.trans rfl rfl
theorem sub_int : D.sub (.int i) (.int j) = .ok (.int (i - j)) := Eq.trans rfl rfl
theorem add_lst : D.add (.lst xs) (.lst ys) = if xs.length + ys.length ≤ 16777216 then .ok (.lst (xs ++ ys)) else .stuck := Eq.trans rfl rfl
theorem mul_int : D.mul (.int i) (.int j) = if mulOk i j then .ok (.int (i * j)) else .stuck := Eq.trans rfl rfl
theorem fdiv_int : D.fdiv (.int i) (.int j) = if divOk j then .ok (.int (i / j)) else .stuck := Eq.trans rfl rfl
theorem mod_int : D.mod (.int i) (.int j) = if 0 < j then .ok (.int (i % j)) else .stuck := Eq.trans rfl rfl
theorem pow_int : D.pow (.int i) (.int j) = if powOk i j then .ok (.int (i ^ j.toNat)) else .stuck := Eq.trans rfl rfl
theorem shr_int : D.shr (.int i) (.int j) = if 0 ≤ j then .ok (.int (i / 2 ^ j.toNat)) else .stuck := Eq.trans rfl rfl
theorem negI_int : D.negI (.int i) = .ok (.int (-i)) := Eq.trans rfl rfl
theorem asB_bl : D.asB (.bl p) = .ok p := Eq.trans rfl rfl
theorem asI_int : D.asI (.int i) = .ok (some i) := Eq.trans rfl rfl
theorem items_lst : D.items (.lst xs) = .ok xs := Eq.trans rfl rfl
theorem items_tup : D.items (.tup xs) = .ok xs := Eq.trans rfl rfl
theorem listOf_lst : D.listOf (.lst xs) = .ok (.lst xs) := Eq.trans rfl rfl
theorem listOf_tup : D.listOf (.tup xs) = .ok (.lst xs) := Eq.trans rfl rfl
theorem tupOf_lst : D.tupOf (.lst xs) = .ok (.tup xs) := Eq.trans rfl rfl
theorem tupOf_tup : D.tupOf (.tup xs) = .ok (.tup xs) := Eq.trans rfl rfl
theorem rangeOf_1 : D.rangeOf [.int i] = rangeD 0 i := Eq.trans rfl rfl
theorem rangeOf_2 : D.rangeOf [.int i, .int j] = rangeD i j := Eq.trans rfl rfl
theorem f1_1 (f : D → R D) : f1 f [a] = f a := Eq.trans rfl rfl
theorem f2_2 (f : D → D → R D) : f2 f [a, b] = f a b := Eq.trans rfl rfl
theorem isNon_non : D.isNon .non = true := Eq.trans rfl rfl
theorem isNon_bl : D.isNon (.bl p) = false := Eq.trans rfl rfl
theorem isNon_int : D.isNon (.int i) = false := Eq.trans rfl rfl
theorem isNon_tup : D.isNon (.tup xs) = false := Eq.trans rfl rfl
theorem isNon_lst : D.isNon (.lst xs) = false := Eq.trans rfl rfl
end
theorem pd2_ix0 (p : Int × Int) : D.ix (pd2 p) (.int 0) = .ok (.int p.1) := ix_t0 _ _
theorem pd2_ix1 (p : Int × Int) : D.ix (pd2 p) (.int 1) = .ok (.int p.2) := ix_t1 _ _ _
theorem truth_bl (b : Bool) : D.truth (.bl b) = .ok b := Eq.trans rfl rfl
theorem depthAll_le {n : Nat} : ∀ xs : List PyData, (∀ x ∈ xs, x.depth ≤ n) → PyData.depthAll xs ≤ n
  | [], _ => Nat.zero_le _
  | x :: xs, h => by
    have h1 := h x (by simp)
    have h2 := depthAll_le xs fun y hy => h y (by simp [hy])
    show max x.depth (PyData.depthAll xs) ≤ n
    omega
theorem canLayAll0_of : ∀ xs : List PyData, (∀ x ∈ xs, x.canLay0 = true) → PyData.canLayAll0 xs = true
  | [], _ => rfl
  | x :: xs, h => by
    show (x.canLay0 && PyData.canLayAll0 xs) = true
    rw [h x (by simp), canLayAll0_of xs fun y hy => h y (by simp [hy])]
    rfl
/-- data of that depth at most -/
def Dn (n : Nat) (d : D) : Prop := d.ns = true ∧ d.pd.canLay0 = true ∧ d.pd.depth ≤ n
theorem Dn.deep {n : Nat} {d : D} (h : Dn n d) (hn : n ≤ 60) : d.deep = true := by
  unfold D.deep SeqAt.shaped
  rw [h.1, h.2.1, decide_eq_true (show d.pd.depth ≤ 64 by have := h.2.2; omega)]
  rfl
theorem Dn.lst {n : Nat} {xs : List D} (h : ∀ x ∈ xs, Dn n x) : Dn (n + 1) (.lst xs) := by
  refine ⟨?_, ?_, ?_⟩
  · show D.nss xs = true
    rw [D.nss_eq, List.all_eq_true]
    exact fun x hx => (h x hx).1
  · show PyData.canLayAll0 (D.pds xs) = true
    rw [D.pds_eq]
    refine canLayAll0_of _ fun x hx => ?_
    obtain ⟨y, hy, rfl⟩ := List.mem_map.mp hx
    exact (h y hy).2.1
  · show PyData.depthAll (D.pds xs) + 1 ≤ n + 1
    rw [D.pds_eq]
    have := depthAll_le (n := n) (xs.map D.pd) fun x hx => by
      obtain ⟨y, hy, rfl⟩ := List.mem_map.mp hx
      exact (h y hy).2.2
    omega
theorem Dn.tup {n : Nat} {xs : List D} (h : ∀ x ∈ xs, Dn n x) : Dn (n + 1) (.tup xs) := by
  obtain ⟨a, b, c⟩ := Dn.lst h
  exact ⟨a, b, c⟩
theorem Dn.int (i : Int) (n : Nat) : Dn n (.int i) := ⟨rfl, rfl, Nat.zero_le _⟩
theorem Dn.non (n : Nat) : Dn n .non := ⟨rfl, rfl, Nat.zero_le _⟩
theorem Dn.bl (b : Bool) (n : Nat) : Dn n (.bl b) := ⟨rfl, rfl, Nat.zero_le _⟩
end Py

namespace Py
abbrev Low := List (Option Int)
abbrev Pr := Int × Int
structure Wy where
  s : Nat
  e : Nat
  f : Int
  g : Int
  deriving DecidableEq
structure St where
  p : Nat
  k : Bool
  give : Nat
  get : Nat
  deriving DecidableEq
structure Flr where
  b0 : Nat
  b1 : Nat
  own : List Bool
  ways : List Wy
  sts : List St
structure Flr.Ok (F : Flr) : Prop where
  b0 : F.b0 ≤ 12
  b1 : F.b1 ≤ 12
  one : 1 ≤ F.own.length
  many : F.own.length ≤ 8
  few : F.ways.length ≤ 100
  ends : ∀ w ∈ F.ways, w.s < F.own.length ∧ w.e < F.own.length
  has : ∀ p, p < F.own.length → ∃ w ∈ F.ways, w.s = p
  st : ∀ s ∈ F.sts, s.p < F.own.length ∧ F.own.getD s.p false = true ∧ 1 ≤ s.give ∧ s.give ≤ 12 ∧ s.get ≤ 12
  nd : F.sts.Pairwise fun a b => a.p < b.p
/-- what a pair needs to go a way: one entry -/
def cut (b1 : Int) (s : Int) : Option Int → Option Int
  | none => none
  | some n => if b1 < max 0 (n - s) then none else some (max 0 (n - s))
def thr1 (b0 : Nat) (b1 f s : Int) (low : Low) (c : Nat) : Option Int := if 0 ≤ (c : Int) + f then cut b1 s (low.getD (min ((c : Int) + f) b0).toNat none) else none
def thru (b0 : Nat) (b1 f s : Int) (low : Low) : Low := (List.range (b0 + 1)).map (thr1 b0 b1 f s low)
def somes (l : Low) : List Int := l.filterMap id
def leastO (l : Low) : Option Int := match somes l with
  | [] => none
  | n :: ns => some (ns.foldl min n)
def greatO (l : Low) : Option Int := if none ∈ l then none else match somes l with
  | [] => none
  | n :: ns => some (ns.foldl max n)
def colOf (ls : List Low) (c : Nat) : Low := ls.map fun l => l.getD c none
def Flr.at (F : Flr) (p : Nat) : List Wy := F.ways.filter fun w => decide (w.s = p)
def Flr.stall (F : Flr) (p : Nat) : Option St := F.sts.find? fun s => decide (s.p = p)
def waysOf (F : Flr) (lows : List Low) (p : Nat) : List Low := (F.at p).map fun w => thru F.b0 F.b1 w.f w.g (lows.getD w.e [])
def base (F : Flr) (lows : List Low) (p : Nat) : Low := (List.range (F.b0 + 1)).map fun c => if F.own.getD p false then leastO (colOf (waysOf F lows p) c) else greatO (colOf (waysOf F lows p) c)
def gF (s : St) (low : Low) (c t : Nat) : Option Int := (low.getD (c - t * s.give) none).map fun n => max 0 (n - (t : Int) * s.get)
def givFs (s : St) (low : Low) (c : Nat) : List Int := (List.range (c / s.give + 1)).filterMap (gF s low c)
def givF (s : St) (low : Low) (c : Nat) : Option Int := leastO ((givFs s low c).map some)
def gS (b1 : Nat) (s : St) (low : Low) (c t : Nat) : Option Int := match low.getD (min (c + t * s.get) (low.length - 1)) none with
  | none => none
  | some n => if n + (t : Int) * s.give ≤ b1 then some (n + (t : Int) * s.give) else none
def givSs (b1 : Nat) (s : St) (low : Low) (c : Nat) : List Int := (List.range (b1 / s.give + 1)).filterMap (gS b1 s low c)
def givS (b1 : Nat) (s : St) (low : Low) (c : Nat) : Option Int := leastO ((givSs b1 s low c).map some)
def nextLow (F : Flr) (lows : List Low) (p : Nat) : Low := if F.own.getD p false then match F.stall p with
    | none => base F lows p
    | some s => (List.range (F.b0 + 1)).map (if s.k then givS F.b1 s (base F lows p) else givF s (base F lows p))
  else base F lows p
def stepL (F : Flr) (lows : List Low) : List Low := (List.range lows.length).map (nextLow F lows)
def lows0 (F : Flr) : List Low := F.own.map fun _ => List.replicate (F.b0 + 1) (some 0)
def lowsN (F : Flr) : Nat → List Low
  | 0 => lows0 F
  | k + 1 => stepL F (lowsN F k)
def leB : Option Int → Int → Bool
  | none, _ => false
  | some n, y => decide (n ≤ y)
def heldL (low : Low) (pr : Pr) : Bool := leB (low.getD pr.1.toNat none) pr.2
def heldAt (lows : List Low) (p : Nat) (pr : Pr) : Bool := heldL (lows.getD p []) pr
def Flr.In (F : Flr) (pr : Pr) : Prop := 0 ≤ pr.1 ∧ pr.1 ≤ F.b0 ∧ 0 ≤ pr.2 ∧ pr.2 ≤ F.b1
def behind (F : Flr) (pr : Pr) (w : Wy) : Option Pr := if pr.1 + w.f < 0 ∨ pr.2 + w.g < 0 then none else some (min (pr.1 + w.f) F.b0, min (pr.2 + w.g) F.b1)
def leads (F : Flr) (h : Nat → Pr → Bool) (pr : Pr) (w : Wy) : Bool := match behind F pr w with
  | none => false
  | some q => h w.e q
def trade (F : Flr) (s : St) (pr : Pr) (t : Nat) : Pr := if s.k then (min (pr.1 + (t : Int) * s.get) F.b0, pr.2 - (t : Int) * s.give) else (pr.1 - (t : Int) * s.give, min (pr.2 + (t : Int) * s.get) F.b1)
def tradesN (s : St) (pr : Pr) : Nat := (if s.k then pr.2.toNat else pr.1.toNat) / s.give
def trades (F : Flr) (p : Nat) (pr : Pr) : List Pr := match F.stall p with
  | none => [pr]
  | some s => (List.range (tradesN s pr + 1)).map (trade F s pr)
def goes (F : Flr) (h : Nat → Pr → Bool) (p : Nat) (pr : Pr) : Bool := if F.own.getD p false then (trades F p pr).any fun q => (F.at p).any (leads F h q) else (F.at p).all (leads F h pr)
/-- values within the brims -/
def Bd (F : Flr) (l : Low) : Prop := ∀ c n, l.getD c none = some n → 0 ≤ n ∧ n ≤ F.b1
structure LowOk (F : Flr) (l : Low) : Prop where
  len : l.length = F.b0 + 1
  bd : Bd F l
  up : ∀ pr pr' : Pr, F.In pr → F.In pr' → pr.1 ≤ pr'.1 → pr.2 ≤ pr'.2 → heldL l pr = true → heldL l pr' = true
def LowsOk (F : Flr) (lows : List Low) : Prop := lows.length = F.own.length ∧ ∀ l ∈ lows, LowOk F l
theorem LowsOk.at {F : Flr} {lows : List Low} (h : LowsOk F lows) {p : Nat} (hp : p < F.own.length) : LowOk F (lows.getD p []) := by
  have hx : p < lows.length := by rw [h.1]; exact hp
  rw [List.getD_eq_getElem?_getD, List.getElem?_eq_getElem hx]
  exact h.2 _ (List.getElem_mem hx)
def Up (F : Flr) (h : Nat → Pr → Bool) : Prop := ∀ p, p < F.own.length → ∀ pr pr' : Pr, F.In pr → F.In pr' → pr.1 ≤ pr'.1 → pr.2 ≤ pr'.2 → h p pr = true → h p pr' = true
theorem LowsOk.up {F : Flr} {lows : List Low} (h : LowsOk F lows) : Up F (heldAt lows) := fun p hp pr pr' hi hi' h1 h2 hh => (h.at hp).up pr pr' hi hi' h1 h2 hh
/-- held in the round k -/
def hk (F : Flr) : Nat → Nat → Pr → Bool
  | 0 => fun _ _ => true
  | k + 1 => goes F (hk F k)
open Classical in
noncomputable def rT (F : Flr) : Nat := if h : ∃ T, T ≤ 1352 ∧ lowsN F (T + 1) = lowsN F T ∧ ∀ k, k < T → lowsN F (k + 1) ≠ lowsN F k then h.choose else 0
/-- enough for ever -/
noncomputable def hw (F : Flr) (p : Nat) (pr : Pr) : Bool := heldAt (lowsN F (rT F)) p pr
end Py

namespace Py
def aoa (p q : Pr) : Bool := decide (q.1 ≤ p.1) && decide (q.2 ≤ p.2)
def hld (b : List Pr) (p : Pr) : Bool := b.any fun l => aoa p l
theorem aoa_iff {p q : Pr} : aoa p q = true ↔ q.1 ≤ p.1 ∧ q.2 ≤ p.2 := by simp [aoa]
theorem hld_iff {b : List Pr} {p : Pr} : hld b p = true ↔ ∃ l ∈ b, l.1 ≤ p.1 ∧ l.2 ≤ p.2 := by
  unfold hld
  rw [List.any_eq_true]
  exact ⟨fun ⟨l, h1, h2⟩ => ⟨l, h1, aoa_iff.mp h2⟩, fun ⟨l, h1, h2⟩ => ⟨l, h1, aoa_iff.mpr h2⟩⟩
def bstep (low : Low) (acc : List Pr) (c : Nat) : List Pr := match low.getD c none with
  | none => acc
  | some n => match acc.getLast? with
    | none => acc ++ [((c : Int), n)]
    | some p => if n < p.2 then acc ++ [((c : Int), n)] else acc
def bord (low : Low) : List Pr := (List.range low.length).foldl (bstep low) []
def Ris (b : List Pr) : Prop := b.Pairwise fun e e' => e.1 < e'.1 ∧ e'.2 < e.2
structure BInv (low : Low) (m : Nat) (acc : List Pr) : Prop where
  mem : ∀ e ∈ acc, ∃ c n, c < m ∧ e = ((c : Int), n) ∧ low.getD c none = some n
  ris : Ris acc
  last : ∀ e, acc.getLast? = some e → 0 < m ∧ low.getD (m - 1) none = some e.2
  has : ∀ x n, x < m → low.getD x none = some n → ∃ e ∈ acc, e.1 ≤ (x : Int) ∧ e.2 = n
theorem ris_eq {b : List Pr} (h : Ris b) {e e' : Pr} (he : e ∈ b) (he' : e' ∈ b) (h1 : e.1 ≤ e'.1) (h2 : e.2 ≤ e'.2) : e = e' := by
  induction h with
  | nil => cases he
  | cons hx _ ih =>
    rcases List.mem_cons.mp he with q | q
    · rcases List.mem_cons.mp he' with q' | q'
      · rw [q, q']
      · have := hx e' q'
        subst q
        omega
    · rcases List.mem_cons.mp he' with q' | q'
      · have := hx e q
        subst q'
        omega
      · exact ih q q'
def tell (lows : List Low) : List (List Pr) := lows.map bord
/-- the rounds -/
noncomputable def rds (F : Flr) : List (List (List Pr)) := (List.range (rT F + 1)).map fun k => tell (lowsN F k)
noncomputable def bds (F : Flr) : List (List Pr) := tell (lowsN F (rT F))
noncomputable def bd (F : Flr) (p : Nat) : List Pr := bord ((lowsN F (rT F)).getD p [])
noncomputable def lst (F : Flr) (p : Nat) (pr : Pr) : Option Nat := (List.range (rT F + 1)).find? fun k => !hk F k p pr
end Py

namespace Py
open PySem PySem.Spec PyProof.Rows L2
theorem forGo_inv {α : Type} {t : Tgt} {body : Env → R Fl} {enc : α → D} (I : List α → Env → Prop) : ∀ (xs done : List α), (∀ d x r, done ++ xs = d ++ x :: r → ∀ ρ, I d ρ → ∃ ρ1 ρ2, t.bind (enc x) ρ = .ok ρ1 ∧ (body ρ1 = .ok (.nx ρ2) ∨ body ρ1 = .ok (.ct ρ2)) ∧ I (d ++ [x]) ρ2) → ∀ ρ, I done ρ →
    ∃ ρ', forGo t body (xs.map enc) ρ = .ok (.nx ρ') ∧ I (done ++ xs) ρ'
  | [], done, _, ρ, h0 => ⟨ρ, rfl, by simpa using h0⟩
  | x :: xs, done, h, ρ, h0 => by
    obtain ⟨ρ1, ρ2, e1, e2, e3⟩ := h done x xs rfl ρ h0
    obtain ⟨ρ', e4, e5⟩ := forGo_inv I xs (done ++ [x]) (fun d y r e => h d y r (by rw [← e]; simp)) ρ2 e3
    refine ⟨ρ', ?_, by simpa using e5⟩
    rw [List.map_cons]
    rcases e2 with e2 | e2
    · rw [forGo_nx e1 e2, e4]
    · rw [forGo_ct e1 e2, e4]
/-- a loop that returns at the first that answers -/
theorem forGo_first {α : Type} {t : Tgt} {body : Env → R Fl} {enc : α → D} (I : Env → Prop) (ret : α → Option D) : ∀ (xs : List α), (∀ x ∈ xs, ∀ ρ, I ρ → ∃ ρ1, t.bind (enc x) ρ = .ok ρ1 ∧ (∀ d, ret x = some d → body ρ1 = .ok (.rt d)) ∧ (ret x = none → ∃ ρ2, (body ρ1 = .ok (.nx ρ2) ∨ body ρ1 = .ok (.ct ρ2)) ∧ I ρ2)) → ∀ ρ, I ρ →
    (∀ d, xs.findSome? ret = some d → forGo t body (xs.map enc) ρ = .ok (.rt d)) ∧ (xs.findSome? ret = none → ∃ ρ', forGo t body (xs.map enc) ρ = .ok (.nx ρ') ∧ I ρ')
  | [], _, ρ, h0 => ⟨fun d e => by simp at e, fun _ => ⟨ρ, rfl, h0⟩⟩
  | x :: xs, h, ρ, h0 => by
    obtain ⟨ρ1, e1, e2, e3⟩ := h x (by simp) ρ h0
    cases hr : ret x with
    | some d =>
      refine ⟨fun d' e => ?_, fun e => ?_⟩
      · rw [List.findSome?_cons, hr] at e
        cases e
        rw [List.map_cons, forGo_rt e1 (e2 d hr)]
      · rw [List.findSome?_cons, hr] at e
        cases e
    | none =>
      obtain ⟨ρ2, e4, e5⟩ := e3 hr
      obtain ⟨i1, i2⟩ := forGo_first I ret xs (fun y hy => h y (by simp [hy])) ρ2 e5
      have go : forGo t body ((x :: xs).map enc) ρ = forGo t body (xs.map enc) ρ2 := by
        rw [List.map_cons]
        rcases e4 with e4 | e4
        · exact forGo_nx e1 e4
        · exact forGo_ct e1 e4
      rw [List.findSome?_cons, hr, go]
      exact ⟨i1, i2⟩
def bordD (b : List (Int × Int)) : D := .tup (b.map pd2)
theorem max2_ok (i j : Int) : D.max2 (.int i) (.int j) = .ok (.int (max i j)) := by
  show R.ok (D.int (if j > i then j else i)) = _
  congr 2
  by_cases h : j > i
  · rw [if_pos h]; omega
  · rw [if_neg h]; omega
theorem len_map_tup {α : Type} (f : α → D) (l : List α) : D.len (.tup (l.map f)) = .ok (.int l.length) := by
  rw [len_tup, List.length_map]
theorem pd2_D (p : Int × Int) (n : Nat) : Dn (n + 1) (pd2 p) := Dn.tup fun x hx => by
  rcases List.mem_cons.mp hx with rfl | hx
  · exact Dn.int _ n
  · rcases List.mem_cons.mp hx with rfl | hx
    · exact Dn.int _ n
    · cases hx
theorem pd2_eqv (a b : Pr) : PySem.PyData.eqv (pd2 a).pd (pd2 b).pd = decide (a = b) := by
  show ((a.1 == b.1) && ((a.2 == b.2) && true)) = _
  by_cases h1 : a.1 = b.1
  · by_cases h2 : a.2 = b.2
    · rw [decide_eq_true (Prod.ext h1 h2)]; simp [h1, h2]
    · rw [decide_eq_false (fun e => h2 (by rw [e]))]; simp [h2]
  · rw [decide_eq_false (fun e => h1 (by rw [e]))]; simp [h1]
theorem bordD_D (b : List Pr) (n : Nat) : Dn (n + 2) (bordD b) := Dn.tup fun x hx => by
  obtain ⟨p, _, rfl⟩ := List.mem_map.mp hx
  exact pd2_D p n
theorem eqTup {xs ys : List D} {n : Nat} (h1 : Dn n (.tup xs)) (h2 : Dn n (.tup ys)) (hn : n ≤ 60) : D.eq (.tup xs) (.tup ys) = .ok (.bl (PyData.eqvAll (xs.map D.pd) (ys.map D.pd))) := by
  show (if (D.tup xs).deep && (D.tup ys).deep then R.ok (D.bl (PyData.eqv (D.tup xs).pd (D.tup ys).pd)) else .stuck) = _
  rw [h1.deep hn, h2.deep hn]
  show R.ok (D.bl (PyData.eqvAll (D.pds xs) (D.pds ys))) = _
  rw [D.pds_eq, D.pds_eq]
theorem bord_eq (a b : List Pr) : D.eq (bordD a) (bordD b) = .ok (.bl (decide (a = b))) := by
  have h1 := bordD_D a 0
  have h2 := bordD_D b 0
  unfold bordD at h1 h2 ⊢
  rw [eqTup h1 h2 (by omega), List.map_map, List.map_map]
  exact congrArg (fun k => R.ok (D.bl k)) (eqv_enc (fun l => (pd2 l).pd) pd2_eqv a b)
theorem fdiv_ok {i j : Int} (hj : 0 < j) (h2 : j.natAbs < 18446744073709551616) : D.fdiv (.int i) (.int j) = .ok (.int (i / j)) := by
  rw [fdiv_int, if_pos]
  unfold divOk
  rw [decide_eq_true hj, decide_eq_true (of_eq_true (log2_small h2))]
  rfl
theorem mod_ok {i j : Int} (hj : 0 < j) : D.mod (.int i) (.int j) = .ok (.int (i % j)) := by
  rw [mod_int, if_pos hj]
end Py

namespace Py
open PySem PySem.Spec PyProof.Rows L2
def L_border_of_0 : Ss := (.cons (.ite (.and (.cons (.isn true (.ix (.var 0) (.var 2))) (.cons (.or (.cons (.cmp .eq (.var 1) (.lst .nil)) (.cons (.cmp .lt (.ix (.var 0) (.var 2)) (.ix (.ix (.var 1) (.neg (.cst (.int 1)))) (.cst (.int 1)))) .nil))) .nil))) (.cons (.app true 1 (.tup (.cons (.var 2) (.cons (.ix (.var 0) (.var 2)) .nil)))) .nil) .nil) .nil)
def b_border_of : Ss := (.cons (.own true 1 (.disp .nil)) (.cons (.for_ true (.nm 2) (.range (.cons (.bi .len (.cons (.var 0) .nil)) .nil)) L_border_of_0) (.cons (.ret (.bi .tuple (.cons (.var 1) .nil))) .nil)))
def g_border_of : List D → R D := runFn [] 3 [1] b_border_of
def L_through_0 : Ss := (.cons (.asg true (.nm 7) (.cst .non)) (.cons (.ite (.cmp .ge (.bin .add (.var 4) (.ix (.var 1) (.cst (.int 2)))) (.cst (.int 0))) (.cons (.asg true (.nm 7) (.ix (.var 2) (.bi .min2 (.cons (.bin .add (.var 4) (.ix (.var 1) (.cst (.int 2)))) (.cons (.var 5) .nil))))) .nil) .nil) (.cons (.ite (.isn true (.var 7)) (.cons (.asg true (.nm 7) (.bi .max2 (.cons (.cst (.int 0)) (.cons (.bin .sub (.var 7) (.ix (.var 1) (.cst (.int 3)))) .nil)))) (.cons (.ite (.cmp .gt (.var 7) (.var 6)) (.cons (.asg true (.nm 7) (.cst .non)) .nil) .nil) .nil)) .nil) (.cons (.app true 3 (.var 7)) .nil))))
def b_through : Ss := (.cons (.asg true (.tp [5, 6]) (.ix (.var 0) (.cst (.int 0)))) (.cons (.own true 3 (.disp .nil)) (.cons (.for_ true (.nm 4) (.range (.cons (.bin .add (.var 5) (.cst (.int 1))) .nil)) L_through_0) (.cons (.ret (.var 3)) .nil))))
def g_through : List D → R D := runFn [] 8 [3] b_through
def b_greatest_of : Ss := (.cons (.ite (.cmp .isin (.cst .non) (.var 0)) (.cons (.ret (.cst .non)) .nil) .nil) (.cons (.ret (.bi .maxL (.cons (.var 0) .nil))) .nil))
def g_greatest_of : List D → R D := runFn [] 1 [] b_greatest_of
def lc_least_of_0 : E := .lc (.nm 1) (.val (.var 0)) (.cons (.isn true (.var 1)) .nil) (.var 1)
def b_least_of : Ss := (.cons (.ret (.minD lc_least_of_0)) .nil)
def g_least_of : List D → R D := runFn [] 2 [] b_least_of
def b_is_whole : Ss := (.cons (.ret (.and (.cons (.isi (.var 0) .int) (.cons (.not (.isi (.var 0) .bool)) .nil)))) .nil)
def g_is_whole : List D → R D := runFn [] 1 [] b_is_whole
def b_is_within : Ss := (.cons (.ret (.and (.cons (.call 0 (.cons (.var 0) .nil)) (.cons (.cmp .le (.var 1) (.var 0)) (.cons (.cmp .le (.var 0) (.var 2)) .nil))))) .nil)
def g_is_within : List D → R D := runFn [(1, g_is_whole)] 3 [] b_is_within
def b_check_place : Ss := (.cons (.ite (.not (.call 0 (.cons (.var 1) (.cons (.cst (.int 0)) (.cons (.bin .sub (.bi .len (.cons (.ix (.var 0) (.cst (.int 1))) .nil)) (.cst (.int 1))) .nil))))) (.cons .nev .nil) .nil) .nil)
def g_check_place : List D → R D := runFn [(3, g_is_within)] 2 [] b_check_place
def L_stall_at_0 : Ss := (.cons (.ite (.cmp .eq (.ix (.var 2) (.cst (.int 0))) (.var 1)) (.cons (.ret (.var 2)) .nil) .nil) .nil)
def b_stall_at : Ss := (.cons (.ex (.call 0 (.cons (.var 0) (.cons (.var 1) .nil)))) (.cons (.for_ true (.nm 2) (.val (.ix (.var 0) (.cst (.int 3)))) L_stall_at_0) (.cons (.ret (.cst .non)) .nil)))
def g_stall_at : List D → R D := runFn [(2, g_check_place)] 3 [] b_stall_at
def L_given_first_0 : Ss := (.cons (.asg true (.nm 6) (.ix (.var 1) (.bin .sub (.var 3) (.bin .mul (.var 5) (.ix (.var 0) (.cst (.int 2))))))) (.cons (.ite (.isn true (.var 6)) (.cons (.app true 4 (.bi .max2 (.cons (.cst (.int 0)) (.cons (.bin .sub (.var 6) (.bin .mul (.var 5) (.ix (.var 0) (.cst (.int 3))))) .nil)))) .nil) .nil) .nil))
def L_given_first_1 : Ss := (.cons (.own true 4 (.disp .nil)) (.cons (.for_ true (.nm 5) (.range (.cons (.bin .add (.bin .fdiv (.var 3) (.ix (.var 0) (.cst (.int 2)))) (.cst (.int 1))) .nil)) L_given_first_0) (.cons (.app false 2 (.call 0 (.cons (.var 4) .nil))) .nil)))
def b_given_first : Ss := (.cons (.own true 2 (.disp .nil)) (.cons (.for_ true (.nm 3) (.range (.cons (.bi .len (.cons (.var 1) .nil)) .nil)) L_given_first_1) (.cons (.ret (.var 2)) .nil)))
def g_given_first : List D → R D := runFn [(1, g_least_of)] 7 [2, 4] b_given_first
def L_given_second_0 : Ss := (.cons (.asg true (.nm 7) (.ix (.var 1) (.bi .min2 (.cons (.bin .add (.var 4) (.bin .mul (.var 6) (.ix (.var 0) (.cst (.int 3))))) (.cons (.bin .sub (.bi .len (.cons (.var 1) .nil)) (.cst (.int 1))) .nil))))) (.cons (.ite (.and (.cons (.isn true (.var 7)) (.cons (.cmp .le (.bin .add (.var 7) (.bin .mul (.var 6) (.ix (.var 0) (.cst (.int 2))))) (.var 2)) .nil))) (.cons (.app true 5 (.bin .add (.var 7) (.bin .mul (.var 6) (.ix (.var 0) (.cst (.int 2)))))) .nil) .nil) .nil))
def L_given_second_1 : Ss := (.cons (.own true 5 (.disp .nil)) (.cons (.for_ true (.nm 6) (.range (.cons (.bin .add (.bin .fdiv (.var 2) (.ix (.var 0) (.cst (.int 2)))) (.cst (.int 1))) .nil)) L_given_second_0) (.cons (.app false 3 (.call 0 (.cons (.var 5) .nil))) .nil)))
def b_given_second : Ss := (.cons (.own true 3 (.disp .nil)) (.cons (.for_ true (.nm 4) (.range (.cons (.bi .len (.cons (.var 1) .nil)) .nil)) L_given_second_1) (.cons (.ret (.var 3)) .nil)))
def g_given_second : List D → R D := runFn [(1, g_least_of)] 8 [3, 5] b_given_second
def lc_next_low_0 : E := .lc (.nm 7) (.val (.ix (.var 0) (.cst (.int 2)))) (.cons (.cmp .eq (.ix (.var 7) (.cst (.int 0))) (.var 1)) .nil) (.call 0 (.cons (.var 0) (.cons (.var 7) (.cons (.ix (.var 2) (.ix (.var 7) (.cst (.int 1)))) .nil))))
def lc_next_low_1 : E := .lc (.nm 5) (.val (.var 3)) .nil (.ix (.var 5) (.var 8))
def lc_next_low_2 : E := .lc (.nm 8) (.range (.cons (.bin .add (.ix (.ix (.var 0) (.cst (.int 0))) (.cst (.int 0))) (.cst (.int 1))) .nil)) .nil lc_next_low_1
def lc_next_low_3 : E := .lc (.nm 9) (.val (.var 4)) .nil (.call 1 (.cons (.var 9) .nil))
def lc_next_low_4 : E := .lc (.nm 9) (.val (.var 4)) .nil (.call 2 (.cons (.var 9) .nil))
def b_next_low : Ss := (.cons (.asg true (.nm 3) lc_next_low_0) (.cons (.asg true (.nm 4) lc_next_low_2) (.cons (.ite (.cmp .ne (.ix (.ix (.var 0) (.cst (.int 1))) (.var 1)) (.glo "KEEPER" (.str ("keeper" : Str)))) (.cons (.ret lc_next_low_3) .nil) .nil) (.cons (.asg true (.nm 5) lc_next_low_4) (.cons (.asg true (.nm 6) (.call 3 (.cons (.var 0) (.cons (.var 1) .nil)))) (.cons (.ite (.isn false (.var 6)) (.cons (.ret (.var 5)) .nil) .nil) (.cons (.ite (.cmp .eq (.ix (.var 6) (.cst (.int 1))) (.cst (.int 0))) (.cons (.ret (.call 4 (.cons (.var 6) (.cons (.var 5) .nil)))) .nil) .nil) (.cons (.ret (.call 5 (.cons (.var 6) (.cons (.var 5) (.cons (.ix (.ix (.var 0) (.cst (.int 0))) (.cst (.int 1))) .nil))))) .nil))))))))
def g_next_low : List D → R D := runFn [(3, g_through), (1, g_greatest_of), (1, g_least_of), (2, g_stall_at), (2, g_given_first), (3, g_given_second)] 10 [] b_next_low
def lc_rounds_0 : E := .lc (.nm 4) (.val (.ix (.var 0) (.cst (.int 1)))) .nil (.bin .mul (.lst (.cons (.cst (.int 0)) .nil)) (.bin .add (.ix (.ix (.var 0) (.cst (.int 0))) (.cst (.int 0))) (.cst (.int 1))))
def lc_rounds_1 : E := .lc (.nm 6) (.val (.var 1)) .nil (.call 0 (.cons (.var 6) .nil))
def lc_rounds_2 : E := .lc (.nm 5) (.range (.cons (.bi .len (.cons (.var 1) .nil)) .nil)) .nil (.call 1 (.cons (.var 0) (.cons (.var 5) (.cons (.var 1) .nil))))
def L_rounds_0 : Ss := (.cons (.app true 2 lc_rounds_1) (.cons (.asg true (.nm 3) lc_rounds_2) (.cons (.ite (.cmp .eq (.var 3) (.var 1)) (.cons (.ret (.var 2)) .nil) .nil) (.cons (.asg true (.nm 1) (.var 3)) .nil))))
def b_rounds : Ss := (.cons (.asg true (.nm 1) lc_rounds_0) (.cons (.own true 2 (.disp .nil)) (.cons (.whl 100000 (.cst (.bl true)) L_rounds_0) .nil)))
def g_rounds : List D → R D := runFn [(1, g_border_of), (3, g_next_low)] 7 [2] b_rounds
def lc_ways_from_0 : E := .lc (.nm 2) (.range (.cons (.bi .len (.cons (.ix (.var 0) (.cst (.int 2))) .nil)) .nil)) (.cons (.cmp .eq (.ix (.ix (.ix (.var 0) (.cst (.int 2))) (.var 2)) (.cst (.int 0))) (.var 1)) .nil) (.var 2)
def b_ways_from : Ss := (.cons (.ex (.call 0 (.cons (.var 0) (.cons (.var 1) .nil)))) (.cons (.ret lc_ways_from_0) .nil))
def g_ways_from : List D → R D := runFn [(2, g_check_place)] 3 [] b_ways_from
def b_after : Ss := (.cons (.asg true (.nm 3) (.bin .add (.ix (.var 1) (.cst (.int 0))) (.ix (.var 2) (.cst (.int 2))))) (.cons (.asg true (.nm 4) (.bin .add (.ix (.var 1) (.cst (.int 1))) (.ix (.var 2) (.cst (.int 3))))) (.cons (.ite (.or (.cons (.cmp .lt (.var 3) (.cst (.int 0))) (.cons (.cmp .lt (.var 4) (.cst (.int 0))) .nil))) (.cons (.ret (.cst .non)) .nil) .nil) (.cons (.ret (.tup (.cons (.bi .min2 (.cons (.var 3) (.cons (.ix (.ix (.var 0) (.cst (.int 0))) (.cst (.int 0))) .nil))) (.cons (.bi .min2 (.cons (.var 4) (.cons (.ix (.ix (.var 0) (.cst (.int 0))) (.cst (.int 1))) .nil))) .nil)))) .nil))))
def g_after : List D → R D := runFn [] 5 [] b_after
def b_at_or_above : Ss := (.cons (.ret (.and (.cons (.cmp .ge (.ix (.var 0) (.cst (.int 0))) (.ix (.var 1) (.cst (.int 0)))) (.cons (.cmp .ge (.ix (.var 0) (.cst (.int 1))) (.ix (.var 1) (.cst (.int 1)))) .nil)))) .nil)
def g_at_or_above : List D → R D := runFn [] 2 [] b_at_or_above
def L_holds_0 : Ss := (.cons (.ite (.call 0 (.cons (.var 1) (.cons (.var 2) .nil))) (.cons (.ret (.cst (.bl true))) .nil) .nil) .nil)
def b_holds : Ss := (.cons (.for_ true (.nm 2) (.val (.var 0)) L_holds_0) (.cons (.ret (.cst (.bl false))) .nil))
def g_holds : List D → R D := runFn [(2, g_at_or_above)] 3 [] b_holds
def b_is_row : Ss := (.cons (.ret (.and (.cons (.isi (.var 0) .tuple) (.cons (.cmp .eq (.bi .len (.cons (.var 0) .nil)) (.var 1)) .nil)))) .nil)
def g_is_row : List D → R D := runFn [] 2 [] b_is_row
def b_check_pair : Ss := (.cons (.ite (.or (.cons (.not (.call 0 (.cons (.var 1) (.cons (.cst (.int 2)) .nil)))) (.cons (.not (.call 1 (.cons (.ix (.var 1) (.cst (.int 0))) (.cons (.cst (.int 0)) (.cons (.ix (.ix (.var 0) (.cst (.int 0))) (.cst (.int 0))) .nil))))) (.cons (.not (.call 1 (.cons (.ix (.var 1) (.cst (.int 1))) (.cons (.cst (.int 0)) (.cons (.ix (.ix (.var 0) (.cst (.int 0))) (.cst (.int 1))) .nil))))) .nil)))) (.cons .nev .nil) .nil) .nil)
def g_check_pair : List D → R D := runFn [(2, g_is_row), (3, g_is_within)] 2 [] b_check_pair
def L_lasting_in_0 : Ss := (.cons (.ite (.not (.call 0 (.cons (.ix (.ix (.var 0) (.var 3)) (.var 1)) (.cons (.var 2) .nil)))) (.cons (.ret (.var 3)) .nil) .nil) .nil)
def b_lasting_in : Ss := (.cons (.for_ true (.nm 3) (.range (.cons (.bi .len (.cons (.var 0) .nil)) .nil)) L_lasting_in_0) (.cons (.ret (.cst .non)) .nil))
def g_lasting_in : List D → R D := runFn [(2, g_holds)] 4 [] b_lasting_in
def L_least_pairs_0 : Ss := (.cons (.ite (.not (.call 0 (.cons (.var 1) (.cons (.var 2) .nil)))) (.cons (.app true 1 (.var 2)) .nil) .nil) .nil)
def b_least_pairs : Ss := (.cons (.own true 1 (.disp .nil)) (.cons (.for_ true (.nm 2) (.val (.sset (.var 0))) L_least_pairs_0) (.cons (.ret (.bi .tuple (.cons (.var 1) .nil))) .nil)))
def g_least_pairs : List D → R D := runFn [(2, g_holds)] 3 [1] b_least_pairs
def b_t_law_cell : Ss := (.cons (.ite (.cmp .lt (.var 1) (.bi .len (.cons (.var 0) .nil))) (.cons (.ret (.bin .mod (.ix (.var 0) (.var 1)) (.bin .pow (.cst (.int 10)) (.cst (.int 40))))) .nil) .nil) (.cons (.ret (.cst (.int 0))) .nil))
def g_t_law_cell : List D → R D := runFn [] 2 [] b_t_law_cell
def L_t_law_held_0 : Ss := (.cons (.ite (.and (.cons (.cmp .ge (.ix (.var 1) (.cst (.int 0))) (.var 2)) (.cons (.cmp .ge (.ix (.var 1) (.cst (.int 1))) (.var 3)) .nil))) (.cons (.ret (.cst (.bl true))) .nil) .nil) .nil)
def b_t_law_held : Ss := (.cons (.for_ true (.tp [2, 3]) (.val (.var 0)) L_t_law_held_0) (.cons (.ret (.cst (.bl false))) .nil))
def g_t_law_held : List D → R D := runFn [] 4 [] b_t_law_held
end Py

namespace Py
open PySem PySem.Spec PyProof.Rows L2
theorem whole_ok (i : Int) : g_is_whole [.int i] = .ok (.bl true) := by
  simp [g_is_whole, b_is_whole, runFn, env0, outD, Py.execs, Py.exec, exec_for, ev, evs, evAnd, evOr, evPart, evTests, evIt, lift, view, mask, tst, bindT, Tgt.bind, setAll, O.f, appD, extD, putD, haveL, Cop.f, Bop.f, Bi.f, divOk, powOk, mulOk, log2_small, Cst.d, D.isTy, D.lf, D.lfs, D.lfItems, R.bind_assoc, List.foldl, truth_non, truth_bl, truth_int, truth_lst, truth_tup, ix_t0, ix_t1, ix_t2, ix_t3, ix_t4, ix_l0, ix_l1, ix_l2, ix_l3, pd2_ix0, pd2_ix1, len_lst, len_tup, len_scr, ltD_int, eqD_int, eqD_bl, ne_int, ne_bl, cmpI_int, add_int, sub_int, mul_int, fdiv_int, mod_int, pow_int, shr_int, negI_int, asB_bl, asI_int, items_lst, items_tup, listOf_lst, listOf_tup, tupOf_lst, tupOf_tup, rangeOf_1, rangeOf_2, f1_1, f2_2, isNon_non, isNon_bl, isNon_int, isNon_tup, isNon_lst]
end Py

namespace Py
open PySem PySem.Spec PyProof.Rows L2
theorem aoa_ok (p q : Int × Int) : g_at_or_above [pd2 p, pd2 q] = .ok (.bl (aoa p q)) := by
  unfold aoa
  by_cases h : q.1 ≤ p.1
  · simp [g_at_or_above, b_at_or_above, runFn, env0, outD, Py.execs, Py.exec, exec_for, ev, evs, evAnd, evOr, evPart, evTests, evIt, lift, view, mask, tst, bindT, Tgt.bind, setAll, O.f, appD, extD, putD, haveL, Cop.f, Bop.f, Bi.f, divOk, powOk, mulOk, log2_small, Cst.d, D.isTy, D.lf, D.lfs, D.lfItems, R.bind_assoc, List.foldl, truth_non, truth_bl, truth_int, truth_lst, truth_tup, ix_t0, ix_t1, ix_t2, ix_t3, ix_t4, ix_l0, ix_l1, ix_l2, ix_l3, pd2_ix0, pd2_ix1, len_lst, len_tup, len_scr, ltD_int, eqD_int, eqD_bl, ne_int, ne_bl, cmpI_int, add_int, sub_int, mul_int, fdiv_int, mod_int, pow_int, shr_int, negI_int, asB_bl, asI_int, items_lst, items_tup, listOf_lst, listOf_tup, tupOf_lst, tupOf_tup, rangeOf_1, rangeOf_2, f1_1, f2_2, isNon_non, isNon_bl, isNon_int, isNon_tup, isNon_lst, pd2_ix0, pd2_ix1, h]
  · simp [g_at_or_above, b_at_or_above, runFn, env0, outD, Py.execs, Py.exec, exec_for, ev, evs, evAnd, evOr, evPart, evTests, evIt, lift, view, mask, tst, bindT, Tgt.bind, setAll, O.f, appD, extD, putD, haveL, Cop.f, Bop.f, Bi.f, divOk, powOk, mulOk, log2_small, Cst.d, D.isTy, D.lf, D.lfs, D.lfItems, R.bind_assoc, List.foldl, truth_non, truth_bl, truth_int, truth_lst, truth_tup, ix_t0, ix_t1, ix_t2, ix_t3, ix_t4, ix_l0, ix_l1, ix_l2, ix_l3, pd2_ix0, pd2_ix1, len_lst, len_tup, len_scr, ltD_int, eqD_int, eqD_bl, ne_int, ne_bl, cmpI_int, add_int, sub_int, mul_int, fdiv_int, mod_int, pow_int, shr_int, negI_int, asB_bl, asI_int, items_lst, items_tup, listOf_lst, listOf_tup, tupOf_lst, tupOf_tup, rangeOf_1, rangeOf_2, f1_1, f2_2, isNon_non, isNon_bl, isNon_int, isNon_tup, isNon_lst, pd2_ix0, pd2_ix1, h]
theorem findSome_any {α β : Type} (xs : List α) (f : α → Bool) (v : β) : xs.findSome? (fun x => if f x then some v else none) = if xs.any f then some v else none := by
  induction xs with
  | nil => rfl
  | cons x xs ih =>
    rw [List.findSome?_cons, List.any_cons]
    cases f x with
    | true => rfl
    | false => simpa using ih
theorem holds_ok (d : D) (b : List (Int × Int)) (h : D.items d = .ok (b.map pd2)) (p : Int × Int) : g_holds [d, pd2 p] = .ok (.bl (hld b p)) := by
  have e := forGo_first (t := .nm 2) (body := Py.execs [(2, g_at_or_above)] [] L_holds_0) (enc := pd2) (fun ρ => ∃ x, ρ = [some d, some (pd2 p), x]) (fun l => if aoa p l then some (D.bl true) else none) b (fun l _ ρ hρ => by
    obtain ⟨x, rfl⟩ := hρ
    refine ⟨_, rfl, fun v hv => ?_, fun hn => ⟨[some d, some (pd2 p), some (pd2 l)], .inl ?_, _, rfl⟩⟩
    · cases hl : aoa p l <;> rw [hl] at hv <;> cases hv
      simp [L_holds_0, runFn, env0, outD, Py.execs, Py.exec, exec_for, ev, evs, evAnd, evOr, evPart, evTests, evIt, lift, view, mask, tst, bindT, Tgt.bind, setAll, O.f, appD, extD, putD, haveL, Cop.f, Bop.f, Bi.f, divOk, powOk, mulOk, log2_small, Cst.d, D.isTy, D.lf, D.lfs, D.lfItems, R.bind_assoc, List.foldl, truth_non, truth_bl, truth_int, truth_lst, truth_tup, ix_t0, ix_t1, ix_t2, ix_t3, ix_t4, ix_l0, ix_l1, ix_l2, ix_l3, pd2_ix0, pd2_ix1, len_lst, len_tup, len_scr, ltD_int, eqD_int, eqD_bl, ne_int, ne_bl, cmpI_int, add_int, sub_int, mul_int, fdiv_int, mod_int, pow_int, shr_int, negI_int, asB_bl, asI_int, items_lst, items_tup, listOf_lst, listOf_tup, tupOf_lst, tupOf_tup, rangeOf_1, rangeOf_2, f1_1, f2_2, isNon_non, isNon_bl, isNon_int, isNon_tup, isNon_lst, aoa_ok, hl]
    · cases hl : aoa p l <;> rw [hl] at hn <;> cases hn
      simp [L_holds_0, runFn, env0, outD, Py.execs, Py.exec, exec_for, ev, evs, evAnd, evOr, evPart, evTests, evIt, lift, view, mask, tst, bindT, Tgt.bind, setAll, O.f, appD, extD, putD, haveL, Cop.f, Bop.f, Bi.f, divOk, powOk, mulOk, log2_small, Cst.d, D.isTy, D.lf, D.lfs, D.lfItems, R.bind_assoc, List.foldl, truth_non, truth_bl, truth_int, truth_lst, truth_tup, ix_t0, ix_t1, ix_t2, ix_t3, ix_t4, ix_l0, ix_l1, ix_l2, ix_l3, pd2_ix0, pd2_ix1, len_lst, len_tup, len_scr, ltD_int, eqD_int, eqD_bl, ne_int, ne_bl, cmpI_int, add_int, sub_int, mul_int, fdiv_int, mod_int, pow_int, shr_int, negI_int, asB_bl, asI_int, items_lst, items_tup, listOf_lst, listOf_tup, tupOf_lst, tupOf_tup, rangeOf_1, rangeOf_2, f1_1, f2_2, isNon_non, isNon_bl, isNon_int, isNon_tup, isNon_lst, aoa_ok, hl]) [some d, some (pd2 p), none] ⟨none, rfl⟩
  rw [findSome_any] at e
  unfold hld
  cases hh : b.any fun l => aoa p l
  · rw [hh] at e
    obtain ⟨ρ', e1, x, rfl⟩ := e.2 rfl
    simp [g_holds, b_holds, runFn, env0, outD, Py.execs, Py.exec, exec_for, ev, evs, evAnd, evOr, evPart, evTests, evIt, lift, view, mask, tst, bindT, Tgt.bind, setAll, O.f, appD, extD, putD, haveL, Cop.f, Bop.f, Bi.f, divOk, powOk, mulOk, log2_small, Cst.d, D.isTy, D.lf, D.lfs, D.lfItems, R.bind_assoc, List.foldl, truth_non, truth_bl, truth_int, truth_lst, truth_tup, ix_t0, ix_t1, ix_t2, ix_t3, ix_t4, ix_l0, ix_l1, ix_l2, ix_l3, pd2_ix0, pd2_ix1, len_lst, len_tup, len_scr, ltD_int, eqD_int, eqD_bl, ne_int, ne_bl, cmpI_int, add_int, sub_int, mul_int, fdiv_int, mod_int, pow_int, shr_int, negI_int, asB_bl, asI_int, items_lst, items_tup, listOf_lst, listOf_tup, tupOf_lst, tupOf_tup, rangeOf_1, rangeOf_2, f1_1, f2_2, isNon_non, isNon_bl, isNon_int, isNon_tup, isNon_lst, h, e1]
  · rw [hh] at e
    have e1 := e.1 _ rfl
    simp [g_holds, b_holds, runFn, env0, outD, Py.execs, Py.exec, exec_for, ev, evs, evAnd, evOr, evPart, evTests, evIt, lift, view, mask, tst, bindT, Tgt.bind, setAll, O.f, appD, extD, putD, haveL, Cop.f, Bop.f, Bi.f, divOk, powOk, mulOk, log2_small, Cst.d, D.isTy, D.lf, D.lfs, D.lfItems, R.bind_assoc, List.foldl, truth_non, truth_bl, truth_int, truth_lst, truth_tup, ix_t0, ix_t1, ix_t2, ix_t3, ix_t4, ix_l0, ix_l1, ix_l2, ix_l3, pd2_ix0, pd2_ix1, len_lst, len_tup, len_scr, ltD_int, eqD_int, eqD_bl, ne_int, ne_bl, cmpI_int, add_int, sub_int, mul_int, fdiv_int, mod_int, pow_int, shr_int, negI_int, asB_bl, asI_int, items_lst, items_tup, listOf_lst, listOf_tup, tupOf_lst, tupOf_tup, rangeOf_1, rangeOf_2, f1_1, f2_2, isNon_non, isNon_bl, isNon_int, isNon_tup, isNon_lst, h, e1]
theorem held_ok (d : D) (b : List (Int × Int)) (h : D.items d = .ok (b.map pd2)) (p : Int × Int) : g_t_law_held [d, pd2 p] = .ok (.bl (hld b p)) := by
  have e := forGo_first (t := .tp [2, 3]) (body := Py.execs [] [] L_t_law_held_0) (enc := pd2) (fun ρ => ∃ x y, ρ = [some d, some (pd2 p), x, y]) (fun l => if aoa p l then some (D.bl true) else none) b (fun l _ ρ hρ => by
    obtain ⟨x, y, rfl⟩ := hρ
    refine ⟨[some d, some (pd2 p), some (.int l.1), some (.int l.2)], rfl, fun v hv => ?_, fun hn => ⟨[some d, some (pd2 p), some (.int l.1), some (.int l.2)], .inl ?_, _, _, rfl⟩⟩
    · cases hl : aoa p l <;> rw [hl] at hv <;> cases hv
      obtain ⟨h1, h2⟩ := aoa_iff.mp hl
      simp [L_t_law_held_0, runFn, env0, outD, Py.execs, Py.exec, exec_for, ev, evs, evAnd, evOr, evPart, evTests, evIt, lift, view, mask, tst, bindT, Tgt.bind, setAll, O.f, appD, extD, putD, haveL, Cop.f, Bop.f, Bi.f, divOk, powOk, mulOk, log2_small, Cst.d, D.isTy, D.lf, D.lfs, D.lfItems, R.bind_assoc, List.foldl, truth_non, truth_bl, truth_int, truth_lst, truth_tup, ix_t0, ix_t1, ix_t2, ix_t3, ix_t4, ix_l0, ix_l1, ix_l2, ix_l3, pd2_ix0, pd2_ix1, len_lst, len_tup, len_scr, ltD_int, eqD_int, eqD_bl, ne_int, ne_bl, cmpI_int, add_int, sub_int, mul_int, fdiv_int, mod_int, pow_int, shr_int, negI_int, asB_bl, asI_int, items_lst, items_tup, listOf_lst, listOf_tup, tupOf_lst, tupOf_tup, rangeOf_1, rangeOf_2, f1_1, f2_2, isNon_non, isNon_bl, isNon_int, isNon_tup, isNon_lst, pd2_ix0, pd2_ix1, h1, h2]
    · cases hl : aoa p l <;> rw [hl] at hn <;> cases hn
      unfold aoa at hl
      by_cases h1 : l.1 ≤ p.1
      · by_cases h2 : l.2 ≤ p.2
        · simp [h1, h2] at hl
        · simp [L_t_law_held_0, runFn, env0, outD, Py.execs, Py.exec, exec_for, ev, evs, evAnd, evOr, evPart, evTests, evIt, lift, view, mask, tst, bindT, Tgt.bind, setAll, O.f, appD, extD, putD, haveL, Cop.f, Bop.f, Bi.f, divOk, powOk, mulOk, log2_small, Cst.d, D.isTy, D.lf, D.lfs, D.lfItems, R.bind_assoc, List.foldl, truth_non, truth_bl, truth_int, truth_lst, truth_tup, ix_t0, ix_t1, ix_t2, ix_t3, ix_t4, ix_l0, ix_l1, ix_l2, ix_l3, pd2_ix0, pd2_ix1, len_lst, len_tup, len_scr, ltD_int, eqD_int, eqD_bl, ne_int, ne_bl, cmpI_int, add_int, sub_int, mul_int, fdiv_int, mod_int, pow_int, shr_int, negI_int, asB_bl, asI_int, items_lst, items_tup, listOf_lst, listOf_tup, tupOf_lst, tupOf_tup, rangeOf_1, rangeOf_2, f1_1, f2_2, isNon_non, isNon_bl, isNon_int, isNon_tup, isNon_lst, pd2_ix0, pd2_ix1, h1, h2]
      · simp [L_t_law_held_0, runFn, env0, outD, Py.execs, Py.exec, exec_for, ev, evs, evAnd, evOr, evPart, evTests, evIt, lift, view, mask, tst, bindT, Tgt.bind, setAll, O.f, appD, extD, putD, haveL, Cop.f, Bop.f, Bi.f, divOk, powOk, mulOk, log2_small, Cst.d, D.isTy, D.lf, D.lfs, D.lfItems, R.bind_assoc, List.foldl, truth_non, truth_bl, truth_int, truth_lst, truth_tup, ix_t0, ix_t1, ix_t2, ix_t3, ix_t4, ix_l0, ix_l1, ix_l2, ix_l3, pd2_ix0, pd2_ix1, len_lst, len_tup, len_scr, ltD_int, eqD_int, eqD_bl, ne_int, ne_bl, cmpI_int, add_int, sub_int, mul_int, fdiv_int, mod_int, pow_int, shr_int, negI_int, asB_bl, asI_int, items_lst, items_tup, listOf_lst, listOf_tup, tupOf_lst, tupOf_tup, rangeOf_1, rangeOf_2, f1_1, f2_2, isNon_non, isNon_bl, isNon_int, isNon_tup, isNon_lst, pd2_ix0, pd2_ix1, h1]) [some d, some (pd2 p), none, none] ⟨none, none, rfl⟩
  rw [findSome_any] at e
  unfold hld
  cases hh : b.any fun l => aoa p l
  · rw [hh] at e
    obtain ⟨ρ', e1, x, y, rfl⟩ := e.2 rfl
    simp [g_t_law_held, b_t_law_held, runFn, env0, outD, Py.execs, Py.exec, exec_for, ev, evs, evAnd, evOr, evPart, evTests, evIt, lift, view, mask, tst, bindT, Tgt.bind, setAll, O.f, appD, extD, putD, haveL, Cop.f, Bop.f, Bi.f, divOk, powOk, mulOk, log2_small, Cst.d, D.isTy, D.lf, D.lfs, D.lfItems, R.bind_assoc, List.foldl, truth_non, truth_bl, truth_int, truth_lst, truth_tup, ix_t0, ix_t1, ix_t2, ix_t3, ix_t4, ix_l0, ix_l1, ix_l2, ix_l3, pd2_ix0, pd2_ix1, len_lst, len_tup, len_scr, ltD_int, eqD_int, eqD_bl, ne_int, ne_bl, cmpI_int, add_int, sub_int, mul_int, fdiv_int, mod_int, pow_int, shr_int, negI_int, asB_bl, asI_int, items_lst, items_tup, listOf_lst, listOf_tup, tupOf_lst, tupOf_tup, rangeOf_1, rangeOf_2, f1_1, f2_2, isNon_non, isNon_bl, isNon_int, isNon_tup, isNon_lst, h, e1]
  · rw [hh] at e
    have e1 := e.1 _ rfl
    simp [g_t_law_held, b_t_law_held, runFn, env0, outD, Py.execs, Py.exec, exec_for, ev, evs, evAnd, evOr, evPart, evTests, evIt, lift, view, mask, tst, bindT, Tgt.bind, setAll, O.f, appD, extD, putD, haveL, Cop.f, Bop.f, Bi.f, divOk, powOk, mulOk, log2_small, Cst.d, D.isTy, D.lf, D.lfs, D.lfItems, R.bind_assoc, List.foldl, truth_non, truth_bl, truth_int, truth_lst, truth_tup, ix_t0, ix_t1, ix_t2, ix_t3, ix_t4, ix_l0, ix_l1, ix_l2, ix_l3, pd2_ix0, pd2_ix1, len_lst, len_tup, len_scr, ltD_int, eqD_int, eqD_bl, ne_int, ne_bl, cmpI_int, add_int, sub_int, mul_int, fdiv_int, mod_int, pow_int, shr_int, negI_int, asB_bl, asI_int, items_lst, items_tup, listOf_lst, listOf_tup, tupOf_lst, tupOf_tup, rangeOf_1, rangeOf_2, f1_1, f2_2, isNon_non, isNon_bl, isNon_int, isNon_tup, isNon_lst, h, e1]
theorem bord_items (b : List Pr) : D.items (bordD b) = .ok (b.map pd2) := items_tup _
theorem heldB_ok (b : List Pr) (p : Pr) : g_t_law_held [bordD b, pd2 p] = .ok (.bl (hld b p)) := held_ok _ b (bord_items b) p
def Flr.way (F : Flr) (k : Nat) : Wy := F.ways.getD k ⟨0, 0, 0, 0⟩
end Py

namespace Py
open PySem PySem.Spec PyProof.Rows L2
/-- what the borders told hold -/
noncomputable abbrev hB (F : Flr) : Nat → Pr → Bool := fun q r => hld ((bds F).getD q []) r
abbrev fsK : Fns := [(2, g_check_place), (2, g_check_pair), (1, g_rounds), (3, g_lasting_in), (2, g_ways_from), (3, g_after)]
end Py

namespace Py
open PySem PySem.Spec PyProof.Rows L2
def cell (ns : List Int) (k : Nat) : Int := if k < ns.length then ns.getD k 0 % 10 ^ 40 else 0
theorem cell_ok (ns : List Int) (k : Nat) : g_t_law_cell [.scr ns, .int k] = .ok (.int (cell ns k)) := by
  unfold cell
  by_cases h : k < ns.length
  · have e : atI ns (k : Int) = some (ns.getD k 0) := atI_nat (by rw [List.getElem?_eq_getElem h, List.getD_eq_getElem?_getD, List.getElem?_eq_getElem h]; rfl)
    simp [g_t_law_cell, b_t_law_cell, runFn, env0, outD, Py.execs, Py.exec, exec_for, ev, evs, evAnd, evOr, evPart, evTests, evIt, lift, view, mask, tst, bindT, Tgt.bind, setAll, O.f, appD, extD, putD, haveL, Cop.f, Bop.f, Bi.f, divOk, powOk, mulOk, log2_small, Cst.d, D.isTy, D.lf, D.lfs, D.lfItems, R.bind_assoc, List.foldl, truth_non, truth_bl, truth_int, truth_lst, truth_tup, ix_t0, ix_t1, ix_t2, ix_t3, ix_t4, ix_l0, ix_l1, ix_l2, ix_l3, pd2_ix0, pd2_ix1, len_lst, len_tup, len_scr, ltD_int, eqD_int, eqD_bl, ne_int, ne_bl, cmpI_int, add_int, sub_int, mul_int, fdiv_int, mod_int, pow_int, shr_int, negI_int, asB_bl, asI_int, items_lst, items_tup, listOf_lst, listOf_tup, tupOf_lst, tupOf_tup, rangeOf_1, rangeOf_2, f1_1, f2_2, isNon_non, isNon_bl, isNon_int, isNon_tup, isNon_lst, D.ix, e, h]
  · simp [g_t_law_cell, b_t_law_cell, runFn, env0, outD, Py.execs, Py.exec, exec_for, ev, evs, evAnd, evOr, evPart, evTests, evIt, lift, view, mask, tst, bindT, Tgt.bind, setAll, O.f, appD, extD, putD, haveL, Cop.f, Bop.f, Bi.f, divOk, powOk, mulOk, log2_small, Cst.d, D.isTy, D.lf, D.lfs, D.lfItems, R.bind_assoc, List.foldl, truth_non, truth_bl, truth_int, truth_lst, truth_tup, ix_t0, ix_t1, ix_t2, ix_t3, ix_t4, ix_l0, ix_l1, ix_l2, ix_l3, pd2_ix0, pd2_ix1, len_lst, len_tup, len_scr, ltD_int, eqD_int, eqD_bl, ne_int, ne_bl, cmpI_int, add_int, sub_int, mul_int, fdiv_int, mod_int, pow_int, shr_int, negI_int, asB_bl, asI_int, items_lst, items_tup, listOf_lst, listOf_tup, tupOf_lst, tupOf_tup, rangeOf_1, rangeOf_2, f1_1, f2_2, isNon_non, isNon_bl, isNon_int, isNon_tup, isNon_lst, h]
def wyK (w : Wy) : List Int := [w.s, w.e, w.f, w.g]
theorem map_ex {α β : Type} {f : α → β} : ∀ {l : List β}, (∀ x ∈ l, ∃ a, f a = x) → ∃ l' : List α, l'.map f = l
  | [], _ => ⟨[], rfl⟩
  | x :: l, h => by
    obtain ⟨a, ha⟩ := h x (by simp)
    obtain ⟨l', hl⟩ := map_ex (l := l) fun y hy => h y (by simp [hy])
    exact ⟨a :: l', by rw [List.map_cons, ha, hl]⟩
theorem mem_sortK {ks : List (List Int)} {k : List Int} : k ∈ sortK ks ↔ k ∈ ks := by
  unfold sortK
  rw [List.mem_mergeSort, mem_dd]
theorem dd_len : ∀ ks : List (List Int), (dd ks).length ≤ ks.length
  | [] => Nat.le_refl _
  | k :: ks => by
    unfold dd
    have := dd_len ks
    split
    · simp; omega
    · simp; omega
theorem sortK_len (ks : List (List Int)) : (sortK ks).length ≤ ks.length := by
  unfold sortK
  rw [List.length_mergeSort]
  exact dd_len ks
theorem sortK_nodup (ks : List (List Int)) : (sortK ks).Nodup := (List.mergeSort_perm _ _).nodup_iff.mpr (nodup_dd ks)
end Py

namespace Py
open PySem PySem.Spec PyProof.Rows L2
end Py

namespace Py
open PySem PySem.Spec PyProof.Rows L2
end Py

namespace Py
open PySem PySem.Spec PyProof.Rows L2
theorem pow_ten {n : Nat} {v : Int} (h : powOk 10 (n : Int) = true) (e : (10 : Int) ^ n = v) : D.pow (.int 10) (.int (n : Int)) = .ok (.int v) := by
  rw [pow_int, if_pos h]
  exact congrArg (fun i => R.ok (D.int i)) e
structure StOk (own : List Bool) (ss : List St) : Prop where
  st : ∀ s ∈ ss, s.p < own.length ∧ own.getD s.p false = true ∧ 1 ≤ s.give ∧ s.give ≤ 12 ∧ s.get ≤ 12
  nd : ss.Pairwise fun a b => a.p < b.p
theorem StOk.next {own : List Bool} {ss : List St} (h : StOk own ss) (k : Bool) {c : Bool} {s : St} (hs : s.p = own.length) (h1 : 1 ≤ s.give) (h2 : s.give ≤ 12) (h3 : s.get ≤ 12) (hc : c = true → k = true) : StOk (own ++ [k]) (ss ++ if c then [s] else []) := by
  refine ⟨fun t ht => ?_, ?_⟩
  · rw [List.length_append, List.length_singleton]
    rcases List.mem_append.mp ht with ht | ht
    · obtain ⟨a, b, r⟩ := h.st t ht
      refine ⟨by omega, ?_, r⟩
      rw [List.getD_eq_getElem?_getD, List.getElem?_append_left a, ← List.getD_eq_getElem?_getD]
      exact b
    · cases c with
      | false => cases ht
      | true =>
        rw [if_pos rfl, List.mem_singleton] at ht
        subst ht
        refine ⟨by omega, ?_, h1, h2, h3⟩
        rw [hs, List.getD_eq_getElem?_getD, List.getElem?_append_right (Nat.le_refl _), Nat.sub_self]
        exact hc rfl
  · refine List.pairwise_append.mpr ⟨h.nd, ?_, fun a ha b hb => ?_⟩
    · cases c
      · exact List.Pairwise.nil
      · exact List.pairwise_singleton ..
    · cases c with
      | false => cases hb
      | true =>
        rw [if_pos rfl, List.mem_singleton] at hb
        subst hb
        have := (h.st a ha).1
        omega
/-- what these floors have besides -/
structure Tidy (F : Flr) : Prop where
  few : F.ways.length ≤ 24
  coins : ∀ w ∈ F.ways, -12 ≤ w.f ∧ w.f ≤ 12 ∧ -12 ≤ w.g ∧ w.g ≤ 12
  srt : ∃ ks, F.ways.map wyK = sortK ks
end Py

namespace Py
open PySem PySem.Spec PyProof.Rows L2
def wyA (k : Bool) (w : Wy) : Wy := ⟨w.s, w.e, if k then 0 else w.f, if k then w.g else 0⟩
structure Alone (F : Flr) (k : Bool) (G : Flr) : Prop where
  ok : G.Ok
  own : G.own = F.own
  sts : G.sts = []
  b0 : G.b0 = if k then 0 else F.b0
  b1 : G.b1 = if k then F.b1 else 0
  ways : ∀ w, w ∈ G.ways ↔ ∃ v ∈ F.ways, wyA k v = w
end Py

namespace Py
open PySem PySem.Spec PyProof.Rows L2
structure Helps (F G : Flr) : Prop where
  len : F.own.length = G.own.length
  b0 : F.b0 ≤ G.b0
  b1 : F.b1 ≤ G.b1
  kp : ∀ p, F.own.getD p false = true → G.own.getD p false = true
  wk : ∀ w ∈ F.ways, G.own.getD w.s false = true → ∃ v ∈ G.ways, v.s = w.s ∧ v.e = w.e ∧ w.f ≤ v.f ∧ w.g ≤ v.g
  wt : ∀ v ∈ G.ways, G.own.getD v.s false = false → ∃ w ∈ F.ways, w.s = v.s ∧ w.e = v.e ∧ w.f ≤ v.f ∧ w.g ≤ v.g
  st : ∀ p s, F.stall p = some s → ∃ s', G.stall p = some s' ∧ s'.k = s.k ∧ s'.give ≤ s.give ∧ s.get ≤ s'.get
def prK (p : Pr) : List Int := [p.1, p.2]
theorem prK_inj {a b : Pr} (h : prK a = prK b) : a = b := by
  simp only [prK, List.cons.injEq, and_true] at h
  exact Prod.ext h.1 h.2
theorem keysOf_pr : ∀ ws : List Pr, keysOf (ws.map pd2) = some (ws.map prK)
  | [] => rfl
  | w :: ws => by
    rw [List.map_cons, keysOf, keysOf_pr ws]
    rfl
def pLt (p q : Pr) : Prop := p.1 < q.1 ∨ (p.1 = q.1 ∧ p.2 < q.2)
instance (p q : Pr) : Decidable (pLt p q) := by unfold pLt; infer_instance
theorem sortK_le (ks : List (List Int)) : (sortK ks).Pairwise fun a b => a ≤ b := by
  unfold sortK
  have := List.pairwise_mergeSort (le := fun a b : List Int => decide (a ≤ b)) (fun a b c h1 h2 => decide_eq_true (List.le_trans (of_decide_eq_true h1) (of_decide_eq_true h2))) (fun a b => by
    rcases List.le_total a b with h | h
    · rw [decide_eq_true h]; rfl
    · rw [decide_eq_true h, Bool.or_true]) (dd ks)
  exact this.imp fun h => of_decide_eq_true h
theorem prK_lt {p q : Pr} (h : prK p ≤ prK q) (hne : p ≠ q) : pLt p q := by
  unfold prK at h
  rw [List.cons_le_cons_iff] at h
  rcases h with h | ⟨h1, h⟩
  · exact .inl h
  · rw [List.cons_le_cons_iff] at h
    rcases h with h | ⟨h2, _⟩
    · exact .inr ⟨h1, h⟩
    · exact absurd (Prod.ext h1 h2) hne
theorem sset_prs (ws : List Pr) (h : ws.length < 64) : ∃ vs : List Pr, (∀ w, w ∈ vs ↔ w ∈ ws) ∧ vs.length ≤ ws.length ∧ vs.Pairwise pLt ∧ D.sset (.lst (ws.map pd2)) = .ok (.lst (vs.map pd2)) := by
  obtain ⟨vs, hv⟩ := map_ex (f := prK) (l := sortK (ws.map prK)) fun k hk => by
    obtain ⟨w, _, e⟩ := List.mem_map.mp (mem_sortK.mp hk)
    exact ⟨w, e⟩
  refine ⟨vs, fun w => ?_, ?_, ?_, ?_⟩
  · constructor
    · intro hw
      have : prK w ∈ sortK (ws.map prK) := by rw [← hv]; exact List.mem_map.mpr ⟨w, hw, rfl⟩
      obtain ⟨w', h1, h2⟩ := List.mem_map.mp (mem_sortK.mp this)
      rw [← prK_inj h2]; exact h1
    · intro hw
      have : prK w ∈ sortK (ws.map prK) := mem_sortK.mpr (List.mem_map.mpr ⟨w, hw, rfl⟩)
      rw [← hv] at this
      obtain ⟨w', h1, h2⟩ := List.mem_map.mp this
      rw [← prK_inj h2]; exact h1
  · have h1 := congrArg List.length hv
    rw [List.length_map] at h1
    have h2 := sortK_len (ws.map prK)
    rw [List.length_map] at h2
    omega
  · have h1 := sortK_le (ws.map prK)
    have h2 := sortK_nodup (ws.map prK)
    rw [← hv] at h1 h2
    have h1 := List.pairwise_map.mp h1
    have h2 : vs.Pairwise (· ≠ ·) := (List.pairwise_map.mp h2).imp fun h e => h (by rw [e])
    exact (h1.and h2).imp fun h => prK_lt h.1 h.2
  · show ssetB _ _ = _
    rw [ssetB_small _ (keysOf_pr ws) (by rw [List.length_map]; exact h)]
    unfold ssetK
    simp only [keysOf_pr]
    rw [if_pos]
    · rw [← hv, List.map_map]
      rfl
    · rw [Bool.and_eq_true, List.all_eq_true]
      refine ⟨decide_eq_true (by rw [List.length_map]; exact h), fun k hk => ?_⟩
      obtain ⟨w, _, rfl⟩ := List.mem_map.mp hk
      rfl
theorem ltD_pd2 (p q : Pr) : D.lt (pd2 p) (pd2 q) = .ok (.bl (decide (pLt p q))) := by
  have e : D.lt (pd2 p) (pd2 q) = .ok (.bl (PySem.W.dataLt (pd2 p).pd (pd2 q).pd)) := rfl
  rw [e]
  congr 2
  have e0 : PySem.W.dataLt (pd2 p).pd (pd2 q).pd = PyProof.Rows.lexLt PyProof.Rows.itemOrd [.inl 1, .inl p.1, .inl 1, .inl p.2, .inl 0] [.inl 1, .inl q.1, .inl 1, .inl q.2, .inl 0] := rfl
  rw [e0, PyProof.Rows.lex_self (O := PyProof.Rows.itemOrd)]
  have bl : ∀ a b : Int, PyProof.Rows.itemOrd.blt (.inl a) (.inl b) = decide (a < b) := fun _ _ => rfl
  by_cases h1 : p.1 = q.1
  · rw [h1, PyProof.Rows.lex_self (O := PyProof.Rows.itemOrd), PyProof.Rows.lex_self (O := PyProof.Rows.itemOrd)]
    by_cases h2 : p.2 = q.2
    · rw [h2, PyProof.Rows.lex_self (O := PyProof.Rows.itemOrd), PyProof.Rows.lex_self (O := PyProof.Rows.itemOrd)]
      rw [decide_eq_false (by unfold pLt; omega)]
      rfl
    · rw [PyProof.Rows.lex_diff (O := PyProof.Rows.itemOrd) (fun z => h2 (Sum.inl.inj z)), bl]
      exact decide_eq_decide.mpr (by unfold pLt; omega)
  · rw [PyProof.Rows.lex_diff (O := PyProof.Rows.itemOrd) (fun z => h1 (Sum.inl.inj z)), bl]
    exact decide_eq_decide.mpr (by unfold pLt; omega)
def lpStep (acc : List Pr) (p : Pr) : List Pr := if hld acc p then acc else acc ++ [p]
def leastP (vs : List Pr) : List Pr := vs.foldl lpStep []
structure LPInv (seen acc : List Pr) : Prop where
  sub : ∀ e ∈ acc, e ∈ seen
  has : ∀ p ∈ seen, hld acc p = true
  ris : Ris acc
theorem hld_append {a b : List Pr} {p : Pr} : hld (a ++ b) p = (hld a p || hld b p) := by
  unfold hld
  rw [List.any_append]
theorem hld_self {a : List Pr} {p : Pr} (h : p ∈ a) : hld a p = true := hld_iff.mpr ⟨p, h, Int.le_refl _, Int.le_refl _⟩
theorem leastP_inv : ∀ (vs seen acc : List Pr), LPInv seen acc → (∀ e ∈ seen, ∀ p ∈ vs, pLt e p) → vs.Pairwise pLt → LPInv (seen ++ vs) (vs.foldl lpStep acc)
  | [], seen, acc, I, _, _ => by simpa using I
  | p :: vs, seen, acc, I, h, hp => by
    rw [List.foldl_cons]
    have hp' := List.pairwise_cons.mp hp
    have J : LPInv (seen ++ [p]) (lpStep acc p) := by
      unfold lpStep
      split
      · rename_i hh
        refine ⟨fun e he => by simp [I.sub e he], fun q hq => ?_, I.ris⟩
        rcases List.mem_append.mp hq with hq | hq
        · exact I.has q hq
        · rw [List.mem_singleton] at hq
          rw [hq]; exact hh
      · rename_i hh
        refine ⟨fun e he => ?_, fun q hq => ?_, ?_⟩
        · rcases List.mem_append.mp he with he | he
          · simp [I.sub e he]
          · simp at he
            simp [he]
        · rw [hld_append]
          rcases List.mem_append.mp hq with hq | hq
          · rw [I.has q hq]; rfl
          · rw [List.mem_singleton] at hq
            rw [hq, hld_self (List.mem_singleton.mpr rfl), Bool.or_true]
        · refine List.pairwise_append.mpr ⟨I.ris, by simp, fun e he e' he' => ?_⟩
          rw [List.mem_singleton] at he'
          subst he'
          have h1 := h e (I.sub e he) e' (by simp)
          have h2 : ¬ (e.1 ≤ e'.1 ∧ e.2 ≤ e'.2) := fun z => hh (hld_iff.mpr ⟨e, he, z.1, z.2⟩)
          unfold pLt at h1
          omega
    have := leastP_inv vs (seen ++ [p]) (lpStep acc p) J (fun e he q hq => by
      rcases List.mem_append.mp he with he | he
      · exact h e he q (by simp [hq])
      · rw [List.mem_singleton] at he
        rw [he]
        exact hp'.1 q hq) hp'.2
    simpa using this
theorem leastP_ok {vs : List Pr} (h : vs.Pairwise pLt) : Ris (leastP vs) ∧ (∀ e ∈ leastP vs, e ∈ vs) ∧ ∀ p, hld (leastP vs) p = hld vs p := by
  have I := leastP_inv vs [] [] ⟨fun e he => (by cases he), fun p hp => (by cases hp), List.Pairwise.nil⟩ (fun e he => by cases he) h
  rw [List.nil_append] at I
  refine ⟨I.ris, I.sub, fun p => ?_⟩
  rw [Bool.eq_iff_iff, hld_iff, hld_iff]
  constructor
  · rintro ⟨e, he, h1⟩
    exact ⟨e, I.sub e he, h1⟩
  · rintro ⟨e, he, h1, h2⟩
    obtain ⟨c, hc, c1, c2⟩ := hld_iff.mp (I.has e he)
    exact ⟨c, hc, by omega, by omega⟩
theorem lp_body (S PD : D) (acc : List Pr) (p : Pr) (hp : PD = pd2 p) (ha : acc.length < 1000000) : Py.execs [(2, g_holds)] [1] L_least_pairs_0 [some S, some (.lst (acc.map pd2)), some PD] = .ok (.nx [some S, some (.lst ((lpStep acc p).map pd2)), some PD]) := by
  have e := holds_ok (.lst (acc.map pd2)) acc rfl p
  rw [← hp] at e
  unfold lpStep
  cases hh : hld acc p with
  | true =>
    rw [hh] at e
    simp only [↓reduceIte]
    generalize acc.map pd2 = l at e ⊢
    simp [L_least_pairs_0, runFn, env0, outD, Py.execs, Py.exec, exec_for, ev, evs, evAnd, evOr, evPart, evTests, evIt, lift, view, mask, tst, bindT, Tgt.bind, setAll, O.f, appD, extD, putD, haveL, Cop.f, Bop.f, Bi.f, divOk, powOk, mulOk, log2_small, Cst.d, D.isTy, D.lf, D.lfs, D.lfItems, R.bind_assoc, List.foldl, truth_non, truth_bl, truth_int, truth_lst, truth_tup, ix_t0, ix_t1, ix_t2, ix_t3, ix_t4, ix_l0, ix_l1, ix_l2, ix_l3, pd2_ix0, pd2_ix1, len_lst, len_tup, len_scr, ltD_int, eqD_int, eqD_bl, ne_int, ne_bl, cmpI_int, add_int, sub_int, mul_int, fdiv_int, mod_int, pow_int, shr_int, negI_int, asB_bl, asI_int, items_lst, items_tup, listOf_lst, listOf_tup, tupOf_lst, tupOf_tup, rangeOf_1, rangeOf_2, f1_1, f2_2, isNon_non, isNon_bl, isNon_int, isNon_tup, isNon_lst, e]
  | false =>
    rw [hh] at e
    have hl : (acc.map pd2).length < 16777216 := by rw [List.length_map]; omega
    simp only [Bool.false_eq_true, if_false, List.map_append, List.map_cons, List.map_nil, ← hp]
    have hlf : PD.lf = true := by rw [hp]; rfl
    generalize acc.map pd2 = l at e hl ⊢
    simp [L_least_pairs_0, runFn, env0, outD, Py.execs, Py.exec, exec_for, ev, evs, evAnd, evOr, evPart, evTests, evIt, lift, view, mask, tst, bindT, Tgt.bind, setAll, O.f, appD, extD, putD, haveL, Cop.f, Bop.f, Bi.f, divOk, powOk, mulOk, log2_small, Cst.d, D.isTy, D.lf, D.lfs, D.lfItems, R.bind_assoc, List.foldl, truth_non, truth_bl, truth_int, truth_lst, truth_tup, ix_t0, ix_t1, ix_t2, ix_t3, ix_t4, ix_l0, ix_l1, ix_l2, ix_l3, pd2_ix0, pd2_ix1, len_lst, len_tup, len_scr, ltD_int, eqD_int, eqD_bl, ne_int, ne_bl, cmpI_int, add_int, sub_int, mul_int, fdiv_int, mod_int, pow_int, shr_int, negI_int, asB_bl, asI_int, items_lst, items_tup, listOf_lst, listOf_tup, tupOf_lst, tupOf_tup, rangeOf_1, rangeOf_2, f1_1, f2_2, isNon_non, isNon_bl, isNon_int, isNon_tup, isNon_lst, e, hl, hlf]
theorem lp_ev (S : D) (vs l : List D) (x2 : Option D) (hs : D.sset S = .ok (.lst vs)) (hg : forGo (.nm 2) (Py.execs [(2, g_holds)] [1] L_least_pairs_0) vs [some S, some (.lst []), none] = .ok (.nx [some S, some (.lst l), x2])) : g_least_pairs [S] = .ok (.tup l) := by
  simp [g_least_pairs, b_least_pairs, runFn, env0, outD, Py.execs, Py.exec, exec_for, ev, evs, evAnd, evOr, evPart, evTests, evIt, lift, view, mask, tst, bindT, Tgt.bind, setAll, O.f, appD, extD, putD, haveL, Cop.f, Bop.f, Bi.f, divOk, powOk, mulOk, log2_small, Cst.d, D.isTy, D.lf, D.lfs, D.lfItems, R.bind_assoc, List.foldl, truth_non, truth_bl, truth_int, truth_lst, truth_tup, ix_t0, ix_t1, ix_t2, ix_t3, ix_t4, ix_l0, ix_l1, ix_l2, ix_l3, pd2_ix0, pd2_ix1, len_lst, len_tup, len_scr, ltD_int, eqD_int, eqD_bl, ne_int, ne_bl, cmpI_int, add_int, sub_int, mul_int, fdiv_int, mod_int, pow_int, shr_int, negI_int, asB_bl, asI_int, items_lst, items_tup, listOf_lst, listOf_tup, tupOf_lst, tupOf_tup, rangeOf_1, rangeOf_2, f1_1, f2_2, isNon_non, isNon_bl, isNon_int, isNon_tup, isNon_lst, hs, hg]
theorem lpStep_len (acc : List Pr) (p : Pr) : (lpStep acc p).length ≤ acc.length + 1 := by
  unfold lpStep
  split
  · omega
  · simp
theorem least_pairs_ok (ws : List Pr) (S : D) (vs : List Pr) (hv : D.sset S = .ok (.lst (vs.map pd2))) (hl : vs.length < 100000) : g_least_pairs [S] = .ok (bordD (leastP vs)) := by
  obtain ⟨ρ', e, x2, rfl, _⟩ := forGo_inv (t := .nm 2) (body := Py.execs [(2, g_holds)] [1] L_least_pairs_0) (enc := pd2) (fun done ρ => ∃ x2, ρ = [some S, some (.lst ((done.foldl lpStep []).map pd2)), x2] ∧ (done.foldl lpStep []).length ≤ done.length) vs [] (fun d p r e ρ hρ => by
    obtain ⟨x2, rfl, h1⟩ := hρ
    have hdl : d.length ≤ vs.length := by
      have := congrArg List.length e
      simp at this
      omega
    have b := lp_body S (pd2 p) (d.foldl lpStep []) p rfl (by omega)
    have h2 := lpStep_len (d.foldl lpStep []) p
    exact ⟨_, _, rfl, .inl b, some (pd2 p), by rw [List.foldl_append]; rfl, by rw [List.foldl_append, List.length_append]; simpa using (by omega : (lpStep (d.foldl lpStep []) p).length ≤ d.length + 1)⟩) [some S, some (.lst []), none] ⟨none, rfl, Nat.le_refl _⟩
  exact lp_ev _ _ _ x2 hv e
theorem least_ok2 (ws : List Pr) (h : ws.length < 64) : ∃ b : List Pr, Ris b ∧ (∀ e ∈ b, e ∈ ws) ∧ (∀ p, hld b p = hld ws p) ∧ g_least_pairs [.lst (ws.map pd2)] = .ok (bordD b) := by
  obtain ⟨vs, s1, s2, s3, s4⟩ := sset_prs ws h
  obtain ⟨l1, l2, l3⟩ := leastP_ok s3
  refine ⟨leastP vs, l1, fun e he => (s1 e).mp (l2 e he), fun p => ?_, least_pairs_ok ws _ vs s4 (by omega)⟩
  rw [l3, Bool.eq_iff_iff, hld_iff, hld_iff]
  constructor
  · rintro ⟨e, he, q⟩
    exact ⟨e, (s1 e).mp he, q⟩
  · rintro ⟨e, he, q⟩
    exact ⟨e, (s1 e).mpr he, q⟩
end Py

namespace Py_k13
open PySem PySem.Spec PyProof.Rows L2 Py
def topS (i : Nat) : Stmt := PySem.Challenge.pw_purseborder_k13_borders_together.main.body.getD i (.Pass ⟨0, 0, 0, 0⟩)
def C_law_cell : Cfg := ⟨["_law_script", "_law_k"], [], ["len"], [], false, 0, [], false, []⟩
def C_law_held : Cfg := ⟨["_law_border", "_law_pair", "_law_x", "_law_y"], [], [], [], false, 0, [], false, []⟩
def L_law_least_0 : Ss := (.cons (.ite (.not (.call 0 (.cons (.var 1) (.cons (.var 2) .nil)))) (.cons (.app true 1 (.var 2)) .nil) .nil) .nil)
def b_law_least : Ss := (.cons (.own true 1 (.disp .nil)) (.cons (.for_ true (.nm 2) (.val (.bi .sorted (.cons (.var 0) .nil))) L_law_least_0) (.cons (.ret (.bi .tuple (.cons (.var 1) .nil))) .nil)))
def g_law_least : List D → R D := runFn [(2, g_t_law_held)] 3 [1] b_law_least
def C_law_least : Cfg := ⟨["_law_drawn_here", "_law_found", "_law_pair"], [], ["sorted", "tuple"], [("_law_held", 2)], false, 0, [([], [])], false, []⟩
def L_law_drawn_0 : Ss := (.cons (.asg true (.nm 6) (.call 0 (.cons (.var 0) (.cons (.bin .add (.var 1) (.var 5)) .nil)))) (.cons (.app true 4 (.tup (.cons (.bin .mod (.var 6) (.var 3)) (.cons (.bin .mod (.bin .fdiv (.var 6) (.cst (.int 7))) (.var 3)) .nil)))) .nil))
def b_law_drawn : Ss := (.cons (.asg true (.nm 3) (.ix (.lst (.cons (.cst (.int 6)) (.cons (.cst (.int 13)) (.cons (.bin .pow (.cst (.int 10)) (.cst (.int 30))) .nil)))) (.bin .mod (.call 0 (.cons (.var 0) (.cons (.cst (.int 0)) .nil))) (.cst (.int 3))))) (.cons (.own true 4 (.disp .nil)) (.cons (.for_ true (.nm 5) (.range (.cons (.var 2) .nil)) L_law_drawn_0) (.cons (.ret (.var 4)) .nil))))
def g_law_drawn : List D → R D := runFn [(2, g_t_law_cell)] 7 [4] b_law_drawn
def C_law_drawn : Cfg := ⟨["_law_script", "_law_at", "_law_many", "_law_most", "_law_found", "_law_k", "_law_cell_here"], [], ["range"], [("_law_cell", 2)], false, 0, [([], [])], false, []⟩
def C_at_or_above : Cfg := ⟨["pair", "other"], [], [], [], false, 0, [], false, []⟩
def C_holds : Cfg := ⟨["border", "pair", "least"], [], [], [("at_or_above", 2)], false, 0, [([], [])], false, []⟩
def C_least_pairs : Cfg := ⟨["pairs", "found", "pair"], [], ["sorted", "set", "tuple"], [("holds", 2)], false, 0, [([], [])], false, []⟩
def L_both_0 : Ss := (.cons (.app true 2 (.tup (.cons (.bi .max2 (.cons (.ix (.var 3) (.cst (.int 0))) (.cons (.ix (.var 4) (.cst (.int 0))) .nil))) (.cons (.bi .max2 (.cons (.ix (.var 3) (.cst (.int 1))) (.cons (.ix (.var 4) (.cst (.int 1))) .nil))) .nil)))) .nil)
def L_both_1 : Ss := (.cons (.for_ true (.nm 4) (.val (.var 1)) L_both_0) .nil)
def b_both : Ss := (.cons (.own true 2 (.disp .nil)) (.cons (.for_ true (.nm 3) (.val (.var 0)) L_both_1) (.cons (.ret (.call 0 (.cons (.var 2) .nil))) .nil)))
def g_both : List D → R D := runFn [(1, g_least_pairs)] 5 [2] b_both
def C_both : Cfg := ⟨["border", "other", "found", "one", "least"], [], ["max"], [("least_pairs", 1)], false, 0, [([], [])], false, []⟩
def b_either : Ss := (.cons (.ret (.call 0 (.cons (.bin .add (.bi .list (.cons (.var 0) .nil)) (.bi .list (.cons (.var 1) .nil))) .nil))) .nil)
def g_either : List D → R D := runFn [(1, g_least_pairs)] 2 [] b_either
def C_either : Cfg := ⟨["border", "other"], [], ["list"], [("least_pairs", 1)], false, 0, [([], [])], false, []⟩
def C_law_whole : Cfg := ⟨["_law_found"], [], ["isinstance", "int", "bool"], [], false, 0, [], false, []⟩
def L_law_is_border_0 : Ss := (.cons (.ite (.or (.cons (.not (.isi (.var 1) .tuple)) (.cons (.cmp .ne (.bi .len (.cons (.var 1) .nil)) (.cst (.int 2))) (.cons (.not (.call 0 (.cons (.ix (.var 1) (.cst (.int 0))) .nil))) (.cons (.not (.call 0 (.cons (.ix (.var 1) (.cst (.int 1))) .nil))) .nil))))) (.cons (.ret (.cst (.bl false))) .nil) .nil) .nil)
def L_law_is_border_1 : Ss := (.cons (.ite (.or (.cons (.cmp .ge (.ix (.ix (.var 0) (.bin .sub (.var 2) (.cst (.int 1)))) (.cst (.int 0))) (.ix (.ix (.var 0) (.var 2)) (.cst (.int 0)))) (.cons (.cmp .le (.ix (.ix (.var 0) (.bin .sub (.var 2) (.cst (.int 1)))) (.cst (.int 1))) (.ix (.ix (.var 0) (.var 2)) (.cst (.int 1)))) .nil))) (.cons (.ret (.cst (.bl false))) .nil) .nil) .nil)
def b_law_is_border : Ss := (.cons (.ite (.not (.isi (.var 0) .tuple)) (.cons (.ret (.cst (.bl false))) .nil) .nil) (.cons (.for_ true (.nm 1) (.val (.var 0)) L_law_is_border_0) (.cons (.for_ true (.nm 2) (.range (.cons (.cst (.int 1)) (.cons (.bi .len (.cons (.var 0) .nil)) .nil))) L_law_is_border_1) (.cons (.ret (.cst (.bl true))) .nil))))
def g_law_is_border : List D → R D := runFn [(1, g_is_whole)] 3 [] b_law_is_border
def C_law_is_border : Cfg := ⟨["_law_found", "_law_pair", "_law_k"], [], ["isinstance", "tuple", "len", "range"], [("_law_whole", 1)], false, 0, [([], [])], false, []⟩
def lc_law_asked_0 : E := .lc (.tp [6, 7]) (.val (.var 1)) .nil (.tup (.cons (.bi .max2 (.cons (.var 4) (.cons (.var 6) .nil))) (.cons (.bi .max2 (.cons (.var 5) (.cons (.var 7) .nil))) .nil)))
def L_law_asked_0 : Ss := (.cons (.asg true (.nm 3) (.bin .add (.var 3) lc_law_asked_0)) .nil)
def L_law_asked_1 : Ss := (.cons (.asg true (.nm 3) (.bin .add (.var 3) (.lst (.cons (.tup (.cons (.bi .max2 (.cons (.cst (.int 0)) (.cons (.bin .sub (.var 4) (.cst (.int 1))) .nil))) (.cons (.var 5) .nil))) (.cons (.tup (.cons (.var 4) (.cons (.bi .max2 (.cons (.cst (.int 0)) (.cons (.bin .sub (.var 5) (.cst (.int 1))) .nil))) .nil))) .nil))))) .nil)
def b_law_asked : Ss := (.cons (.asg true (.nm 3) (.bin .add (.bin .add (.bin .add (.bi .list (.cons (.var 0) .nil)) (.bi .list (.cons (.var 1) .nil))) (.var 2)) (.lst (.cons (.tup (.cons (.cst (.int 0)) (.cons (.cst (.int 0)) .nil))) .nil)))) (.cons (.for_ true (.tp [4, 5]) (.val (.var 0)) L_law_asked_0) (.cons (.for_ true (.tp [4, 5]) (.val (.bi .list (.cons (.var 3) .nil))) L_law_asked_1) (.cons (.ret (.var 3)) .nil))))
def g_law_asked : List D → R D := runFn [] 8 [] b_law_asked
def C_law_asked : Cfg := ⟨["_law_border", "_law_other", "_law_drawn_here", "_law_found", "_law_x", "_law_y", "_law_p", "_law_q"], [], ["list", "max"], [], false, 0, [], false, []⟩
def L_law_0 : Ss := (.cons (.asg true (.nm 7) (.call 7 (.cons (.var 2) (.cons (.var 6) .nil)))) (.cons (.asg true (.nm 8) (.call 7 (.cons (.var 3) (.cons (.var 6) .nil)))) (.cons (.ite (.or (.cons (.cmp .ne (.call 7 (.cons (.var 4) (.cons (.var 6) .nil))) (.and (.cons (.var 7) (.cons (.var 8) .nil)))) (.cons (.cmp .ne (.call 7 (.cons (.var 5) (.cons (.var 6) .nil))) (.or (.cons (.var 7) (.cons (.var 8) .nil)))) .nil))) (.cons (.ret (.cst (.bl false))) .nil) .nil) .nil)))
def b_law : Ss := (.cons (.asg true (.nm 1) (.call 0 (.cons (.var 0) (.cons (.cst (.int 1)) .nil)))) (.cons (.asg true (.nm 2) (.call 1 (.cons (.call 2 (.cons (.var 0) (.cons (.cst (.int 3)) (.cons (.bin .mod (.var 1) (.cst (.int 16))) .nil)))) .nil))) (.cons (.asg true (.nm 3) (.call 1 (.cons (.call 2 (.cons (.var 0) (.cons (.cst (.int 18)) (.cons (.bin .mod (.bin .fdiv (.var 1) (.cst (.int 16))) (.cst (.int 16))) .nil)))) .nil))) (.cons (.asg true (.nm 4) (.call 3 (.cons (.var 2) (.cons (.var 3) .nil)))) (.cons (.asg true (.nm 5) (.call 4 (.cons (.var 2) (.cons (.var 3) .nil)))) (.cons (.ite (.or (.cons (.not (.call 5 (.cons (.var 4) .nil))) (.cons (.not (.call 5 (.cons (.var 5) .nil))) .nil))) (.cons (.ret (.cst (.bl false))) .nil) .nil) (.cons (.for_ true (.nm 6) (.val (.bin .add (.bin .add (.bi .list (.cons (.var 4) .nil)) (.bi .list (.cons (.var 5) .nil))) (.call 6 (.cons (.var 2) (.cons (.var 3) (.cons (.call 2 (.cons (.var 0) (.cons (.cst (.int 33)) (.cons (.cst (.int 20)) .nil)))) .nil)))))) L_law_0) (.cons (.ret (.and (.cons (.cmp .eq (.call 3 (.cons (.var 3) (.cons (.var 2) .nil))) (.var 4)) (.cons (.cmp .eq (.call 4 (.cons (.var 3) (.cons (.var 2) .nil))) (.var 5)) .nil)))) .nil))))))))
def g_law : List D → R D := runFn [(2, g_t_law_cell), (1, g_law_least), (3, g_law_drawn), (2, g_both), (2, g_either), (1, g_law_is_border), (3, g_law_asked), (2, g_t_law_held)] 9 [] b_law
def C_law : Cfg := ⟨["_law_script", "_law_number", "_law_border", "_law_other", "_law_common", "_law_joint", "_law_pair", "_law_here", "_law_there"], [], ["list"], [("_law_cell", 2), ("_law_least", 1), ("_law_drawn", 3), ("both", 2), ("either", 2), ("_law_is_border", 1), ("_law_asked", 3), ("_law_held", 2)], false, 0, [([], []), ([], []), ([], []), ([], []), ([], []), ([], []), ([], []), ([], [])], false, []⟩
theorem S_law_cell : FnScope C_law_cell.N ["_law_script", "_law_k"] (defScope (topS 7)) := ⟨rfl, rfl, rfl, by decide +kernel, rfl, by decide +kernel, by decide +kernel⟩
theorem chk_law_cell : chkSs C_law_cell (defScope (topS 7)) [] b_t_law_cell (defBody (topS 7)) = true := by decide +kernel
theorem S_law_held : FnScope C_law_held.N ["_law_border", "_law_pair"] (defScope (topS 8)) := ⟨rfl, rfl, rfl, by decide +kernel, rfl, by decide +kernel, by decide +kernel⟩
theorem chk_law_held : chkSs C_law_held (defScope (topS 8)) [] b_t_law_held (defBody (topS 8)) = true := by decide +kernel
theorem S_law_least : FnScope C_law_least.N ["_law_drawn_here"] (defScope (topS 11)) := ⟨rfl, rfl, rfl, by decide +kernel, rfl, by decide +kernel, by decide +kernel⟩
theorem chk_law_least : chkSs C_law_least (defScope (topS 11)) [1] b_law_least (defBody (topS 11)) = true := by decide +kernel
theorem S_law_drawn : FnScope C_law_drawn.N ["_law_script", "_law_at", "_law_many"] (defScope (topS 12)) := ⟨rfl, rfl, rfl, by decide +kernel, rfl, by decide +kernel, by decide +kernel⟩
theorem chk_law_drawn : chkSs C_law_drawn (defScope (topS 12)) [4] b_law_drawn (defBody (topS 12)) = true := by decide +kernel
theorem S_at_or_above : FnScope C_at_or_above.N ["pair", "other"] (defScope (topS 1)) := ⟨rfl, rfl, rfl, by decide +kernel, rfl, by decide +kernel, by decide +kernel⟩
theorem chk_at_or_above : chkSs C_at_or_above (defScope (topS 1)) [] b_at_or_above (defBody (topS 1)) = true := by decide +kernel
theorem S_holds : FnScope C_holds.N ["border", "pair"] (defScope (topS 2)) := ⟨rfl, rfl, rfl, by decide +kernel, rfl, by decide +kernel, by decide +kernel⟩
theorem chk_holds : chkSs C_holds (defScope (topS 2)) [] b_holds (defBody (topS 2)) = true := by decide +kernel
theorem S_least_pairs : FnScope C_least_pairs.N ["pairs"] (defScope (topS 3)) := ⟨rfl, rfl, rfl, by decide +kernel, rfl, by decide +kernel, by decide +kernel⟩
theorem chk_least_pairs : chkSs C_least_pairs (defScope (topS 3)) [1] b_least_pairs (defBody (topS 3)) = true := by decide +kernel
theorem S_both : FnScope C_both.N ["border", "other"] (defScope (topS 4)) := ⟨rfl, rfl, rfl, by decide +kernel, rfl, by decide +kernel, by decide +kernel⟩
theorem chk_both : chkSs C_both (defScope (topS 4)) [2] b_both (defBody (topS 4)) = true := by decide +kernel
theorem S_either : FnScope C_either.N ["border", "other"] (defScope (topS 5)) := ⟨rfl, rfl, rfl, by decide +kernel, rfl, by decide +kernel, by decide +kernel⟩
theorem chk_either : chkSs C_either (defScope (topS 5)) [] b_either (defBody (topS 5)) = true := by decide +kernel
theorem S_law_whole : FnScope C_law_whole.N ["_law_found"] (defScope (topS 9)) := ⟨rfl, rfl, rfl, by decide +kernel, rfl, by decide +kernel, by decide +kernel⟩
theorem chk_law_whole : chkSs C_law_whole (defScope (topS 9)) [] b_is_whole (defBody (topS 9)) = true := by decide +kernel
theorem S_law_is_border : FnScope C_law_is_border.N ["_law_found"] (defScope (topS 10)) := ⟨rfl, rfl, rfl, by decide +kernel, rfl, by decide +kernel, by decide +kernel⟩
theorem chk_law_is_border : chkSs C_law_is_border (defScope (topS 10)) [] b_law_is_border (defBody (topS 10)) = true := by decide +kernel
theorem S_law_asked : FnScope C_law_asked.N ["_law_border", "_law_other", "_law_drawn_here"] (defScope (topS 13)) := ⟨rfl, rfl, rfl, by decide +kernel, rfl, by decide +kernel, by decide +kernel⟩
theorem chk_law_asked : chkSs C_law_asked (defScope (topS 13)) [] b_law_asked (defBody (topS 13)) = true := by decide +kernel
theorem S_law : FnScope C_law.N ["_law_script"] (defScope (topS 14)) := ⟨rfl, rfl, rfl, by decide +kernel, rfl, by decide +kernel, by decide +kernel⟩
theorem chk_law : chkSs C_law (defScope (topS 14)) [] b_law (defBody (topS 14)) = true := by decide +kernel
theorem all_ok {P : Program} {w : World} {K : PySem.W.Frag} {h : Heap} {mg : Str → Option Value} {fa : Addr} (X : K.In h) (G : h.Ns mainGlobals mg) (hfa : mg "law" = some (.ref fa)) {f_law_cell f_law_held f_law_least f_law_drawn f_at_or_above f_holds f_least_pairs f_both f_either f_law_whole f_law_is_border f_law_asked f_law : Addr} {fd_law_cell fd_law_held fd_law_least fd_law_drawn fd_at_or_above fd_holds fd_least_pairs fd_both fd_either fd_law_whole fd_law_is_border fd_law_asked fd_law : FuncData} (h_law_cell : FactP K "_law_cell" (topS 7) f_law_cell fd_law_cell) (h_law_held : FactP K "_law_held" (topS 8) f_law_held fd_law_held) (h_law_least : FactP K "_law_least" (topS 11) f_law_least fd_law_least) (h_law_drawn : FactP K "_law_drawn" (topS 12) f_law_drawn fd_law_drawn) (h_at_or_above : FactP K "at_or_above" (topS 1) f_at_or_above fd_at_or_above) (h_holds : FactP K "holds" (topS 2) f_holds fd_holds) (h_least_pairs : FactP K "least_pairs" (topS 3) f_least_pairs fd_least_pairs) (h_both : FactP K "both" (topS 4) f_both fd_both) (h_either : FactP K "either" (topS 5) f_either fd_either) (h_law_whole : FactP K "_law_whole" (topS 9) f_law_whole fd_law_whole) (h_law_is_border : FactP K "_law_is_border" (topS 10) f_law_is_border fd_law_is_border) (h_law_asked : FactP K "_law_asked" (topS 13) f_law_asked fd_law_asked) (h_law : FactP K "law" (topS 14) f_law fd_law) (z_len : PySem.W.nsIn K mainGlobals "len" = some none) (z_sorted : PySem.W.nsIn K mainGlobals "sorted" = some none) (z_tuple : PySem.W.nsIn K mainGlobals "tuple" = some none) (z_range : PySem.W.nsIn K mainGlobals "range" = some none) (z_set : PySem.W.nsIn K mainGlobals "set" = some none) (z_max : PySem.W.nsIn K mainGlobals "max" = some none) (z_list : PySem.W.nsIn K mainGlobals "list" = some none) (z_isinstance : PySem.W.nsIn K mainGlobals "isinstance" = some none) (z_int : PySem.W.nsIn K mainGlobals "int" = some none) (z_bool : PySem.W.nsIn K mainGlobals "bool" = some none) 
    (hg : ∀ ns : List Int, ns.length ≤ 63 → g_law [.scr ns] = .ok (.bl true)) :
    ∃ fd : FuncData, (∀ (s : Shared) (v : Value), BindsTo s fd ⟨[v], []⟩ [("_law_script", v)]) ∧ ∀ base : Heap, K.In base → base.Ns mainGlobals mg → FnOk P w K mg base (L2.CX P w) 5 fa fd ["_law_script"] (spL K 63) := by
  have e := hfa.symm.trans (PySem.W.mg_of X G h_law.a)
  have e2 : f_law = fa := by cases e; rfl
  subst e2
  refine ⟨fd_law, fun s v => ?_, fun base _ _ => ?_⟩
  · obtain ⟨oc, od, kV, doc, pm, an, cdv, ct, osl, rfl, lk, hcd⟩ := h_law.F.ex
    exact .of_eq rfl
  have c_law_cell : (Cal.mk "_law_cell" f_law_cell fd_law_cell ["_law_script", "_law_k"] g_t_law_cell [] []).Ok P w K mg base 1 := cal_ok (C := C_law_cell) (cs := []) (M := []) (body := b_t_law_cell) (n := 2) (g := g_t_law_cell) h_law_cell (PySem.W.mg_of X G h_law_cell.a) S_law_cell (h_law_cell.F.binds (ps := ["_law_script", "_law_k"]) fun _ _ _ _ _ _ us hl => match us, hl with | [_, _], _ => rfl) fns_nil (by rfl) (free_cons (PySem.W.mg_none_of X G z_len) free_nil) glob_nil (fun z => nomatch z) (by rfl) (fun z => nomatch z) chk_law_cell (by decide) (by rfl) (by rfl)
  have c_law_held : (Cal.mk "_law_held" f_law_held fd_law_held ["_law_border", "_law_pair"] g_t_law_held [] []).Ok P w K mg base 1 := cal_ok (C := C_law_held) (cs := []) (M := []) (body := b_t_law_held) (n := 4) (g := g_t_law_held) h_law_held (PySem.W.mg_of X G h_law_held.a) S_law_held (h_law_held.F.binds (ps := ["_law_border", "_law_pair"]) fun _ _ _ _ _ _ us hl => match us, hl with | [_, _], _ => rfl) fns_nil (by rfl) free_nil glob_nil (fun z => nomatch z) (by rfl) (fun z => nomatch z) chk_law_held (by decide) (by rfl) (by rfl)
  have c_law_least : (Cal.mk "_law_least" f_law_least fd_law_least ["_law_drawn_here"] g_law_least [] []).Ok P w K mg base 2 := cal_ok (C := C_law_least) (cs := [Cal.mk "_law_held" f_law_held fd_law_held ["_law_border", "_law_pair"] g_t_law_held [] []]) (M := [1]) (body := b_law_least) (n := 3) (g := g_law_least) h_law_least (PySem.W.mg_of X G h_law_least.a) S_law_least (h_law_least.F.binds (ps := ["_law_drawn_here"]) fun _ _ _ _ _ _ us hl => match us, hl with | [_], _ => rfl) (fns_cons c_law_held (by decide) fns_nil) (by rfl) (free_cons (PySem.W.mg_none_of X G z_sorted) (free_cons (PySem.W.mg_none_of X G z_tuple) free_nil)) glob_nil (fun z => nomatch z) (by rfl) (fun z => nomatch z) chk_law_least (by decide) (by rfl) (by rfl)
  have c_law_drawn : (Cal.mk "_law_drawn" f_law_drawn fd_law_drawn ["_law_script", "_law_at", "_law_many"] g_law_drawn [] []).Ok P w K mg base 2 := cal_ok (C := C_law_drawn) (cs := [Cal.mk "_law_cell" f_law_cell fd_law_cell ["_law_script", "_law_k"] g_t_law_cell [] []]) (M := [4]) (body := b_law_drawn) (n := 7) (g := g_law_drawn) h_law_drawn (PySem.W.mg_of X G h_law_drawn.a) S_law_drawn (h_law_drawn.F.binds (ps := ["_law_script", "_law_at", "_law_many"]) fun _ _ _ _ _ _ us hl => match us, hl with | [_, _, _], _ => rfl) (fns_cons c_law_cell (by decide) fns_nil) (by rfl) (free_cons (PySem.W.mg_none_of X G z_range) free_nil) glob_nil (fun z => nomatch z) (by rfl) (fun z => nomatch z) chk_law_drawn (by decide) (by rfl) (by rfl)
  have c_at_or_above : (Cal.mk "at_or_above" f_at_or_above fd_at_or_above ["pair", "other"] g_at_or_above [] []).Ok P w K mg base 1 := cal_ok (C := C_at_or_above) (cs := []) (M := []) (body := b_at_or_above) (n := 2) (g := g_at_or_above) h_at_or_above (PySem.W.mg_of X G h_at_or_above.a) S_at_or_above (h_at_or_above.F.binds (ps := ["pair", "other"]) fun _ _ _ _ _ _ us hl => match us, hl with | [_, _], _ => rfl) fns_nil (by rfl) free_nil glob_nil (fun z => nomatch z) (by rfl) (fun z => nomatch z) chk_at_or_above (by decide) (by rfl) (by rfl)
  have c_holds : (Cal.mk "holds" f_holds fd_holds ["border", "pair"] g_holds [] []).Ok P w K mg base 2 := cal_ok (C := C_holds) (cs := [Cal.mk "at_or_above" f_at_or_above fd_at_or_above ["pair", "other"] g_at_or_above [] []]) (M := []) (body := b_holds) (n := 3) (g := g_holds) h_holds (PySem.W.mg_of X G h_holds.a) S_holds (h_holds.F.binds (ps := ["border", "pair"]) fun _ _ _ _ _ _ us hl => match us, hl with | [_, _], _ => rfl) (fns_cons c_at_or_above (by decide) fns_nil) (by rfl) free_nil glob_nil (fun z => nomatch z) (by rfl) (fun z => nomatch z) chk_holds (by decide) (by rfl) (by rfl)
  have c_least_pairs : (Cal.mk "least_pairs" f_least_pairs fd_least_pairs ["pairs"] g_least_pairs [] []).Ok P w K mg base 3 := cal_ok (C := C_least_pairs) (cs := [Cal.mk "holds" f_holds fd_holds ["border", "pair"] g_holds [] []]) (M := [1]) (body := b_least_pairs) (n := 3) (g := g_least_pairs) h_least_pairs (PySem.W.mg_of X G h_least_pairs.a) S_least_pairs (h_least_pairs.F.binds (ps := ["pairs"]) fun _ _ _ _ _ _ us hl => match us, hl with | [_], _ => rfl) (fns_cons c_holds (by decide) fns_nil) (by rfl) (free_cons (PySem.W.mg_none_of X G z_sorted) (free_cons (PySem.W.mg_none_of X G z_set) (free_cons (PySem.W.mg_none_of X G z_tuple) free_nil))) glob_nil (fun z => nomatch z) (by rfl) (fun z => nomatch z) chk_least_pairs (by decide) (by rfl) (by rfl)
  have c_both : (Cal.mk "both" f_both fd_both ["border", "other"] g_both [] []).Ok P w K mg base 4 := cal_ok (C := C_both) (cs := [Cal.mk "least_pairs" f_least_pairs fd_least_pairs ["pairs"] g_least_pairs [] []]) (M := [2]) (body := b_both) (n := 5) (g := g_both) h_both (PySem.W.mg_of X G h_both.a) S_both (h_both.F.binds (ps := ["border", "other"]) fun _ _ _ _ _ _ us hl => match us, hl with | [_, _], _ => rfl) (fns_cons c_least_pairs (by decide) fns_nil) (by rfl) (free_cons (PySem.W.mg_none_of X G z_max) free_nil) glob_nil (fun z => nomatch z) (by rfl) (fun z => nomatch z) chk_both (by decide) (by rfl) (by rfl)
  have c_either : (Cal.mk "either" f_either fd_either ["border", "other"] g_either [] []).Ok P w K mg base 4 := cal_ok (C := C_either) (cs := [Cal.mk "least_pairs" f_least_pairs fd_least_pairs ["pairs"] g_least_pairs [] []]) (M := []) (body := b_either) (n := 2) (g := g_either) h_either (PySem.W.mg_of X G h_either.a) S_either (h_either.F.binds (ps := ["border", "other"]) fun _ _ _ _ _ _ us hl => match us, hl with | [_, _], _ => rfl) (fns_cons c_least_pairs (by decide) fns_nil) (by rfl) (free_cons (PySem.W.mg_none_of X G z_list) free_nil) glob_nil (fun z => nomatch z) (by rfl) (fun z => nomatch z) chk_either (by decide) (by rfl) (by rfl)
  have c_law_whole : (Cal.mk "_law_whole" f_law_whole fd_law_whole ["_law_found"] g_is_whole [] []).Ok P w K mg base 1 := cal_ok (C := C_law_whole) (cs := []) (M := []) (body := b_is_whole) (n := 1) (g := g_is_whole) h_law_whole (PySem.W.mg_of X G h_law_whole.a) S_law_whole (h_law_whole.F.binds (ps := ["_law_found"]) fun _ _ _ _ _ _ us hl => match us, hl with | [_], _ => rfl) fns_nil (by rfl) (free_cons (PySem.W.mg_none_of X G z_isinstance) (free_cons (PySem.W.mg_none_of X G z_int) (free_cons (PySem.W.mg_none_of X G z_bool) free_nil))) glob_nil (fun z => nomatch z) (by rfl) (fun z => nomatch z) chk_law_whole (by decide) (by rfl) (by rfl)
  have c_law_is_border : (Cal.mk "_law_is_border" f_law_is_border fd_law_is_border ["_law_found"] g_law_is_border [] []).Ok P w K mg base 2 := cal_ok (C := C_law_is_border) (cs := [Cal.mk "_law_whole" f_law_whole fd_law_whole ["_law_found"] g_is_whole [] []]) (M := []) (body := b_law_is_border) (n := 3) (g := g_law_is_border) h_law_is_border (PySem.W.mg_of X G h_law_is_border.a) S_law_is_border (h_law_is_border.F.binds (ps := ["_law_found"]) fun _ _ _ _ _ _ us hl => match us, hl with | [_], _ => rfl) (fns_cons c_law_whole (by decide) fns_nil) (by rfl) (free_cons (PySem.W.mg_none_of X G z_isinstance) (free_cons (PySem.W.mg_none_of X G z_tuple) (free_cons (PySem.W.mg_none_of X G z_len) (free_cons (PySem.W.mg_none_of X G z_range) free_nil)))) glob_nil (fun z => nomatch z) (by rfl) (fun z => nomatch z) chk_law_is_border (by decide) (by rfl) (by rfl)
  have c_law_asked : (Cal.mk "_law_asked" f_law_asked fd_law_asked ["_law_border", "_law_other", "_law_drawn_here"] g_law_asked [] []).Ok P w K mg base 1 := cal_ok (C := C_law_asked) (cs := []) (M := []) (body := b_law_asked) (n := 8) (g := g_law_asked) h_law_asked (PySem.W.mg_of X G h_law_asked.a) S_law_asked (h_law_asked.F.binds (ps := ["_law_border", "_law_other", "_law_drawn_here"]) fun _ _ _ _ _ _ us hl => match us, hl with | [_, _, _], _ => rfl) fns_nil (by rfl) (free_cons (PySem.W.mg_none_of X G z_list) (free_cons (PySem.W.mg_none_of X G z_max) free_nil)) glob_nil (fun z => nomatch z) (by rfl) (fun z => nomatch z) chk_law_asked (by decide) (by rfl) (by rfl)
  have c_law : (Cal.mk "law" f_law fd_law ["_law_script"] g_law [] []).Ok P w K mg base 5 := cal_ok (C := C_law) (cs := [Cal.mk "_law_cell" f_law_cell fd_law_cell ["_law_script", "_law_k"] g_t_law_cell [] [], Cal.mk "_law_least" f_law_least fd_law_least ["_law_drawn_here"] g_law_least [] [], Cal.mk "_law_drawn" f_law_drawn fd_law_drawn ["_law_script", "_law_at", "_law_many"] g_law_drawn [] [], Cal.mk "both" f_both fd_both ["border", "other"] g_both [] [], Cal.mk "either" f_either fd_either ["border", "other"] g_either [] [], Cal.mk "_law_is_border" f_law_is_border fd_law_is_border ["_law_found"] g_law_is_border [] [], Cal.mk "_law_asked" f_law_asked fd_law_asked ["_law_border", "_law_other", "_law_drawn_here"] g_law_asked [] [], Cal.mk "_law_held" f_law_held fd_law_held ["_law_border", "_law_pair"] g_t_law_held [] []]) (M := []) (body := b_law) (n := 9) (g := g_law) h_law (PySem.W.mg_of X G h_law.a) S_law (h_law.F.binds (ps := ["_law_script"]) fun _ _ _ _ _ _ us hl => match us, hl with | [_], _ => rfl) (fns_cons c_law_cell (by decide) (fns_cons c_law_least (by decide) (fns_cons c_law_drawn (by decide) (fns_cons c_both (by decide) (fns_cons c_either (by decide) (fns_cons c_law_is_border (by decide) (fns_cons c_law_asked (by decide) (fns_cons c_law_held (by decide) fns_nil)))))))) (by rfl) (free_cons (PySem.W.mg_none_of X G z_list) free_nil) glob_nil (fun z => nomatch z) (by rfl) (fun z => nomatch z) chk_law (by decide) (by rfl) (by rfl)
  exact end_ok c_law rfl hg
end Py_k13
namespace Py_k13
open L2 Py
theorem blt_pd2 (p q : Pr) : PySem.W.dataLt (pd2 p).pd (pd2 q).pd = decide (pLt p q) := by
  have e : D.lt (pd2 p) (pd2 q) = .ok (.bl (PySem.W.dataLt (pd2 p).pd (pd2 q).pd)) := rfl
  have h := ltD_pd2 p q
  rw [e] at h
  exact D.bl.inj (R.ok.inj h)
theorem leD_pd2 (p q : Pr) : leD (pd2 p) (pd2 q) = !decide (pLt q p) := by
  rw [← blt_pd2 q p]
  rfl
theorem sorted_le (ws : List Pr) : ∃ vs : List Pr, vs.Perm ws ∧ vs.Pairwise (fun a b => ¬ pLt b a) ∧ D.sorted (.lst (ws.map pd2)) = .ok (.lst (vs.map pd2)) := by
  refine ⟨ws.mergeSort fun a b => leD (pd2 a) (pd2 b), List.mergeSort_perm _ _, ?_, ?_⟩
  · have pw := List.pairwise_mergeSort (le := fun a b : Pr => leD (pd2 a) (pd2 b)) (fun a b c h1 h2 => by
      rw [leD_pd2] at h1 h2 ⊢
      have h1 : ¬ pLt b a := by simpa using h1
      have h2 : ¬ pLt c b := by simpa using h2
      rw [decide_eq_false (by unfold pLt at *; omega)]
      rfl) (fun a b => by
      rw [leD_pd2, leD_pd2]
      by_cases q : pLt b a
      · rw [decide_eq_true q, decide_eq_false (by unfold pLt at *; omega)]
        rfl
      · rw [decide_eq_false q]
        rfl) ws
    exact pw.imp fun {x y} h => by
      rw [leD_pd2] at h
      simpa using h
  · unfold D.sorted
    simp only [sortOk_pd2, if_true]
    rw [List.map_mergeSort (r := fun a b => leD (pd2 a) (pd2 b)) (s := leD) (f := pd2) (fun a _ b _ => rfl)]
theorem leastP_ris : ∀ (vs acc : List Pr), Py.Ris acc → (∀ e ∈ acc, ∀ p ∈ vs, ¬ pLt p e) → vs.Pairwise (fun a b => ¬ pLt b a) → Py.Ris (vs.foldl lpStep acc)
  | [], acc, h, _, _ => h
  | p :: vs, acc, h, h2, h3 => by
    have h3' := List.pairwise_cons.mp h3
    rw [List.foldl_cons]
    have h4 : Py.Ris (lpStep acc p) ∧ ∀ e ∈ lpStep acc p, e ∈ acc ∨ e = p := by
      unfold lpStep
      split
      · exact ⟨h, fun e he => .inl he⟩
      · rename_i hh
        refine ⟨List.pairwise_append.mpr ⟨h, by simp, fun e he e' he' => ?_⟩, fun e he => ?_⟩
        · rw [List.mem_singleton] at he'
          subst he'
          have h5 := h2 e he e' (by simp)
          have h6 : ¬ (e.1 ≤ e'.1 ∧ e.2 ≤ e'.2) := fun z => hh (hld_iff.mpr ⟨e, he, z.1, z.2⟩)
          unfold pLt at h5
          omega
        · rcases List.mem_append.mp he with he | he
          · exact .inl he
          · exact .inr (List.mem_singleton.mp he)
    refine leastP_ris vs _ h4.1 (fun e he q hq => ?_) h3'.2
    rcases h4.2 e he with h5 | h5
    · exact h2 e h5 q (by simp [hq])
    · rw [h5]; exact h3'.1 q hq
theorem leastP_sub : ∀ (vs acc : List Pr), ∀ e ∈ vs.foldl lpStep acc, e ∈ acc ∨ e ∈ vs
  | [], acc, e, he => .inl he
  | p :: vs, acc, e, he => by
    rw [List.foldl_cons] at he
    rcases leastP_sub vs _ e he with h | h
    · unfold lpStep at h
      split at h
      · exact .inl h
      · rcases List.mem_append.mp h with h | h
        · exact .inl h
        · exact .inr (by rw [List.mem_singleton.mp h]; simp)
    · exact .inr (by simp [h])
theorem lst_body (S PD : D) (acc : List Pr) (p : Pr) (hp : PD = pd2 p) (ha : acc.length < 1000000) : Py.execs [(2, g_t_law_held)] [1] L_law_least_0 [some S, some (.lst (acc.map pd2)), some PD] = .ok (.nx [some S, some (.lst ((lpStep acc p).map pd2)), some PD]) := by
  have e := held_ok (.lst (acc.map pd2)) acc rfl p
  rw [← hp] at e
  unfold lpStep
  cases hh : hld acc p with
  | true =>
    rw [hh] at e
    simp only [↓reduceIte]
    generalize acc.map pd2 = l at e ⊢
    simp [L_law_least_0, runFn, env0, outD, Py.execs, Py.exec, exec_for, ev, evs, evAnd, evOr, evPart, evTests, evIt, lift, view, mask, tst, bindT, Tgt.bind, setAll, O.f, appD, extD, putD, haveL, Cop.f, Bop.f, Bi.f, divOk, powOk, mulOk, log2_small, Cst.d, D.isTy, D.lf, D.lfs, D.lfItems, R.bind_assoc, List.foldl, truth_non, truth_bl, truth_int, truth_lst, truth_tup, ix_t0, ix_t1, ix_t2, ix_t3, ix_t4, ix_l0, ix_l1, ix_l2, ix_l3, pd2_ix0, pd2_ix1, len_lst, len_tup, len_scr, ltD_int, eqD_int, eqD_bl, ne_int, ne_bl, cmpI_int, add_int, sub_int, mul_int, fdiv_int, mod_int, pow_int, shr_int, negI_int, asB_bl, asI_int, items_lst, items_tup, listOf_lst, listOf_tup, tupOf_lst, tupOf_tup, rangeOf_1, rangeOf_2, f1_1, f2_2, isNon_non, isNon_bl, isNon_int, isNon_tup, isNon_lst, e]
  | false =>
    rw [hh] at e
    have hl : (acc.map pd2).length < 16777216 := by rw [List.length_map]; omega
    simp only [Bool.false_eq_true, if_false, List.map_append, List.map_cons, List.map_nil, ← hp]
    have hlf : PD.lf = true := by rw [hp]; rfl
    generalize acc.map pd2 = l at e hl ⊢
    simp [L_law_least_0, runFn, env0, outD, Py.execs, Py.exec, exec_for, ev, evs, evAnd, evOr, evPart, evTests, evIt, lift, view, mask, tst, bindT, Tgt.bind, setAll, O.f, appD, extD, putD, haveL, Cop.f, Bop.f, Bi.f, divOk, powOk, mulOk, log2_small, Cst.d, D.isTy, D.lf, D.lfs, D.lfItems, R.bind_assoc, List.foldl, truth_non, truth_bl, truth_int, truth_lst, truth_tup, ix_t0, ix_t1, ix_t2, ix_t3, ix_t4, ix_l0, ix_l1, ix_l2, ix_l3, pd2_ix0, pd2_ix1, len_lst, len_tup, len_scr, ltD_int, eqD_int, eqD_bl, ne_int, ne_bl, cmpI_int, add_int, sub_int, mul_int, fdiv_int, mod_int, pow_int, shr_int, negI_int, asB_bl, asI_int, items_lst, items_tup, listOf_lst, listOf_tup, tupOf_lst, tupOf_tup, rangeOf_1, rangeOf_2, f1_1, f2_2, isNon_non, isNon_bl, isNon_int, isNon_tup, isNon_lst, e, hl, hlf]
theorem lst_ev (S : D) (vs l : List D) (x2 : Option D) (hs : D.sorted S = .ok (.lst vs)) (hg : forGo (.nm 2) (Py.execs [(2, g_t_law_held)] [1] L_law_least_0) vs [some S, some (.lst []), none] = .ok (.nx [some S, some (.lst l), x2])) : g_law_least [S] = .ok (.tup l) := by
  simp [g_law_least, b_law_least, runFn, env0, outD, Py.execs, Py.exec, exec_for, ev, evs, evAnd, evOr, evPart, evTests, evIt, lift, view, mask, tst, bindT, Tgt.bind, setAll, O.f, appD, extD, putD, haveL, Cop.f, Bop.f, Bi.f, divOk, powOk, mulOk, log2_small, Cst.d, D.isTy, D.lf, D.lfs, D.lfItems, R.bind_assoc, List.foldl, truth_non, truth_bl, truth_int, truth_lst, truth_tup, ix_t0, ix_t1, ix_t2, ix_t3, ix_t4, ix_l0, ix_l1, ix_l2, ix_l3, pd2_ix0, pd2_ix1, len_lst, len_tup, len_scr, ltD_int, eqD_int, eqD_bl, ne_int, ne_bl, cmpI_int, add_int, sub_int, mul_int, fdiv_int, mod_int, pow_int, shr_int, negI_int, asB_bl, asI_int, items_lst, items_tup, listOf_lst, listOf_tup, tupOf_lst, tupOf_tup, rangeOf_1, rangeOf_2, f1_1, f2_2, isNon_non, isNon_bl, isNon_int, isNon_tup, isNon_lst, hs, hg]
theorem least_b (ws : List Pr) (hw : ws.length ≤ 1000) : ∃ b : List Pr, Py.Ris b ∧ (∀ e ∈ b, e ∈ ws) ∧ g_law_least [.lst (ws.map pd2)] = .ok (bordD b) := by
  obtain ⟨vs, pm, pw, hs⟩ := sorted_le ws
  have hvl := pm.length_eq
  obtain ⟨ρ', e, x2, rfl, _⟩ := forGo_inv (t := .nm 2) (body := Py.execs [(2, g_t_law_held)] [1] L_law_least_0) (enc := pd2) (fun done ρ => ∃ x2, ρ = [some (.lst (ws.map pd2)), some (.lst ((done.foldl lpStep []).map pd2)), x2] ∧ (done.foldl lpStep []).length ≤ done.length) vs [] (fun d p r e ρ hρ => by
    obtain ⟨x2, rfl, h1⟩ := hρ
    have hdl : d.length ≤ vs.length := by
      have := congrArg List.length e
      simp at this
      omega
    have b := lst_body (.lst (ws.map pd2)) (pd2 p) (d.foldl lpStep []) p rfl (by omega)
    have h2 := lpStep_len (d.foldl lpStep []) p
    exact ⟨_, _, rfl, .inl b, some (pd2 p), by rw [List.foldl_append]; rfl, by rw [List.foldl_append, List.length_append]; simpa using (by omega : (lpStep (d.foldl lpStep []) p).length ≤ d.length + 1)⟩) [some (.lst (ws.map pd2)), some (.lst []), none] ⟨none, rfl, Nat.le_refl _⟩
  refine ⟨leastP vs, leastP_ris vs [] List.Pairwise.nil (fun e he => by cases he) pw, fun e he => ?_, lst_ev _ _ _ x2 hs e⟩
  rcases leastP_sub vs [] e he with h | h
  · cases h
  · exact pm.mem_iff.mp h
def Cut7 (N : Int) (p : Pr) : Prop := ∃ t : Int, 0 ≤ t ∧ t ≤ 6 ∧ p.2 = (p.1 + N * t) / 7
theorem cut7 (c N : Int) (hN : 0 < N) : Cut7 N (c % N, c / 7 % N) := by
  have hx := Int.emod_nonneg c (show N ≠ 0 by omega)
  have hx2 := Int.emod_lt_of_pos c hN
  have ht := Int.emod_nonneg (c / N) (show (7 : Int) ≠ 0 by decide)
  have ht2 := Int.emod_lt_of_pos (c / N) (show (0 : Int) < 7 by decide)
  refine ⟨c / N % 7, ht, by omega, ?_⟩
  have e1 : N * (c / N) + c % N = c := Int.mul_ediv_add_emod c N
  have e2 : 7 * (c / N / 7) + c / N % 7 = c / N := Int.mul_ediv_add_emod (c / N) 7
  generalize c / N % 7 = t at *
  generalize c / N / 7 = a at *
  generalize c % N = x at *
  have e3 : c = (x + N * t) + 7 * (N * a) := by
    rw [← e1, ← e2, Int.mul_add, Int.mul_left_comm N 7 a]
    omega
  have b0 : 0 ≤ N * t := Int.mul_nonneg (by omega) ht
  have b1 : N * t ≤ N * 6 := Int.mul_le_mul_of_nonneg_left (by omega) (by omega)
  show c / 7 % N = (x + N * t) / 7
  rw [e3, Int.add_mul_ediv_left _ _ (by decide), Int.add_mul_emod_self_left]
  generalize N * t = u at *
  exact Int.emod_eq_of_lt (by omega) (by omega)
theorem few_after (N : Int) (hN : 0 < N) : ∀ (b : List Pr) (e : Pr) (t : Int), 0 ≤ t → e.2 = (e.1 + N * t) / 7 → Py.Ris (e :: b) → (∀ f ∈ b, Cut7 N f) → (b.length : Int) ≤ t
  | [], e, t, h0, _, _, _ => h0
  | f :: b, e, t, h0, h1, h2, h3 => by
    obtain ⟨t', z0, _, z2⟩ := h3 f (by simp)
    have h2' := List.pairwise_cons.mp h2
    have h4 := h2'.1 f (by simp)
    have h5 : t' < t := by
      rcases Int.lt_or_le t' t with h | h
      · exact h
      · exfalso
        have := Int.mul_le_mul_of_nonneg_left h (show 0 ≤ N by omega)
        generalize N * t = u at *
        generalize N * t' = u' at *
        omega
    have h6 := few_after N hN b f t' z0 z2 h2'.2 fun g hg => h3 g (by simp [hg])
    rw [List.length_cons]
    omega
theorem few7 {N : Int} (hN : 0 < N) {b : List Pr} (hr : Py.Ris b) (h : ∀ f ∈ b, Cut7 N f) : b.length ≤ 7 := by
  cases b with
  | nil => simp
  | cons e b =>
    obtain ⟨t, z0, z1, z2⟩ := h e (by simp)
    have := few_after N hN b e t z0 z2 hr fun g hg => h g (by simp [hg])
    rw [List.length_cons]
    omega
theorem dr_body (S A M N : D) (most c x y : Int) (k i : Int) (acc : List D) (x6 : Option D) (h1 : g_t_law_cell [S, .int (k + i)] = .ok (.int c)) (hx : D.mod (.int c) (.int most) = .ok (.int x)) (hy : D.mod (.int (c / 7)) (.int most) = .ok (.int y)) (hc : D.fdiv (.int c) (.int 7) = .ok (.int (c / 7))) (hl : acc.length < 16777216) :
    Py.execs [(2, g_t_law_cell)] [4] L_law_drawn_0 [some S, some (.int k), some M, some (.int most), some (.lst acc), some (.int i), x6] = .ok (.nx [some S, some (.int k), some M, some (.int most), some (.lst (acc ++ [pd2 (x, y)])), some (.int i), some (.int c)]) := by
  simp [L_law_drawn_0, runFn, env0, outD, Py.execs, Py.exec, exec_for, ev, evs, evAnd, evOr, evPart, evTests, evIt, lift, view, mask, tst, bindT, Tgt.bind, setAll, O.f, appD, extD, putD, haveL, Cop.f, Bop.f, Bi.f, Cst.d, D.isTy, D.lf, D.lfs, D.lfItems, R.bind_assoc, List.foldl, truth_non, truth_bl, truth_int, truth_lst, truth_tup, ix_t0, ix_t1, ix_t2, ix_t3, ix_t4, ix_l0, ix_l1, ix_l2, ix_l3, pd2_ix0, pd2_ix1, len_lst, len_tup, len_scr, ltD_int, eqD_int, eqD_bl, ne_int, ne_bl, cmpI_int, add_int, sub_int, shr_int, negI_int, asB_bl, asI_int, items_lst, items_tup, listOf_lst, listOf_tup, tupOf_lst, tupOf_tup, rangeOf_1, rangeOf_2, f1_1, f2_2, isNon_non, isNon_bl, isNon_int, isNon_tup, isNon_lst, h1, hx, hy, hc, hl, pd2]
theorem dr_ev (S : D) (most c0 at_ m P : Int) (l RG : List D) (x5 x6 : Option D) (hp : D.pow (.int 10) (.int 30) = .ok (.int P)) (h0 : g_t_law_cell [S, .int 0] = .ok (.int c0)) (m0 : D.mod (.int c0) (.int 3) = .ok (.int (c0 % 3))) (hx : D.ix (.lst [.int 6, .int 13, .int P]) (.int (c0 % 3)) = .ok (.int most)) (hr : rangeD 0 m = .ok RG)
    (hg : forGo (.nm 5) (Py.execs [(2, g_t_law_cell)] [4] L_law_drawn_0) RG [some S, some (.int at_), some (.int m), some (.int most), some (.lst []), none, none] = .ok (.nx [some S, some (.int at_), some (.int m), some (.int most), some (.lst l), x5, x6])) :
    g_law_drawn [S, .int at_, .int m] = .ok (.lst l) := by
  simp [g_law_drawn, b_law_drawn, runFn, env0, outD, Py.execs, Py.exec, exec_for, ev, evs, evAnd, evOr, evPart, evTests, evIt, lift, view, mask, tst, bindT, Tgt.bind, setAll, O.f, appD, extD, putD, haveL, Cop.f, Bop.f, Bi.f, Cst.d, D.isTy, D.lf, D.lfs, D.lfItems, R.bind_assoc, List.foldl, truth_non, truth_bl, truth_int, truth_lst, truth_tup, ix_t0, ix_t1, ix_t2, ix_t3, ix_t4, ix_l0, ix_l1, ix_l2, ix_l3, pd2_ix0, pd2_ix1, len_lst, len_tup, len_scr, ltD_int, eqD_int, eqD_bl, ne_int, ne_bl, cmpI_int, add_int, sub_int, shr_int, negI_int, asB_bl, asI_int, items_lst, items_tup, listOf_lst, listOf_tup, tupOf_lst, tupOf_tup, rangeOf_1, rangeOf_2, f1_1, f2_2, isNon_non, isNon_bl, isNon_int, isNon_tup, isNon_lst, hp, h0, m0, hx, hr, hg]
theorem most_ok (ns : List Int) : ∃ N : Int, 0 < N ∧ D.ix (.lst [.int 6, .int 13, .int (10 ^ 30)]) (.int (cell ns 0 % 3)) = .ok (.int N) := by
  rcases (show cell ns 0 % 3 = 0 ∨ cell ns 0 % 3 = 1 ∨ cell ns 0 % 3 = 2 by omega) with q | q | q
  · exact ⟨6, by decide, by rw [q]; exact ix_l0 _ _⟩
  · exact ⟨13, by decide, by rw [q]; exact ix_l1 _ _ _⟩
  · exact ⟨10 ^ 30, by decide, by rw [q]; exact ix_l2 _ _ _ _⟩
theorem drawn_ok (ns : List Int) (N : Int) (hN : 0 < N) (hx : D.ix (.lst [.int 6, .int 13, .int (10 ^ 30)]) (.int (cell ns 0 % 3)) = .ok (.int N)) (a m : Nat) (hm : m ≤ 100) : ∃ ws : List Pr, ws.length = m ∧ (∀ w ∈ ws, Cut7 N w) ∧ g_law_drawn [.scr ns, .int a, .int m] = .ok (.lst (ws.map pd2)) := by
  obtain ⟨ρ', e, us, x5, x6, rfl, u1, u2⟩ := forGo_inv (t := .nm 5) (body := Py.execs [(2, g_t_law_cell)] [4] L_law_drawn_0) (enc := fun i : Nat => D.int (i : Int)) (fun done ρ => ∃ (us : List Pr) (x5 x6 : Option D), ρ = [some (.scr ns), some (.int a), some (.int m), some (.int N), some (.lst (us.map pd2)), x5, x6] ∧ us.length = done.length ∧ ∀ w ∈ us, Cut7 N w) (List.range m) [] (fun d k r e ρ hρ => by
    obtain ⟨us, x5, x6, rfl, u1, u2⟩ := hρ
    have hdl : d.length ≤ m := by
      have := congrArg List.length e
      simp at this
      omega
    have hc : g_t_law_cell [.scr ns, .int ((a : Int) + (k : Int))] = .ok (.int (cell ns (a + k))) := by
      have := cell_ok ns (a + k)
      rw [Int.natCast_add] at this
      exact this
    have b := dr_body (.scr ns) (.int a) (.int m) (.int N) N _ _ _ a k (us.map pd2) x6 hc (mod_ok hN) (mod_ok hN) (fdiv_ok (by decide) (by decide)) (by rw [List.length_map]; omega)
    refine ⟨_, _, rfl, .inl b, us ++ [(cell ns (a + k) % N, cell ns (a + k) / 7 % N)], _, _, by rw [List.map_append]; rfl, by simp [u1], fun w hw => ?_⟩
    rcases List.mem_append.mp hw with hw | hw
    · exact u2 w hw
    · rw [List.mem_singleton.mp hw]
      exact cut7 _ N hN) [some (.scr ns), some (.int a), some (.int m), some (.int N), some (.lst []), none, none] ⟨[], none, none, rfl, rfl, fun w hw => by cases hw⟩
  exact ⟨us, by rw [u1, List.nil_append, List.length_range], u2, dr_ev (.scr ns) N _ a m _ _ _ x5 x6 (pow_ten (n := 30) (by decide) (by decide +kernel)) (cell_ok ns 0) (mod_ok (by decide)) hx (rangeD_nat (by omega)) e⟩
def jn (p q : Pr) : Pr := (max p.1 q.1, max p.2 q.2)
def joins (a b : List Pr) : List Pr := (a.map fun p => b.map (jn p)).flatten
theorem joins_mem {a b : List Pr} {w : Pr} : w ∈ joins a b ↔ ∃ p ∈ a, ∃ q ∈ b, w = jn p q := by
  unfold joins
  rw [List.mem_flatten]
  constructor
  · rintro ⟨l, hl, hw⟩
    obtain ⟨p, hp, rfl⟩ := List.mem_map.mp hl
    obtain ⟨q, hq, rfl⟩ := List.mem_map.mp hw
    exact ⟨p, hp, q, hq, rfl⟩
  · rintro ⟨p, hp, q, hq, rfl⟩
    exact ⟨_, List.mem_map.mpr ⟨p, hp, rfl⟩, List.mem_map.mpr ⟨q, hq, rfl⟩⟩
theorem hld_joins (a b : List Pr) (r : Pr) : hld (joins a b) r = (hld a r && hld b r) := by
  rw [Bool.eq_iff_iff, Bool.and_eq_true, hld_iff, hld_iff, hld_iff]
  constructor
  · rintro ⟨w, hw, h1, h2⟩
    obtain ⟨p, hp, q, hq, rfl⟩ := joins_mem.mp hw
    have h1 : max p.1 q.1 ≤ r.1 := h1
    have h2 : max p.2 q.2 ≤ r.2 := h2
    exact ⟨⟨p, hp, by omega, by omega⟩, ⟨q, hq, by omega, by omega⟩⟩
  · rintro ⟨⟨p, hp, h1, h2⟩, ⟨q, hq, h3, h4⟩⟩
    exact ⟨jn p q, joins_mem.mpr ⟨p, hp, q, hq, rfl⟩, show max p.1 q.1 ≤ r.1 by omega, show max p.2 q.2 ≤ r.2 by omega⟩
theorem joins_len (b : List Pr) : ∀ a : List Pr, (joins a b).length = a.length * b.length
  | [] => by simp [joins]
  | p :: a => by
    have := joins_len b a
    unfold joins at this ⊢
    rw [List.map_cons, List.flatten_cons, List.length_append, this, List.length_map, List.length_cons, Nat.succ_mul]
    omega
theorem bo_in (A B : D) (acc : List D) (p q : Pr) (hl : acc.length < 16777216) : Py.execs [(1, g_least_pairs)] [2] L_both_0 [some A, some B, some (.lst acc), some (pd2 p), some (pd2 q)] = .ok (.nx [some A, some B, some (.lst (acc ++ [pd2 (jn p q)])), some (pd2 p), some (pd2 q)]) := by
  have e0 := pd2_ix0 p
  have e1 := pd2_ix1 p
  have e2 := pd2_ix0 q
  have e3 := pd2_ix1 q
  have e4 : pd2 (jn p q) = .tup [.int (max p.1 q.1), .int (max p.2 q.2)] := rfl
  rw [e4]
  generalize pd2 p = PD at *
  generalize pd2 q = QD at *
  simp [L_both_0, runFn, env0, outD, Py.execs, Py.exec, exec_for, ev, evs, evAnd, evOr, evPart, evTests, evIt, lift, view, mask, tst, bindT, Tgt.bind, setAll, O.f, appD, extD, putD, haveL, Cop.f, Bop.f, Bi.f, divOk, powOk, mulOk, log2_small, Cst.d, D.isTy, D.lf, D.lfs, D.lfItems, R.bind_assoc, List.foldl, truth_non, truth_bl, truth_int, truth_lst, truth_tup, ix_t0, ix_t1, ix_t2, ix_t3, ix_t4, ix_l0, ix_l1, ix_l2, ix_l3, pd2_ix0, pd2_ix1, len_lst, len_tup, len_scr, ltD_int, eqD_int, eqD_bl, ne_int, ne_bl, cmpI_int, add_int, sub_int, mul_int, fdiv_int, mod_int, pow_int, shr_int, negI_int, asB_bl, asI_int, items_lst, items_tup, listOf_lst, listOf_tup, tupOf_lst, tupOf_tup, rangeOf_1, rangeOf_2, f1_1, f2_2, isNon_non, isNon_bl, isNon_int, isNon_tup, isNon_lst, e0, e1, e2, e3, max2_ok, hl]
theorem bo_out_ev (A PD : D) (BD : D) (acc acc' bs : List D) (x4 x4' : Option D) (hb : D.items BD = .ok bs) (hg : forGo (.nm 4) (Py.execs [(1, g_least_pairs)] [2] L_both_0) bs [some A, some BD, some (.lst acc), some PD, x4] = .ok (.nx [some A, some BD, some (.lst acc'), some PD, x4'])) : Py.execs [(1, g_least_pairs)] [2] L_both_1 [some A, some BD, some (.lst acc), some PD, x4] = .ok (.nx [some A, some BD, some (.lst acc'), some PD, x4']) := by
  simp [L_both_1, runFn, env0, outD, Py.execs, Py.exec, exec_for, ev, evs, evAnd, evOr, evPart, evTests, evIt, lift, view, mask, tst, bindT, Tgt.bind, setAll, O.f, appD, extD, putD, haveL, Cop.f, Bop.f, Bi.f, divOk, powOk, mulOk, log2_small, Cst.d, D.isTy, D.lf, D.lfs, D.lfItems, R.bind_assoc, List.foldl, truth_non, truth_bl, truth_int, truth_lst, truth_tup, ix_t0, ix_t1, ix_t2, ix_t3, ix_t4, ix_l0, ix_l1, ix_l2, ix_l3, pd2_ix0, pd2_ix1, len_lst, len_tup, len_scr, ltD_int, eqD_int, eqD_bl, ne_int, ne_bl, cmpI_int, add_int, sub_int, mul_int, fdiv_int, mod_int, pow_int, shr_int, negI_int, asB_bl, asI_int, items_lst, items_tup, listOf_lst, listOf_tup, tupOf_lst, tupOf_tup, rangeOf_1, rangeOf_2, f1_1, f2_2, isNon_non, isNon_bl, isNon_int, isNon_tup, isNon_lst, hb, hg]
theorem bo_out (A : D) (acc b : List Pr) (p : Pr) (x4 : Option D) (hl : acc.length + b.length ≤ 1000000) : ∃ x4', Py.execs [(1, g_least_pairs)] [2] L_both_1 [some A, some (bordD b), some (.lst (acc.map pd2)), some (pd2 p), x4] = .ok (.nx [some A, some (bordD b), some (.lst ((acc ++ b.map (jn p)).map pd2)), some (pd2 p), x4']) := by
  obtain ⟨ρ', e, x4', rfl⟩ := forGo_inv (t := .nm 4) (body := Py.execs [(1, g_least_pairs)] [2] L_both_0) (enc := pd2) (fun done ρ => ∃ x4', ρ = [some A, some (bordD b), some (.lst ((acc ++ done.map (jn p)).map pd2)), some (pd2 p), x4']) b [] (fun d q r e ρ hρ => by
    obtain ⟨x4', rfl⟩ := hρ
    have hdl : d.length ≤ b.length := by
      have := congrArg List.length e
      simp at this
      omega
    have b := bo_in A (bordD b) ((acc ++ d.map (jn p)).map pd2) p q (by rw [List.length_map, List.length_append, List.length_map]; omega)
    exact ⟨_, _, rfl, .inl b, some (pd2 q), by simp [List.map_append]⟩) [some A, some (bordD b), some (.lst (acc.map pd2)), some (pd2 p), x4] ⟨x4, by simp⟩
  exact ⟨x4', bo_out_ev _ _ _ _ _ _ _ _ rfl e⟩
theorem bo_ev (AD BD X : D) (as l : List D) (x3 x4 : Option D) (ha : D.items AD = .ok as) (hg : forGo (.nm 3) (Py.execs [(1, g_least_pairs)] [2] L_both_1) as [some AD, some BD, some (.lst []), none, none] = .ok (.nx [some AD, some BD, some (.lst l), x3, x4])) (hX : g_least_pairs [.lst l] = .ok X) : g_both [AD, BD] = .ok X := by
  simp [g_both, b_both, runFn, env0, outD, Py.execs, Py.exec, exec_for, ev, evs, evAnd, evOr, evPart, evTests, evIt, lift, view, mask, tst, bindT, Tgt.bind, setAll, O.f, appD, extD, putD, haveL, Cop.f, Bop.f, Bi.f, divOk, powOk, mulOk, log2_small, Cst.d, D.isTy, D.lf, D.lfs, D.lfItems, R.bind_assoc, List.foldl, truth_non, truth_bl, truth_int, truth_lst, truth_tup, ix_t0, ix_t1, ix_t2, ix_t3, ix_t4, ix_l0, ix_l1, ix_l2, ix_l3, pd2_ix0, pd2_ix1, len_lst, len_tup, len_scr, ltD_int, eqD_int, eqD_bl, ne_int, ne_bl, cmpI_int, add_int, sub_int, mul_int, fdiv_int, mod_int, pow_int, shr_int, negI_int, asB_bl, asI_int, items_lst, items_tup, listOf_lst, listOf_tup, tupOf_lst, tupOf_tup, rangeOf_1, rangeOf_2, f1_1, f2_2, isNon_non, isNon_bl, isNon_int, isNon_tup, isNon_lst, ha, hg, hX]
theorem both_ok (a b : List Pr) (ha : a.length ≤ 7) (hb : b.length ≤ 7) : ∃ c : List Pr, Py.Ris c ∧ c.length ≤ 1000 ∧ (∀ p, hld c p = (hld a p && hld b p)) ∧ g_both [bordD a, bordD b] = .ok (bordD c) := by
  have hj : ∀ d : List Pr, d.length ≤ 7 → (joins d b).length ≤ 49 := fun d hd => by
    rw [joins_len]
    exact Nat.mul_le_mul hd hb
  obtain ⟨ρ', e, x3, x4, rfl⟩ := forGo_inv (t := .nm 3) (body := Py.execs [(1, g_least_pairs)] [2] L_both_1) (enc := pd2) (fun done ρ => ∃ x3 x4, ρ = [some (bordD a), some (bordD b), some (.lst ((joins done b).map pd2)), x3, x4]) a [] (fun d p r e ρ hρ => by
    obtain ⟨x3, x4, rfl⟩ := hρ
    have hdl : d.length ≤ a.length := by
      have := congrArg List.length e
      simp at this
      omega
    have := hj d (by omega)
    obtain ⟨x4', b'⟩ := bo_out (bordD a) (joins d b) b p x4 (by omega)
    refine ⟨_, _, rfl, .inl b', some (pd2 p), x4', ?_⟩
    have : joins (d ++ [p]) b = joins d b ++ b.map (jn p) := by
      unfold joins
      simp
    rw [this]) [some (bordD a), some (bordD b), some (.lst []), none, none] ⟨none, none, by simp [joins]⟩
  rw [List.nil_append] at e
  have := hj a ha
  obtain ⟨c, c1, c2, c3, c4⟩ := least_ok2 (joins a b) (by omega)
  have hcl : c.length ≤ 1000 := by
    have : (c.length : Nat) ≤ (joins a b).length := by
      have nd : c.Nodup := List.Pairwise.imp (fun {x y} h (e : x = y) => by
        subst e
        exact absurd h.1 (Int.lt_irrefl _)) c1
      exact nodup_fit _ _ nd c2
    omega
  exact ⟨c, c1, hcl, fun p => by rw [c3, hld_joins], bo_ev _ _ _ _ _ x3 x4 rfl e c4⟩
theorem ei_ev (AD BD X : D) (as bs : List D) (ha : D.listOf AD = .ok (.lst as)) (hb : D.listOf BD = .ok (.lst bs)) (hl : as.length + bs.length ≤ 16777216) (hX : g_least_pairs [.lst (as ++ bs)] = .ok X) : g_either [AD, BD] = .ok X := by
  simp [g_either, b_either, runFn, env0, outD, Py.execs, Py.exec, exec_for, ev, evs, evAnd, evOr, evPart, evTests, evIt, lift, view, mask, tst, bindT, Tgt.bind, setAll, O.f, appD, extD, putD, haveL, Cop.f, Bop.f, Bi.f, divOk, powOk, mulOk, log2_small, Cst.d, D.isTy, D.lf, D.lfs, D.lfItems, R.bind_assoc, List.foldl, truth_non, truth_bl, truth_int, truth_lst, truth_tup, ix_t0, ix_t1, ix_t2, ix_t3, ix_t4, ix_l0, ix_l1, ix_l2, ix_l3, pd2_ix0, pd2_ix1, len_lst, len_tup, len_scr, ltD_int, eqD_int, eqD_bl, ne_int, ne_bl, cmpI_int, add_int, sub_int, mul_int, fdiv_int, mod_int, pow_int, shr_int, negI_int, asB_bl, asI_int, items_lst, items_tup, listOf_lst, listOf_tup, tupOf_lst, tupOf_tup, rangeOf_1, rangeOf_2, f1_1, f2_2, isNon_non, isNon_bl, isNon_int, isNon_tup, isNon_lst, ha, hb, add_lst, hl, hX]
theorem either_ok (a b : List Pr) (ha : a.length ≤ 7) (hb : b.length ≤ 7) : ∃ c : List Pr, Py.Ris c ∧ c.length ≤ 1000 ∧ (∀ p, hld c p = (hld a p || hld b p)) ∧ g_either [bordD a, bordD b] = .ok (bordD c) := by
  obtain ⟨c, c1, c2, c3, c4⟩ := least_ok2 (a ++ b) (by rw [List.length_append]; omega)
  have hcl : c.length ≤ 1000 := by
    have : (c.length : Nat) ≤ (a ++ b).length := by
      have nd : c.Nodup := List.Pairwise.imp (fun {x y} h (e : x = y) => by
        subst e
        exact absurd h.1 (Int.lt_irrefl _)) c1
      exact nodup_fit _ _ nd c2
    rw [List.length_append] at this
    omega
  rw [List.map_append] at c4
  exact ⟨c, c1, hcl, fun p => by rw [c3, hld_append], ei_ev _ _ _ _ _ rfl rfl (by rw [List.length_map, List.length_map]; omega) c4⟩
theorem ib0_body (BD : D) (x2 : Option D) (p : Pr) : Py.execs [(1, g_is_whole)] [] L_law_is_border_0 [some BD, some (pd2 p), x2] = .ok (.nx [some BD, some (pd2 p), x2]) := by
  have e1 := whole_ok p.1
  have e2 := whole_ok p.2
  have e3 := pd2_ix0 p
  have e4 := pd2_ix1 p
  have e5 : D.len (pd2 p) = .ok (.int 2) := len_tup _
  have e6 : (pd2 p).isTy .tuple = true := rfl
  generalize pd2 p = PD at *
  simp [L_law_is_border_0, runFn, env0, outD, Py.execs, Py.exec, exec_for, ev, evs, evAnd, evOr, evPart, evTests, evIt, lift, view, mask, tst, bindT, Tgt.bind, setAll, O.f, appD, extD, putD, haveL, Cop.f, Bop.f, Bi.f, Cst.d, D.lf, D.lfs, D.lfItems, R.bind_assoc, List.foldl, truth_non, truth_bl, truth_int, truth_lst, truth_tup, ix_t0, ix_t1, ix_t2, ix_t3, ix_t4, ix_l0, ix_l1, ix_l2, ix_l3, pd2_ix0, pd2_ix1, len_lst, len_tup, len_scr, ltD_int, eqD_int, eqD_bl, ne_int, ne_bl, cmpI_int, add_int, sub_int, shr_int, negI_int, asB_bl, asI_int, items_lst, items_tup, listOf_lst, listOf_tup, tupOf_lst, tupOf_tup, rangeOf_1, rangeOf_2, f1_1, f2_2, isNon_non, isNon_bl, isNon_int, isNon_tup, isNon_lst, e1, e2, e3, e4, e5, e6]
theorem ib1_body (BD : D) (x1 : Option D) (k : Int) (p q : Pr) (hp : D.ix BD (.int (k - 1)) = .ok (pd2 p)) (hq : D.ix BD (.int k) = .ok (pd2 q)) (h1 : p.1 < q.1) (h2 : q.2 < p.2) : Py.execs [(1, g_is_whole)] [] L_law_is_border_1 [some BD, x1, some (.int k)] = .ok (.nx [some BD, x1, some (.int k)]) := by
  have e3 := pd2_ix0 p
  have e4 := pd2_ix1 p
  have e5 := pd2_ix0 q
  have e6 := pd2_ix1 q
  have n1 : ¬ q.1 ≤ p.1 := by omega
  have n2 : ¬ p.2 ≤ q.2 := by omega
  generalize pd2 p = PD at *
  generalize pd2 q = QD at *
  simp [L_law_is_border_1, runFn, env0, outD, Py.execs, Py.exec, exec_for, ev, evs, evAnd, evOr, evPart, evTests, evIt, lift, view, mask, tst, bindT, Tgt.bind, setAll, O.f, appD, extD, putD, haveL, Cop.f, Bop.f, Bi.f, divOk, powOk, mulOk, log2_small, Cst.d, D.isTy, D.lf, D.lfs, D.lfItems, R.bind_assoc, List.foldl, truth_non, truth_bl, truth_int, truth_lst, truth_tup, ix_t0, ix_t1, ix_t2, ix_t3, ix_t4, ix_l0, ix_l1, ix_l2, ix_l3, pd2_ix0, pd2_ix1, len_lst, len_tup, len_scr, ltD_int, eqD_int, eqD_bl, ne_int, ne_bl, cmpI_int, add_int, sub_int, mul_int, fdiv_int, mod_int, pow_int, shr_int, negI_int, asB_bl, asI_int, items_lst, items_tup, listOf_lst, listOf_tup, tupOf_lst, tupOf_tup, rangeOf_1, rangeOf_2, f1_1, f2_2, isNon_non, isNon_bl, isNon_int, isNon_tup, isNon_lst, hp, hq, e3, e4, e5, e6, n1, n2, h1, h2]
theorem ib_ev (BD : D) (bs RG : List D) (n : Int) (x1 x2 : Option D) (h0 : BD.isTy .tuple = true) (h1 : D.items BD = .ok bs) (h2 : D.len BD = .ok (.int n)) (hr : rangeD 1 n = .ok RG) (hg : forGo (.nm 1) (Py.execs [(1, g_is_whole)] [] L_law_is_border_0) bs [some BD, none, none] = .ok (.nx [some BD, x1, none]))
    (hg2 : forGo (.nm 2) (Py.execs [(1, g_is_whole)] [] L_law_is_border_1) RG [some BD, x1, none] = .ok (.nx [some BD, x1, x2])) : g_law_is_border [BD] = .ok (.bl true) := by
  simp [g_law_is_border, b_law_is_border, runFn, env0, outD, Py.execs, Py.exec, exec_for, ev, evs, evAnd, evOr, evPart, evTests, evIt, lift, view, mask, tst, bindT, Tgt.bind, setAll, O.f, appD, extD, putD, haveL, Cop.f, Bop.f, Bi.f, Cst.d, D.lf, D.lfs, D.lfItems, R.bind_assoc, List.foldl, truth_non, truth_bl, truth_int, truth_lst, truth_tup, ix_t0, ix_t1, ix_t2, ix_t3, ix_t4, ix_l0, ix_l1, ix_l2, ix_l3, pd2_ix0, pd2_ix1, len_lst, len_tup, len_scr, ltD_int, eqD_int, eqD_bl, ne_int, ne_bl, cmpI_int, add_int, sub_int, shr_int, negI_int, asB_bl, asI_int, items_lst, items_tup, listOf_lst, listOf_tup, tupOf_lst, tupOf_tup, rangeOf_1, rangeOf_2, f1_1, f2_2, isNon_non, isNon_bl, isNon_int, isNon_tup, isNon_lst, h0, h1, h2, hr, hg, hg2]
theorem ib_ok (b : List Pr) (hb : Py.Ris b) (hl : b.length ≤ 1000) : g_law_is_border [bordD b] = .ok (.bl true) := by
  obtain ⟨ρ', e, x1, rfl⟩ := forGo_inv (t := .nm 1) (body := Py.execs [(1, g_is_whole)] [] L_law_is_border_0) (enc := pd2) (fun done ρ => ∃ x1, ρ = [some (bordD b), x1, none]) b [] (fun d p r e ρ hρ => by
    obtain ⟨x1, rfl⟩ := hρ
    exact ⟨_, _, rfl, .inl (ib0_body _ _ p), _, rfl⟩) [some (bordD b), none, none] ⟨none, rfl⟩
  obtain ⟨ρ2, e2, x2, rfl⟩ := forGo_inv (t := .nm 2) (body := Py.execs [(1, g_is_whole)] [] L_law_is_border_1) (enc := fun i : Nat => D.int (1 + (i : Int))) (fun done ρ => ∃ x2, ρ = [some (bordD b), x1, x2]) (List.range (b.length - 1)) [] (fun d k r e ρ hρ => by
    obtain ⟨x2, rfl⟩ := hρ
    have hk : k < b.length - 1 := by
      have : k ∈ List.range (b.length - 1) := by
        rw [List.nil_append] at e
        rw [e]; simp
      exact List.mem_range.mp this
    have h1 : k < b.length := by omega
    have h2 : k + 1 < b.length := by omega
    have hr := List.pairwise_iff_getElem.mp hb k (k + 1) h1 h2 (Nat.lt_succ_self k)
    have g1 : D.ix (bordD b) (.int (1 + (k : Int) - 1)) = .ok (pd2 b[k]) := by
      rw [show 1 + (k : Int) - 1 = (k : Int) by omega]
      exact ix_tup_nat (by rw [List.getElem?_map, List.getElem?_eq_getElem h1]; rfl)
    have g2 : D.ix (bordD b) (.int (1 + (k : Int))) = .ok (pd2 b[k + 1]) := by
      rw [show 1 + (k : Int) = ((k + 1 : Nat) : Int) by omega]
      exact ix_tup_nat (by rw [List.getElem?_map, List.getElem?_eq_getElem h2]; rfl)
    exact ⟨_, _, rfl, .inl (ib1_body _ _ _ _ _ g1 g2 hr.1 hr.2), _, rfl⟩) [some (bordD b), x1, none] ⟨none, rfl⟩
  refine ib_ev (bordD b) (b.map pd2) _ b.length x1 x2 rfl rfl (len_map_tup _ _) ?_ e e2
  rw [rangeD_ok (by omega) (by omega) (by omega) (by omega), show ((b.length : Int) - 1).toNat = b.length - 1 by omega]
theorem as_lc (AD CD F : D) (b : List Pr) (x y : Int) (x6 x7 : Option D) (hb : b.length ≤ 1000) : Py.ev [] lc_law_asked_0 [some AD, some (bordD b), some CD, some F, some (.int x), some (.int y), x6, x7] = .ok (.lst ((b.map (jn (x, y))).map pd2)) := by
  rw [List.map_map]
  refine ev_lc_map pd2 _ b (by
    have e := bord_items b
    generalize bordD b = BD at *
    simp [runFn, env0, outD, Py.execs, Py.exec, exec_for, ev, evs, evAnd, evOr, evPart, evTests, evIt, lift, view, mask, tst, bindT, Tgt.bind, setAll, O.f, appD, extD, putD, haveL, Cop.f, Bop.f, Bi.f, divOk, powOk, mulOk, log2_small, Cst.d, D.isTy, D.lf, D.lfs, D.lfItems, R.bind_assoc, List.foldl, truth_non, truth_bl, truth_int, truth_lst, truth_tup, ix_t0, ix_t1, ix_t2, ix_t3, ix_t4, ix_l0, ix_l1, ix_l2, ix_l3, pd2_ix0, pd2_ix1, len_lst, len_tup, len_scr, ltD_int, eqD_int, eqD_bl, ne_int, ne_bl, cmpI_int, add_int, sub_int, mul_int, fdiv_int, mod_int, pow_int, shr_int, negI_int, asB_bl, asI_int, items_lst, items_tup, listOf_lst, listOf_tup, tupOf_lst, tupOf_tup, rangeOf_1, rangeOf_2, f1_1, f2_2, isNon_non, isNon_bl, isNon_int, isNon_tup, isNon_lst, e]) (by omega) fun q hq => ?_
  have e4 : pd2 (jn (x, y) q) = .tup [.int (max x q.1), .int (max y q.2)] := rfl
  show lcF _ _ _ _ (.tup [.int q.1, .int q.2]) = .ok (some (pd2 (jn (x, y) q)))
  rw [e4]
  simp [lcF, runFn, env0, outD, Py.execs, Py.exec, exec_for, ev, evs, evAnd, evOr, evPart, evTests, evIt, lift, view, mask, tst, bindT, Tgt.bind, setAll, O.f, appD, extD, putD, haveL, Cop.f, Bop.f, Bi.f, divOk, powOk, mulOk, log2_small, Cst.d, D.isTy, D.lf, D.lfs, D.lfItems, R.bind_assoc, List.foldl, truth_non, truth_bl, truth_int, truth_lst, truth_tup, ix_t0, ix_t1, ix_t2, ix_t3, ix_t4, ix_l0, ix_l1, ix_l2, ix_l3, pd2_ix0, pd2_ix1, len_lst, len_tup, len_scr, ltD_int, eqD_int, eqD_bl, ne_int, ne_bl, cmpI_int, add_int, sub_int, mul_int, fdiv_int, mod_int, pow_int, shr_int, negI_int, asB_bl, asI_int, items_lst, items_tup, listOf_lst, listOf_tup, tupOf_lst, tupOf_tup, rangeOf_1, rangeOf_2, f1_1, f2_2, isNon_non, isNon_bl, isNon_int, isNon_tup, isNon_lst, max2_ok]
theorem as0_body (AD BD CD : D) (acc l : List D) (x y : Int) (x6 x7 : Option D) (hl : acc.length + l.length ≤ 16777216) (e : Py.ev [] lc_law_asked_0 [some AD, some BD, some CD, some (.lst acc), some (.int x), some (.int y), x6, x7] = .ok (.lst l)) : Py.execs [] [] L_law_asked_0 [some AD, some BD, some CD, some (.lst acc), some (.int x), some (.int y), x6, x7] = .ok (.nx [some AD, some BD, some CD, some (.lst (acc ++ l)), some (.int x), some (.int y), x6, x7]) := by
  simp [L_law_asked_0, runFn, env0, outD, Py.execs, Py.exec, exec_for, ev, evs, evAnd, evOr, evPart, evTests, evIt, lift, view, mask, tst, bindT, Tgt.bind, setAll, O.f, appD, extD, putD, haveL, Cop.f, Bop.f, Bi.f, divOk, powOk, mulOk, log2_small, Cst.d, D.isTy, D.lf, D.lfs, D.lfItems, R.bind_assoc, List.foldl, truth_non, truth_bl, truth_int, truth_lst, truth_tup, ix_t0, ix_t1, ix_t2, ix_t3, ix_t4, ix_l0, ix_l1, ix_l2, ix_l3, pd2_ix0, pd2_ix1, len_lst, len_tup, len_scr, ltD_int, eqD_int, eqD_bl, ne_int, ne_bl, cmpI_int, add_int, sub_int, mul_int, fdiv_int, mod_int, pow_int, shr_int, negI_int, asB_bl, asI_int, items_lst, items_tup, listOf_lst, listOf_tup, tupOf_lst, tupOf_tup, rangeOf_1, rangeOf_2, f1_1, f2_2, isNon_non, isNon_bl, isNon_int, isNon_tup, isNon_lst, e, add_lst, hl]
theorem as1_body (AD BD CD : D) (acc : List D) (x y : Int) (x6 x7 : Option D) (hl : acc.length + 2 ≤ 16777216) : Py.execs [] [] L_law_asked_1 [some AD, some BD, some CD, some (.lst acc), some (.int x), some (.int y), x6, x7] = .ok (.nx [some AD, some BD, some CD, some (.lst (acc ++ [pd2 (max 0 (x - 1), y), pd2 (x, max 0 (y - 1))])), some (.int x), some (.int y), x6, x7]) := by
  simp [L_law_asked_1, runFn, env0, outD, Py.execs, Py.exec, exec_for, ev, evs, evAnd, evOr, evPart, evTests, evIt, lift, view, mask, tst, bindT, Tgt.bind, setAll, O.f, appD, extD, putD, haveL, Cop.f, Bop.f, Bi.f, divOk, powOk, mulOk, log2_small, Cst.d, D.isTy, D.lf, D.lfs, D.lfItems, R.bind_assoc, List.foldl, truth_non, truth_bl, truth_int, truth_lst, truth_tup, ix_t0, ix_t1, ix_t2, ix_t3, ix_t4, ix_l0, ix_l1, ix_l2, ix_l3, pd2_ix0, pd2_ix1, len_lst, len_tup, len_scr, ltD_int, eqD_int, eqD_bl, ne_int, ne_bl, cmpI_int, add_int, sub_int, mul_int, fdiv_int, mod_int, pow_int, shr_int, negI_int, asB_bl, asI_int, items_lst, items_tup, listOf_lst, listOf_tup, tupOf_lst, tupOf_tup, rangeOf_1, rangeOf_2, f1_1, f2_2, isNon_non, isNon_bl, isNon_int, isNon_tup, isNon_lst, add_lst, hl, max2_ok, pd2]
theorem as_ev (AD BD CD : D) (a b c s l m : List D) (x4 x5 x6 x7 y4 y5 y6 y7 : Option D) (ha : D.listOf AD = .ok (.lst a)) (hi : D.items AD = .ok a) (hb : D.listOf BD = .ok (.lst b)) (hl : a.length + b.length ≤ 1000) (hl2 : a.length + b.length + c.length ≤ 2000) (hs : s = a ++ b ++ c ++ [.tup [.int 0, .int 0]])
    (hg : forGo (.tp [4, 5]) (Py.execs [] [] L_law_asked_0) a [some AD, some BD, some (.lst c), some (.lst s), none, none, none, none] = .ok (.nx [some AD, some BD, some (.lst c), some (.lst l), x4, x5, x6, x7]))
    (hg2 : forGo (.tp [4, 5]) (Py.execs [] [] L_law_asked_1) l [some AD, some BD, some (.lst c), some (.lst l), x4, x5, x6, x7] = .ok (.nx [some AD, some BD, some (.lst c), some (.lst m), y4, y5, y6, y7])) : g_law_asked [AD, BD, .lst c] = .ok (.lst m) := by
  have z1 : a.length + b.length ≤ 16777216 := by omega
  have z2 : a.length + b.length + c.length ≤ 16777216 := by omega
  have z3 : a.length + b.length + c.length + 1 ≤ 16777216 := by omega
  have z4 : a.length + (b.length + c.length) ≤ 16777216 := by omega
  have z5 : a.length + (b.length + (c.length + 1)) ≤ 16777216 := by omega
  have z6 : a.length + (b.length + c.length) + 1 ≤ 16777216 := by omega
  subst hs
  rw [List.append_assoc, List.append_assoc] at hg
  simp [g_law_asked, b_law_asked, runFn, env0, outD, Py.execs, Py.exec, exec_for, ev, evs, evAnd, evOr, evPart, evTests, evIt, lift, view, mask, tst, bindT, Tgt.bind, setAll, O.f, appD, extD, putD, haveL, Cop.f, Bop.f, Bi.f, divOk, powOk, mulOk, log2_small, Cst.d, D.isTy, D.lf, D.lfs, D.lfItems, R.bind_assoc, List.foldl, truth_non, truth_bl, truth_int, truth_lst, truth_tup, ix_t0, ix_t1, ix_t2, ix_t3, ix_t4, ix_l0, ix_l1, ix_l2, ix_l3, pd2_ix0, pd2_ix1, len_lst, len_tup, len_scr, ltD_int, eqD_int, eqD_bl, ne_int, ne_bl, cmpI_int, add_int, sub_int, mul_int, fdiv_int, mod_int, pow_int, shr_int, negI_int, asB_bl, asI_int, items_lst, items_tup, listOf_lst, listOf_tup, tupOf_lst, tupOf_tup, rangeOf_1, rangeOf_2, f1_1, f2_2, isNon_non, isNon_bl, isNon_int, isNon_tup, isNon_lst, ha, hi, hb, add_lst, z1, z2, z3, z4, z5, z6, hg, hg2]
theorem asked_ok (a b c : List Pr) (ha : a.length ≤ 7) (hb : b.length ≤ 7) (hc : c.length ≤ 100) : ∃ q : List Pr, q.length ≤ 100000 ∧ g_law_asked [bordD a, bordD b, .lst (c.map pd2)] = .ok (.lst (q.map pd2)) := by
  obtain ⟨s, hs⟩ : ∃ s : List Pr, s = a ++ b ++ c ++ [(0, 0)] := ⟨_, rfl⟩
  have hsl : s.length ≤ 115 := by
    rw [hs]
    simp only [List.length_append, List.length_singleton]
    omega
  obtain ⟨ρ', e, l, x4, x5, x6, x7, rfl, hl⟩ := forGo_inv (t := .tp [4, 5]) (body := Py.execs [] [] L_law_asked_0) (enc := pd2) (fun done ρ => ∃ (l : List Pr) (x4 x5 x6 x7 : Option D), ρ = [some (bordD a), some (bordD b), some (.lst (c.map pd2)), some (.lst (l.map pd2)), x4, x5, x6, x7] ∧ l.length ≤ 115 + 7 * done.length) a [] (fun d p r e ρ hρ => by
    obtain ⟨l, x4, x5, x6, x7, rfl, hl⟩ := hρ
    have hdl : d.length ≤ a.length := by
      have := congrArg List.length e
      simp at this
      omega
    have g := as_lc (bordD a) (.lst (c.map pd2)) (.lst (l.map pd2)) b p.1 p.2 x6 x7 (by omega)
    have bd := as0_body _ _ _ _ _ p.1 p.2 x6 x7 (by rw [List.length_map, List.length_map, List.length_map]; omega) g
    exact ⟨[some (bordD a), some (bordD b), some (.lst (c.map pd2)), some (.lst (l.map pd2)), some (.int p.1), some (.int p.2), x6, x7], _, rfl, .inl bd, l ++ b.map (jn (p.1, p.2)), _, _, _, _, by rw [List.map_append], by simp only [List.length_append, List.length_map, List.length_singleton]; omega⟩) [some (bordD a), some (bordD b), some (.lst (c.map pd2)), some (.lst (s.map pd2)), none, none, none, none] ⟨s, none, none, none, none, rfl, by simp; omega⟩
  rw [List.nil_append] at hl
  obtain ⟨ρ2, e2, m, y4, y5, y6, y7, rfl, hm⟩ := forGo_inv (t := .tp [4, 5]) (body := Py.execs [] [] L_law_asked_1) (enc := pd2) (fun done ρ => ∃ (m : List Pr) (x4 x5 x6 x7 : Option D), ρ = [some (bordD a), some (bordD b), some (.lst (c.map pd2)), some (.lst (m.map pd2)), x4, x5, x6, x7] ∧ m.length ≤ l.length + 2 * done.length) l [] (fun d p r e ρ hρ => by
    obtain ⟨m, x4, x5, x6, x7, rfl, hm⟩ := hρ
    have hdl : d.length ≤ l.length := by
      have := congrArg List.length e
      simp at this
      omega
    have bd := as1_body (bordD a) (bordD b) (.lst (c.map pd2)) (m.map pd2) p.1 p.2 x6 x7 (by rw [List.length_map]; omega)
    exact ⟨[some (bordD a), some (bordD b), some (.lst (c.map pd2)), some (.lst (m.map pd2)), some (.int p.1), some (.int p.2), x6, x7], _, rfl, .inl bd, m ++ [(max 0 (p.1 - 1), p.2), (p.1, max 0 (p.2 - 1))], _, _, _, _, by rw [List.map_append]; rfl, by simp only [List.length_append, List.length_cons, List.length_nil, List.length_singleton]; omega⟩) [some (bordD a), some (bordD b), some (.lst (c.map pd2)), some (.lst (l.map pd2)), x4, x5, x6, x7] ⟨l, x4, x5, x6, x7, rfl, by simp⟩
  rw [List.nil_append] at hm
  refine ⟨m, by omega, as_ev (bordD a) (bordD b) (.lst (c.map pd2)) (a.map pd2) (b.map pd2) (c.map pd2) (s.map pd2) _ _ x4 x5 x6 x7 y4 y5 y6 y7 rfl rfl rfl (by simp; omega) (by simp; omega) ?_ e e2⟩
  rw [hs, List.map_append, List.map_append, List.map_append]
  rfl
abbrev fsK : Fns := [(2, g_t_law_cell), (1, g_law_least), (3, g_law_drawn), (2, g_both), (2, g_either), (1, g_law_is_border), (3, g_law_asked), (2, g_t_law_held)]
theorem l_body (S N AD BD CD JD PD : D) (x7 x8 : Option D) (u v : Bool) (ha : g_t_law_held [AD, PD] = .ok (.bl u)) (hb : g_t_law_held [BD, PD] = .ok (.bl v)) (hc : g_t_law_held [CD, PD] = .ok (.bl (u && v))) (hj : g_t_law_held [JD, PD] = .ok (.bl (u || v))) : Py.execs fsK [] L_law_0 [some S, some N, some AD, some BD, some CD, some JD, some PD, x7, x8] = .ok (.nx [some S, some N, some AD, some BD, some CD, some JD, some PD, some (.bl u), some (.bl v)]) := by
  cases u <;> cases v <;> simp [L_law_0, runFn, env0, outD, Py.execs, Py.exec, exec_for, ev, evs, evAnd, evOr, evPart, evTests, evIt, lift, view, mask, tst, bindT, Tgt.bind, setAll, O.f, appD, extD, putD, haveL, Cop.f, Bop.f, Bi.f, divOk, powOk, mulOk, log2_small, Cst.d, D.isTy, D.lf, D.lfs, D.lfItems, R.bind_assoc, List.foldl, truth_non, truth_bl, truth_int, truth_lst, truth_tup, ix_t0, ix_t1, ix_t2, ix_t3, ix_t4, ix_l0, ix_l1, ix_l2, ix_l3, pd2_ix0, pd2_ix1, len_lst, len_tup, len_scr, ltD_int, eqD_int, eqD_bl, ne_int, ne_bl, cmpI_int, add_int, sub_int, mul_int, fdiv_int, mod_int, pow_int, shr_int, negI_int, asB_bl, asI_int, items_lst, items_tup, listOf_lst, listOf_tup, tupOf_lst, tupOf_tup, rangeOf_1, rangeOf_2, f1_1, f2_2, isNon_non, isNon_bl, isNon_int, isNon_tup, isNon_lst, ha, hb, hc, hj]
theorem law_ev (S AD BD CD JD W1 W2 W3 : D) (n a1 a2 : Int) (c j q l : List D) (x6 x7 x8 : Option D) (hn : g_t_law_cell [S, .int 1] = .ok (.int n)) (f1 : D.fdiv (.int n) (.int 16) = .ok (.int (n / 16))) (m1 : D.mod (.int n) (.int 16) = .ok (.int a1)) (m2 : D.mod (.int (n / 16)) (.int 16) = .ok (.int a2)) (d1 : g_law_drawn [S, .int 3, .int a1] = .ok W1) (d2 : g_law_drawn [S, .int 18, .int a2] = .ok W2) (d3 : g_law_drawn [S, .int 33, .int 20] = .ok W3) (b1 : g_law_least [W1] = .ok AD) (b2 : g_law_least [W2] = .ok BD)
    (hc : g_both [AD, BD] = .ok CD) (hj : g_either [AD, BD] = .ok JD) (hc2 : g_both [BD, AD] = .ok CD) (hj2 : g_either [BD, AD] = .ok JD) (i1 : g_law_is_border [CD] = .ok (.bl true)) (i2 : g_law_is_border [JD] = .ok (.bl true)) (hq : g_law_asked [AD, BD, W3] = .ok (.lst q)) (lc : D.listOf CD = .ok (.lst c)) (lj : D.listOf JD = .ok (.lst j)) (z1 : c.length + j.length ≤ 2000) (z2 : q.length ≤ 200000) (hl : l = c ++ j ++ q)
    (hg : forGo (.nm 6) (Py.execs fsK [] L_law_0) l [some S, some (.int n), some AD, some BD, some CD, some JD, none, none, none] = .ok (.nx [some S, some (.int n), some AD, some BD, some CD, some JD, x6, x7, x8])) (q1 : D.eq CD CD = .ok (.bl true)) (q2 : D.eq JD JD = .ok (.bl true)) : g_law [S] = .ok (.bl true) := by
  subst hl
  rw [List.append_assoc] at hg
  have z3 : c.length + j.length ≤ 16777216 := by omega
  have z4 : c.length + j.length + q.length ≤ 16777216 := by omega
  have z5 : c.length + (j.length + q.length) ≤ 16777216 := by omega
  simp [g_law, b_law, runFn, env0, outD, Py.execs, Py.exec, exec_for, ev, evs, evAnd, evOr, evPart, evTests, evIt, lift, view, mask, tst, bindT, Tgt.bind, setAll, O.f, appD, extD, putD, haveL, Cop.f, Bop.f, Bi.f, Cst.d, D.isTy, D.lf, D.lfs, D.lfItems, R.bind_assoc, List.foldl, truth_non, truth_bl, truth_int, truth_lst, truth_tup, ix_t0, ix_t1, ix_t2, ix_t3, ix_t4, ix_l0, ix_l1, ix_l2, ix_l3, pd2_ix0, pd2_ix1, len_lst, len_tup, len_scr, ltD_int, eqD_int, eqD_bl, ne_int, ne_bl, cmpI_int, add_int, sub_int, shr_int, negI_int, asB_bl, asI_int, items_lst, items_tup, listOf_lst, listOf_tup, tupOf_lst, tupOf_tup, rangeOf_1, rangeOf_2, f1_1, f2_2, isNon_non, isNon_bl, isNon_int, isNon_tup, isNon_lst, hn, f1, m1, m2, d1, d2, d3, b1, b2, hc, hj, hc2, hj2, i1, i2, hq, lc, lj, add_lst, z3, z4, z5, hg, q1, q2]
theorem ris_ext (b c : List Pr) (hb : Py.Ris b) (hc : Py.Ris c) (h : ∀ r, hld b r = hld c r) : b = c := by
  have sub : ∀ {b c : List Pr}, Py.Ris b → (∀ r, hld b r = hld c r) → ∀ e ∈ b, e ∈ c := fun {b c} hb h e he => by
    have h1 : hld c e = true := by
      rw [← h e]
      exact hld_iff.mpr ⟨e, he, Int.le_refl _, Int.le_refl _⟩
    obtain ⟨l, hl, a1, a2⟩ := hld_iff.mp h1
    have h2 : hld b l = true := by
      rw [h l]
      exact hld_iff.mpr ⟨l, hl, Int.le_refl _, Int.le_refl _⟩
    obtain ⟨m, hm, b1, b2⟩ := hld_iff.mp h2
    have e1 : m = e := ris_eq hb hm he (by omega) (by omega)
    rw [e1] at b1 b2
    have : l = e := Prod.ext (by omega) (by omega)
    rw [← this]
    exact hl
  have nd : ∀ {b : List Pr}, Py.Ris b → b.Nodup := fun {b} hb => List.Pairwise.imp (fun {x y} h (e : x = y) => by
    subst e
    exact absurd h.1 (Int.lt_irrefl _)) hb
  have pm : b.Perm c := (List.perm_ext_iff_of_nodup (nd hb) (nd hc)).mpr fun e => ⟨sub hb h e, sub hc (fun r => (h r).symm) e⟩
  exact pm.eq_of_pairwise (le := fun a b : Pr => a.1 < b.1) (fun x y _ _ h1 h2 => absurd h1 (by omega)) (hb.imp fun h => h.1) (hc.imp fun h => h.1)
theorem law_ok (ns : List Int) (hn : ns.length ≤ 63) : g_law [.scr ns] = .ok (.bl true) := by
  obtain ⟨N, hN, hx⟩ := most_ok ns
  obtain ⟨a1, ha1⟩ := Int.eq_ofNat_of_zero_le (Int.emod_nonneg (cell ns 1) (show (16 : Int) ≠ 0 by decide))
  obtain ⟨a2, ha2⟩ := Int.eq_ofNat_of_zero_le (Int.emod_nonneg (cell ns 1 / 16) (show (16 : Int) ≠ 0 by decide))
  have l1 := Int.emod_lt_of_pos (cell ns 1) (show (0 : Int) < 16 by decide)
  have l2 := Int.emod_lt_of_pos (cell ns 1 / 16) (show (0 : Int) < 16 by decide)
  obtain ⟨w1, u1, v1, d1⟩ := drawn_ok ns N hN hx 3 a1 (by omega)
  obtain ⟨w2, u2, v2, d2⟩ := drawn_ok ns N hN hx 18 a2 (by omega)
  obtain ⟨w3, u3, v3, d3⟩ := drawn_ok ns N hN hx 33 20 (by omega)
  obtain ⟨a, ar, as, ae⟩ := least_b w1 (by omega)
  obtain ⟨b, br, bs, be⟩ := least_b w2 (by omega)
  have al := few7 hN ar fun f hf => v1 f (as f hf)
  have bl := few7 hN br fun f hf => v2 f (bs f hf)
  obtain ⟨c, cr, cl, ch, ce⟩ := both_ok a b al bl
  obtain ⟨c', cr', cl', ch', ce'⟩ := both_ok b a bl al
  obtain ⟨j, jr, jl, jh, je⟩ := either_ok a b al bl
  obtain ⟨j', jr', jl', jh', je'⟩ := either_ok b a bl al
  have ec : c' = c := ris_ext _ _ cr' cr fun r => by rw [ch, ch', Bool.and_comm]
  have ej : j' = j := ris_ext _ _ jr' jr fun r => by rw [jh, jh', Bool.or_comm]
  subst ec ej
  obtain ⟨q, ql, qe⟩ := asked_ok a b w3 al bl (by omega)
  obtain ⟨ρ', e, x6, x7, x8, rfl⟩ := forGo_inv (t := .nm 6) (body := Py.execs fsK [] L_law_0) (enc := pd2) (fun done ρ => ∃ x6 x7 x8, ρ = [some (.scr ns), some (.int (cell ns 1)), some (bordD a), some (bordD b), some (bordD c'), some (bordD j'), x6, x7, x8]) (c' ++ j' ++ q) [] (fun d p r e ρ hρ => by
    obtain ⟨x6, x7, x8, rfl⟩ := hρ
    have hc := heldB_ok c' p
    rw [ch] at hc
    have hj := heldB_ok j' p
    rw [jh] at hj
    exact ⟨_, _, rfl, .inl (l_body _ _ _ _ _ _ (pd2 p) x7 x8 _ _ (heldB_ok a p) (heldB_ok b p) hc hj), _, _, _, rfl⟩) [some (.scr ns), some (.int (cell ns 1)), some (bordD a), some (bordD b), some (bordD c'), some (bordD j'), none, none, none] ⟨none, none, none, rfl⟩
  have eqc := bord_eq c' c'
  rw [decide_eq_true rfl] at eqc
  have eqj := bord_eq j' j'
  rw [decide_eq_true rfl] at eqj
  exact law_ev (.scr ns) (bordD a) (bordD b) (bordD c') (bordD j') _ _ _ (cell ns 1) a1 a2 (c'.map pd2) (j'.map pd2) (q.map pd2) _ x6 x7 x8 (cell_ok ns 1) (fdiv_ok (by decide) (by decide)) (by rw [mod_ok (by decide), ha1]) (by rw [mod_ok (by decide), ha2]) d1 d2 d3 ae be ce je ce' je' (ib_ok _ cr cl) (ib_ok _ jr jl) qe rfl rfl (by simp; omega) (by simp; omega) (by rw [List.map_append, List.map_append]) e eqc eqj
end Py_k13
open PySem PySem.W PyProof.Rows
set_option maxHeartbeats 0 in
theorem PySem.Challenge.cw_purseborder_k13_borders_together_holds : PySem.Challenge.rw_purseborder_k13_borders_together.Holds := by
  w_on; o_law; k_head; (case hw => w_witness2)
  k_fill
  refine L2.walk_of (l := PySem.Challenge.rw_purseborder_k13_borders_together) (n := 63) (k := 5) (x := "_law_script") (CX := fun w => L2.CX PySem.Challenge.rw_purseborder_k13_borders_together.prog w) (sp := fun w => Py.spL _ 63) rfl (by decide) rfl ⟨rfl, by decide, by decide⟩ (fun w h Y => PySem.W.kIn_of Y) ?F (fun _ _ a ns hl hO hS => ⟨a, ns, rfl, hl, hO, hS, fun _ => rfl⟩) (fun _ _ _ _ _ h => Py.cx_never h)
  case F =>
    intro w mg fa h KX G hmg
    refine' Py_k13.all_ok KX G hmg ?h_law_cell ?h_law_held ?h_law_least ?h_law_drawn ?h_at_or_above ?h_holds ?h_least_pairs ?h_both ?h_either ?h_law_whole ?h_law_is_border ?h_law_asked ?h_law ?z_len ?z_sorted ?z_tuple ?z_range ?z_set ?z_max ?z_list ?z_isinstance ?z_int ?z_bool Py_k13.law_ok
    (case h_law_cell => (refine' Py.fact_mk ?a ?l ?c ?k; (case a => k_is); (case l => k_is); (case c => k_is); (case k => k_is)))
    (case h_law_held => (refine' Py.fact_mk ?a ?l ?c ?k; (case a => k_is); (case l => k_is); (case c => k_is); (case k => k_is)))
    (case h_law_least => (refine' Py.fact_mk ?a ?l ?c ?k; (case a => k_is); (case l => k_is); (case c => k_is); (case k => k_is)))
    (case h_law_drawn => (refine' Py.fact_mk ?a ?l ?c ?k; (case a => k_is); (case l => k_is); (case c => k_is); (case k => k_is)))
    (case h_at_or_above => (refine' Py.fact_mk ?a ?l ?c ?k; (case a => k_is); (case l => k_is); (case c => k_is); (case k => k_is)))
    (case h_holds => (refine' Py.fact_mk ?a ?l ?c ?k; (case a => k_is); (case l => k_is); (case c => k_is); (case k => k_is)))
    (case h_least_pairs => (refine' Py.fact_mk ?a ?l ?c ?k; (case a => k_is); (case l => k_is); (case c => k_is); (case k => k_is)))
    (case h_both => (refine' Py.fact_mk ?a ?l ?c ?k; (case a => k_is); (case l => k_is); (case c => k_is); (case k => k_is)))
    (case h_either => (refine' Py.fact_mk ?a ?l ?c ?k; (case a => k_is); (case l => k_is); (case c => k_is); (case k => k_is)))
    (case h_law_whole => (refine' Py.fact_mk ?a ?l ?c ?k; (case a => k_is); (case l => k_is); (case c => k_is); (case k => k_is)))
    (case h_law_is_border => (refine' Py.fact_mk ?a ?l ?c ?k; (case a => k_is); (case l => k_is); (case c => k_is); (case k => k_is)))
    (case h_law_asked => (refine' Py.fact_mk ?a ?l ?c ?k; (case a => k_is); (case l => k_is); (case c => k_is); (case k => k_is)))
    (case h_law => (refine' Py.fact_mk ?a ?l ?c ?k; (case a => k_is); (case l => k_is); (case c => k_is); (case k => k_is)))
    (case z_len => k_is)
    (case z_sorted => k_is)
    (case z_tuple => k_is)
    (case z_range => k_is)
    (case z_set => k_is)
    (case z_max => k_is)
    (case z_list => k_is)
    (case z_isinstance => k_is)
    (case z_int => k_is)
    (case z_bool => k_is)
