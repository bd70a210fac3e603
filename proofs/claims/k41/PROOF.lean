import PyProof.Rows.All
import Wide.All
import OpenK.AllK
import Wide.FinOn
import HandS.ForMost
import HandS.ForExc
import HandS.Wide
import HandS.Flow
import HandS.Evl
import HandS.ExcInit
import HandS.IsInst
import KE.KExcIs
import HandS.ExcField
import HandS.TupAny
import HandS.TupLe
import HandS.Deep
import HandS.AnyAll
import KE.DataCmp
import KE.SortData
import KE.DataMinMax
import HandS.SortKw
import HandS.Conv
import HandS.Iter
import HandS.TupSets
import PySem.Challenge.RW_purseborder_k41_borders_told
set_option Elab.async false
set_option linter.all false
set_option maxRecDepth 100000
set_option maxHeartbeats 4000000
namespace Py
open PySem PySem.Spec PyProof.Rows L2

/-! ## a caught exception that stays -/
/-- at a: an exception of that class, its dict -/
def exk (cls : Value) (d : Option Addr) (a : Addr) : HO := .ext fun h => ∃ (oe : Obj) (vs : Array Value), h.get? a = some oe ∧ Zc cls d oe ∧ oe.data = .fields vs
theorem exk_ok {P : Program} {w : World} {H : Hp} {h : Heap} {a : Addr} {cls : Value} {d : Option Addr} {oe : Obj} {vs : Array Value} (he : h.get? a = some oe) (hz : Zc cls d oe) (hd : oe.data = .fields vs) : ObjOk P w H h a (exk cls d a) :=
  ⟨⟨oe, vs, he, hz, hd⟩, ⟨oe, he⟩, fun h1 h2 z k => by
    obtain ⟨o, v, q1, q2, q3⟩ := z
    exact ⟨o, v, k o q1, q2, q3⟩⟩
theorem exk_at {P : Program} {w : World} {H : Hp} {h : Heap} {a : Addr} {cls : Value} {d : Option Addr} (hok : HOk P w H h) (he : H a = some (exk cls d a)) : ∃ (oe : Obj) (vs : Array Value), h.get? a = some oe ∧ Zc cls d oe ∧ oe.data = .fields vs := by
  have x : ObjOk P w H h a (.ext fun h => ∃ (oe : Obj) (vs : Array Value), h.get? a = some oe ∧ Zc cls d oe ∧ oe.data = .fields vs) := hok a _ he
  exact x.1
theorem exk_lst {cls : Value} {d : Option Addr} {a : Addr} (xs : List V) : exk cls d a ≠ .lst xs := fun z => by
  have z' : HO.ext _ = HO.lst xs := z
  cases z'
/-- an untracked object of this call's own is tracked -/
theorem track {X : Cx} {pins : List (Addr × Obj)} {σ : L2.St} {H : Hp} {s : Shared} {a : Addr} {oe : Obj} {o : HO} (I : Inv X ((a, oe) :: pins) σ H s) (hn : X.s_0.heap.get? a = none) (hp : ∀ p ∈ X.pn ++ pins, p.1 ≠ a) (new : ObjOk X.prog X.w (upd H a o) s.heap a o) : Inv X pins σ (upd H a o) s := by
  obtain ⟨p1, p2, p3, p4, p5⟩ := I.pin (a, oe) (List.mem_append_right _ List.mem_cons_self)
  simp only at p1 p2 p3 p4 p5
  have ne0 : ∀ {b : Addr} {u : Obj}, X.s_0.heap.get? b = some u → b ≠ a := fun {b u} q z => by rw [z, hn] at q; cases q
  have neH : ∀ {b : Addr} {u : HO}, H b = some u → b ≠ a := fun {b u} q z => by rw [z, p2] at q; cases q
  refine ⟨I.ok, I.os, I.bare, ⟨I.base.keep, I.base.slot, fun b u q n x => ?_, I.base.there, fun b xs q => ?_, fun b ob u q => ?_, fun b ps q => ?_⟩, I.loc, I.cell, ?_, fun x c q => ?_, fun p hm => ?_, fun b u q => ?_, I.len⟩
  · rw [upd_ne (ne0 q)]
    exact I.base.free b u q n x
  · have := I.base.tups b xs q
    rw [upd_ne (neH this)]
    exact this
  · have := I.base.frzs b ob u q
    rw [upd_ne (neH this)]
    exact this
  · obtain ⟨more, this⟩ := I.base.tbls b ps q
    refine ⟨more, ?_⟩
    rw [upd_ne (neH this)]
    exact this
  · rw [upd_ne (Ne.symm p3)]
    exact I.free
  · have hc : c ≠ a := fun z => by
      obtain ⟨v, ob, e1, e2⟩ := I.cell x c q
      rw [z, p1] at e1
      cases e1
      exact p5 _ e2
    rw [upd_ne hc]
    exact I.freeC x c q
  · have hm' : p ∈ X.pn ++ (a, oe) :: pins := by
      rcases List.mem_append.mp hm with hm | hm
      · exact List.mem_append_left _ hm
      · exact List.mem_append_right _ (List.mem_cons_of_mem _ hm)
    obtain ⟨q1, q2, q3, q4, q5⟩ := I.pin p hm'
    refine ⟨q1, ?_, q3, q4, q5⟩
    rw [upd_ne (hp p hm)]
    exact q2
  · by_cases hb : b = a
    · subst hb
      rw [upd_same] at q
      cases q
      exact new
    · rw [upd_ne hb] at q
      exact (I.hok b u q).stay (fun _ _ _ r => r) (fun c e => by rw [upd_ne (neH e)]; exact e) fun c xs e => by rw [upd_ne (neH e)]; exact e
/-! ## try: .. except X as n: y = n -/
/-- what the clause wishes: slot i is n's, slot j is y's -/
def wKeep (K : PySem.W.Frag) (c : Value) (i j : Nat) (Wout : WX) (D : Ends) : WX := fun cls d σ H =>
  ∃ b, PySem.W.exmOne K cls c = some b ∧ (b = true → ∀ a, H a = none → D.nx (((σ.set i (some (.ref a))).set j (some (.ref a))).set i none) (upd H a (exk cls d a))) ∧ (b = false → Wout cls d σ H)
section
variable {X : Cx} {x n y : Str} {c : Value} {i j : Nat} {body : List Stmt} {np ep yp ap pos pos' : Pos} {tb : WX → TS} {Wout : WX}
theorem ps_try_keep (hs : X.stack = X.env :: X.outer) (hf : X.env.frame = some X.env.locals) (hex : X.ex = []) (hN : X.N.Nodup) (hi : X.N[i]? = some n) (hln : X.env.kindOf n = some .local) (hj : X.N[j]? = some y) (hlj : Loc X.env.scope y) (hfj : X.fn y = true) (hc : Names X x c) (tk : Takes X Wout)
    (hnd : (n == ("__debug__" : Str)) = false) (hnc : (n == ("__classdict__" : Str)) = false)
    (hb : ∀ (W : WX) (pn : List (Addr × Obj)) (xe : Value → Shared → Prop), Takes (X.tr pn xe) W → PassesOwn (model X.prog X.w) X.A X.env xe → PSs (X.tr pn xe) body (tb W)) :
    PS X (.Try body [.ExceptHandler (some (.Name x np)) (some n) [.Assign [.Name y yp] (.Name n ep) ap] pos'] [] [] pos) (fun D σ H => tb (wKeep X.K c i j Wout D) D σ H) := by
  refine ⟨fun pins s σ H D I h => ?_⟩
  have ok := I.ok
  have hfr : X.A.frames = some (X.env :: X.outer) := by rw [ok.frames, hs]
  have hloc : Loc X.env.scope n := .inl hln
  refine wpAny_Try_except ?_
  refine wpAny_mono ((hb (wKeep X.K c i j Wout D) (X.pn ++ pins) (fun e s₁ => wpAny (model X.prog X.w) X.A (noteFrame e X.env) (fun _ s₂ => wpAny (model X.prog X.w) X.A (setFlight e none) (fun _ s₃ =>
    wpAny (model X.prog X.w) X.A (handleBy e X.env [.ExceptHandler (some (.Name x np)) (some n) [.Assign [.Name y yp] (.Name n ep) ap] pos']) (SP X pins D) X.xe s₃) X.xe s₂) X.xe s₁) (fun u s' xx => ?_) PassesOwn.looking).run [] s σ H D (I.toTry _) h) (fun f s1 hsp => ?_) (fun e s1 he => he)
  · -- the catch
    obtain ⟨a, B, sI, pins', σ', H', cls, d, rfl, J', nb, up, sky, na, os, ag, b, hb1, hyes, hno⟩ := xx
    have J : Inv X pins σ' H' sI := J'.ofTry ok
    have sky' : Sky B (X.env :: X.outer) a (Zc cls d) X.env.locals s'.heap := by rw [← hs]; exact sky
    show wpAny (model X.prog X.w) X.A (noteFrame (.ref a) X.env) _ _ _
    refine Sky.land Zc.steady hfr hf sky' fun h3 fl3 up3 => ?_
    have J3 : Inv X pins σ' H' { s' with heap := h3 } := J.landed nb fl3.1 (up.trans up3) os ag
    obtain ⟨oe3, vs3, he3, hz3, hd3⟩ := fl3.there
    have notFr : ∀ {h : Heap} {o : Obj} {vs : Array Value}, h.FunFrames B (X.env :: X.outer) → h.get? a = some o → o.data = .fields vs → a ∉ frs (X.env :: X.outer) := fun {h o vs} ff e dd hm => by
      obtain ⟨_, o', e', hnf⟩ := ff.mem hm
      rw [e] at e'; cases e'
      exact hnf _ dd
    have nfr := notFr fl3.2.2.1 he3 hd3
    have nL : a ≠ X.env.locals := fun z => nfr (List.mem_filterMap.mpr ⟨X.env, List.mem_cons_self, by rw [hf, z]⟩)
    have nF : a ∉ X.fs := fun hm => by
      obtain ⟨e, he, q⟩ := List.mem_filterMap.mp hm
      exact nfr (List.mem_filterMap.mpr ⟨e, List.mem_cons_of_mem _ he, q⟩)
    have hB : B.get? a = none := fl3.2.1
    have hsI : sI.heap.get? a = none := by
      cases q : sI.heap.get? a with
      | none => rfl
      | some o =>
        have := nb a o q (by rw [hs]; exact nfr)
        rw [hB] at this
        cases this
    have hs0 : X.s_0.heap.get? a = none := by
      cases q : X.s_0.heap.get? a with
      | none => rfl
      | some o =>
        obtain ⟨o', e'⟩ := J.base.there a o q (by rw [hex]; simp)
        rw [hsI] at e'
        cases e'
    have hpn : ∀ p ∈ X.pn ++ pins, p.1 ≠ a := fun p hp z => by
      have := (J.pin p hp).1
      rw [z, hsI] at this
      cases this
    have S3 := J3.suite he3 hd3 na nL nF
    refine wpAny_handleBy_cons (codeAny_handlers_test ?_) (by intro q; cases q)
    have LT : PySem.W.Looks (model X.prog X.w) h3 (typeOf (.ref a)) cls := fun A Q E s k q => wpAny_typeOf_ref (k _ _ he3) (by rw [hz3.1]; exact q)
    have LM := PySem.W.exm_one (M := model X.prog X.w) (J3.kIn) LT hb1
    have test : ∀ {Q : Value → Shared → Prop} {E : Value → Shared → Prop}, Q c { s' with heap := h3 } → wpAny (model X.prog X.w) (X.A.mark (some (.ref a))) (eval (.Name x np) X.env) Q E { s' with heap := h3 } := fun {Q E} q => by
      obtain ⟨hg, hdbg, hm | ⟨hm, hv, hnn⟩⟩ := hc
      · exact ld_glob (X := X.suite a ((a, oe3) :: (X.pn ++ pins))) S3 hg hm q hdbg
      · exact ld_blt (X := X.suite a ((a, oe3) :: (X.pn ++ pins))) S3 hg hm hv q hnn hdbg
    refine test (LM.here ?_)
    cases b with
    | true =>
      refine codeAny_handlers_suite_as ?_
      refine HandSPX.lands_againZ fl3 fun h4 fl4 up4 => ?_
      have J4 : Inv X pins σ' H' { s' with heap := h4 } := J.landed nb fl4.1 ((up.trans up3).trans up4) os ag
      obtain ⟨oe4, vs4, he4, hz4, hd4⟩ := fl4.there
      have S4 := J4.suite he4 hd4 na nL nF
      refine store_ok (X := X.suite a ((a, oe4) :: (X.pn ++ pins))) (v := .ref a) S4 hN hi hloc rfl (fun s5 S5 => ?_) (.inr hln)
      have suite : PSs (X.suite a ((a, oe4) :: (X.pn ++ pins))) [.Assign [.Name y yp] (.Name n ep) ap] (tAsg (tVar i) (gName j)) :=
        pss_one (ps_set (X := X.suite a ((a, oe4) :: (X.pn ++ pins))) hN hj hlj (pe_var (X := X.suite a ((a, oe4) :: (X.pn ++ pins))) hi (.inl hln) hnd hnc) (by rfl) (.inl hfj))
      have hil : i < σ'.length := by
        rw [J4.len]
        exact (List.getElem?_eq_some_iff.mp hi).1
      refine wpAny_mono (suite.run [] s5 _ H' ⟨fun σ6 H6 => σ6 = (σ'.set i (some (.ref a))).set j (some (.ref a)) ∧ H6 = H', fun _ _ => False, fun _ _ => False, fun _ _ => False⟩ S5 ⟨.ref a, by rw [List.getElem?_set_self hil], rfl, rfl⟩) (fun f s6 hsp => ?_) (fun _ _ z => False.elim z)
      cases f with
      | next =>
        obtain ⟨σ6, H6, S6, rfl, rfl⟩ := hsp
        have S7 : Inv X ((a, oe4) :: pins) ((σ'.set i (some (.ref a))).set j (some (.ref a))) H6 s6 :=
          ⟨ok, S6.os, S6.bare, S6.base, S6.loc, S6.cell, S6.free, S6.freeC, fun p hp => S6.pin p (by
            rw [List.append_nil]
            rcases List.mem_append.mp hp with hp | hp
            · exact List.mem_cons_of_mem _ (List.mem_append_left _ hp)
            · rcases List.mem_cons.mp hp with rfl | hp
              · exact List.mem_cons_self
              · exact List.mem_cons_of_mem _ (List.mem_append_right _ hp)), S6.hok, S6.len⟩
        refine gone_ok S7 hN hi hln fun s7 J7 => ?_
        have hg : s7.heap.get? a = some oe4 := (J7.pin (a, oe4) (List.mem_append_right _ List.mem_cons_self)).1
        exact ⟨_, _, track J7 hs0 hpn (exk_ok hg hz4 hd4), hyes rfl a na⟩
      | brk => obtain ⟨σ6, H6, S6, q6⟩ := hsp; exact q6.elim
      | cont => obtain ⟨σ6, H6, S6, q6⟩ := hsp; exact q6.elim
      | ret u => obtain ⟨v6, σ6, H6, S6, r6, q6⟩ := hsp; exact q6.elim
    | false =>
      show wpAny _ X.A (handleBy (.ref a) X.env []) _ _ _
      refine wpAny_handleBy_nil ?_
      obtain ⟨k1, k2, k3, oe, vs, T, oT, ts', he, hz, hd, h1, hr⟩ := id fl3
      unfold PySem.passOn
      refine wpAny_bind (wpAny_field he hd h1 ?_)
      rw [if_neg (show ¬ ((Value.ref T == Value.none) = true) from by simp)]
      have fin : wpAny (model X.prog X.w) X.A (setFlight (.ref a) X.env.frame) (fun _ s4 => wpAny (model X.prog X.w) X.A (throw (.ref a) : Sem Flow) (SP X pins D) X.xe s4) X.xe { s' with heap := h3 } := by
        rw [hf]
        refine HandSPX.setFlight_upZ fl3 fun h4 hh4 up4 => wpAny_throw (tk _ _ ?_)
        exact ⟨a, B, sI, pins, σ', H', cls, d, rfl, J, nb, (up.trans up3).trans up4, .inr (.inr (by rw [hs]; exact hh4)), na, os, ag, hno rfl⟩
      first
        | exact wpAny_bind (wpAny_pure (wpAny_bind fin))
        | exact wpAny_bind fin
  · cases f with
    | next =>
      obtain ⟨σ', H', J', q⟩ := hsp
      exact wpAny_execs_nil ⟨σ', H', J'.ofTry ok, q⟩
    | brk =>
      obtain ⟨σ', H', J', q⟩ := hsp
      exact ⟨σ', H', J'.ofTry ok, q⟩
    | cont =>
      obtain ⟨σ', H', J', q⟩ := hsp
      exact ⟨σ', H', J'.ofTry ok, q⟩
    | ret u =>
      obtain ⟨v, σ', H', J', r, q⟩ := hsp
      exact ⟨v, σ', H', J'.ofTry ok, r, q⟩
end
end Py

namespace Py
open PySem PySem.Spec PyProof.Rows L2

/-! ## the exception classes: PurseError and those over it -/
def exFld (c : Str) : Option (Option Str) :=
  if c = "NoFloor" then some none else if c = "NoMore" then some none else if c = "NoPlace" then some (some "place") else if c = "NoPair" then some (some "pair")
  else if c = "NoWay" then some (some "way") else if c = "NoChange" then some (some "times") else if c = "NoCount" then some (some "told") else if c = "NoName" then some (some "name")
  else if c = "NoRow" then some (some "row") else none
/-- what the written part says of an exception class -/
def exB (K : PySem.W.Frag) (B : Addr) (C : Addr) : Bool :=
  ((PySem.W.clsIn K C).isSome && xfB K C && (PySem.W.findIn K (.ref C) "__class__" == some (some (.builtin "object.__class__"))) && (PySem.W.mroIn K C (.type "object") == some true)) &&
  ((PySem.W.keepIn K (.ref C)) && (PySem.W.typeIn K (.ref C) == some (.type "type")) && (PySem.W.findIn K (.ref C) "__setattr__" == some (some (.builtin "object.__setattr__")))) &&
  ((PySem.W.kitOne K (.ref C) (.type "int") == some false) && (PySem.W.kitOne K (.ref C) (.type "bool") == some false) && (PySem.W.kitOne K (.ref C) (.type "str") == some false) && (PySem.W.kitOne K (.ref C) (.type "tuple") == some false) && (PySem.W.kitOne K (.ref C) (.type "list") == some false)) &&
  ((PySem.W.kitOne K (.ref C) (.type "ValueError") == some true) && (PySem.W.kitOne K (.ref C) (.ref B) == some true) && (PySem.W.exmOne K (.ref C) (.ref B) == some true)) &&
  ((PySem.W.specialIn K (.builtin "object.__class__") "__get__" == some (some (.builtin "getset_descriptor.__get__"))) && (PySem.W.takesIn K (.builtin "object.__class__") == some true))
structure ExC (K : PySem.W.Frag) (B C : Addr) : Prop where
  cl : (PySem.W.clsIn K C).isSome = true
  xf : XfC K C
  ca : PySem.W.findIn K (.ref C) "__class__" = some (some (.builtin "object.__class__"))
  mo : PySem.W.mroIn K C (.type "object") = some true
  kC : PySem.W.keepIn K (.ref C) = true
  ty : PySem.W.typeIn K (.ref C) = some (.type "type")
  sa : PySem.W.findIn K (.ref C) "__setattr__" = some (some (.builtin "object.__setattr__"))
  tI : PySem.W.kitOne K (.ref C) (.type "int") = some false
  tB : PySem.W.kitOne K (.ref C) (.type "bool") = some false
  tS : PySem.W.kitOne K (.ref C) (.type "str") = some false
  tT : PySem.W.kitOne K (.ref C) (.type "tuple") = some false
  tL : PySem.W.kitOne K (.ref C) (.type "list") = some false
  tV : PySem.W.kitOne K (.ref C) (.type "ValueError") = some true
  tP : PySem.W.kitOne K (.ref C) (.ref B) = some true
  ex : PySem.W.exmOne K (.ref C) (.ref B) = some true
  sp : PySem.W.specialIn K (.builtin "object.__class__") "__get__" = some (some (.builtin "getset_descriptor.__get__"))
  tk : PySem.W.takesIn K (.builtin "object.__class__") = some true
theorem exB_ok {K : PySem.W.Frag} {B C : Addr} (h : exB K B C = true) : ExC K B C := by
  unfold exB at h
  simp only [Bool.and_eq_true, beq_iff_eq] at h
  obtain ⟨⟨⟨⟨⟨⟨⟨a1, a2⟩, a3⟩, a4⟩, ⟨⟨b1, b2⟩, b3⟩⟩, ⟨⟨⟨⟨c1, c2⟩, c3⟩, c4⟩, c5⟩⟩, ⟨⟨d1, d2⟩, d3⟩⟩, ⟨e1, e2⟩⟩ := h
  exact ⟨a1, xfB_ok a2, a3, a4, b1, b2, b3, c1, c2, c3, c4, c5, d1, d2, d3, e1, e2⟩
/-- .. that has its own __init__ -/
def oexB (K : PySem.W.Frag) (C : Addr) : Bool := match K.lookup C with
  | some ⟨.type "type", _, .cls cd, sl⟩ => (match cd.mro, sl.toList with
    | .ref C' :: bm, [_, _, _, _, some (.builtin n), _] => C' == C && n == "ValueError.__new__" && !cd.hasDel && cd.hasDict && PySem.HandSPX.refsVE bm
    | _, _ => false)
  | _ => false
theorem oexB_ok {K : PySem.W.Frag} {B C : Addr} (h : oexB K C = true) (T : ExC K B C) : OexC K C := by
  refine ⟨?_, T.sa, T.xf.exC, T.ty, T.kC⟩
  unfold oexB at h
  split at h
  · rename_i dd cd sl ho
    split at h
    · rename_i C' bm k0 k1 k2 k3 n k5 hm hs
      simp only [Bool.and_eq_true, beq_iff_eq, Bool.not_eq_true'] at h
      obtain ⟨⟨⟨⟨rfl, rfl⟩, hdel⟩, hd⟩, hr⟩ := h
      obtain ⟨nm, bs, mro, ns, qn, hdct, sn, sub, ab, col, del⟩ := cd
      dsimp only at hm hdel hd
      subst hm hdel hd
      have hsl : sl = #[k0, k1, k2, k3, some (.builtin "ValueError.__new__"), k5] := by
        obtain ⟨l⟩ := sl
        simp only at hs
        rw [hs]
      subst hsl
      exact ⟨nm, qn, ns, bs, bm, sn, sub, ab, col, dd, k0, k1, k2, k3, k5, ho, hr⟩
    · cases h
  · cases h
structure BaseC (K : PySem.W.Frag) (B : Addr) : Prop where
  sg : PySem.W.specialIn K (.ref B) "__getattribute__" = some (some (.builtin "type.__getattribute__"))
  rd : PySem.W.readsIn K B (.type "type") = true
  fi : PySem.W.findCls K (.ref B) (.type "type") "__init__" = some (.val (.builtin "ValueError.__init__"))
section
variable {X : Cx} {o e : Expr} {es : List Expr} {to te : TE} {ta : TA} {f : Str} {p p' p1 p2 pos : Pos}
/-- PurseError.__init__(self, ..) -/
theorem pe_baseinit {x : Str} {B : Addr} (hg : Gl X x) (hm : X.mg x = some (.ref B)) (T0 : BaseC X.K B) (ha : PA X (e :: es) ta) (hdb : (x == ("__debug__" : Str)) = false)
    (hline : (p2.endLine == pos.line) = true)
    (hfew : ((backTo pos (starEach (e :: es) X.env)).all (fun x => !x.1) && (backToKw pos (keywordEach [] X.env)).all (fun x => x.1.isSome)
      && decide ((e :: es).length + ([] : List Keyword).length + (if ([] : List Keyword).isEmpty then 0 else 1) < 30)) = true := by rfl)
    (hbase : attributeBase (.Name x p1) "__init__" X.env (eval (.Name x p1) X.env) = eval (.Name x p1) X.env := by rfl)
    (he : starEach (e :: es) X.env = (false, eval e X.env) :: starEach es X.env := by rfl) (hpl : (backTo pos (starEach es X.env)).any (·.1) = false := by rfl) :
    PE X (.Call (.Attribute (.Name x p1) "__init__" p2) (e :: es) [] pos) (tVeI X.K ta) := by
  refine ⟨fun pins s σ H Q I h => ?_⟩
  rw [arm_eval_Call, hbase]
  refine wpAny_bind (ld_glob I hg hm ?_ hdb)
  refine wpAny_bind (wpAny_standAt ?_)
  have hform : methodCallForm ((e :: es).length + ([] : List Keyword).length) (backTo pos (starEach (e :: es) X.env)) (backToKw pos (keywordEach [] X.env)) = true := hfew
  have hpos : methodCallPos true (.Name x p1) X.env p2 pos = pure pos := by unfold methodCallPos; simp [hline]
  unfold methodCall
  rw [hform]
  refine wpAny_bind (wpAny_holding ?_)
  unfold calleeOf
  rw [if_pos rfl]
  refine PySem.W.method_cls I.kIn T0.sg ?_
  refine PySem.W.cls_value I.kIn T0.rd T0.fi (by decide +kernel) ?_
  refine wpAny_bind (wpAny_of_eq hpos ?_)
  show wpAny _ _ (callWith pos (Value.builtin "ValueError.__init__") [] (backTo pos (starEach (e :: es) X.env)) []) _ _ _
  refine PyProof.Rows.callWith_method1 (thn (ha.run pos pins _ σ H _ (I.tok _) h) fun us s1 ⟨vs, H1, I1, r1, a, C, ws, ev, hl, T, ea, q⟩ => ?_) he hpl
  subst ev
  cases r1 with
  | @cons _ u0 _ ur ra rw' =>
    obtain rfl : u0 = Value.ref a := ra
    have hlen : ur.length ≤ sizeLine := by
      rw [← Paired.length rw', sizeLine_eq]
      omega
    exact oinit_ok T I1 ea hlen fun s' J => ⟨.non, H1, J, rfl, q⟩
end
/-- what __init__(self, f) of such a class does -/
def spI (K : PySem.W.Frag) (f : Str) : Sp := fun vs H Q _ => ∃ (a C : Addr) (y : V), vs = [.ref a, y] ∧ OexC K C ∧ PySem.W.findIn K (.ref C) f = some none ∧ H a = some (exo a C none) ∧ ∀ dx, H dx = none → dx ≠ a → Q .non (upd (upd H dx (exd dx [(f, y)])) a (exo a C (some dx)))
def visB (sc : Scope) (x : Str) : Bool := decide (sc.names.lookup x = some .local) && !(x == ("__debug__" : Str)) && !(x == ("__classdict__" : Str))
def glB (sc : Scope) (x : Str) : Bool := decide (sc.names.lookup x = some .globalImplicit) && !(x == ("__debug__" : Str))
def chkI (f : Str) (sc : Scope) (b : List Stmt) : Bool := match b with
  | [.Expr (.Call (.Attribute (.Name x _) i p2) [.Name s1 _, .Constant (.str _) _ _] [] p5) _, .Assign [.Attribute (.Name s2 _) g _] (.Name y _) _] =>
    (p2.endLine == p5.line) && decide (x = "PurseError") && decide (i = "__init__") && decide (s1 = "self") && decide (s2 = "self") && decide (g = f) && decide (y = f) && glB sc "PurseError" && visB sc "self" && visB sc f
  | _ => false
theorem chkI_s {f : Str} {sc : Scope} {b : List Stmt} (h : chkI f sc b = true) : ∃ p1 p2 p3 m j p4 p5 p6 p7 p8 p9 p10, b = [.Expr (.Call (.Attribute (.Name "PurseError" p1) "__init__" p2) [.Name "self" p3, .Constant (.str m) j p4] [] p5) p6, .Assign [.Attribute (.Name "self" p7) f p8] (.Name f p9) p10] ∧
    (p2.endLine == p5.line) = true ∧ glB sc "PurseError" = true ∧ visB sc "self" = true ∧ visB sc f = true := by
  unfold chkI at h
  split at h
  · simp only [Bool.and_eq_true, decide_eq_true_eq] at h
    obtain ⟨⟨⟨⟨⟨⟨⟨⟨⟨h0, rfl⟩, rfl⟩, rfl⟩, rfl⟩, rfl⟩, rfl⟩, h1⟩, h2⟩, h3⟩ := h
    exact ⟨_, _, _, _, _, _, _, _, _, _, _, _, rfl, h0, h1, h2, h3⟩
  · cases h
theorem init_ok {P : Program} {w : World} {K : PySem.W.Frag} {mg : Str → Option Value} {base : Heap} {x qual f : Str} {st : Stmt} {fI B : Addr} {fd : FuncData}
    (F : Fun K x qual st fI fd) (S : FnScope ["self", f] ["self", f] (defScope st)) (hb : chkI f (defScope st) (defBody st) = true) (hm : mg "PurseError" = some (.ref B)) (T0 : BaseC K B) : FnOk P w K mg base (L2.CX P w) 1 fI fd ["self", f] (spI K f) := by
  obtain ⟨p1, p2, p3, m, j, p4, p5, p6, p7, p8, p9, p10, hbd, h0, h1, h2, h3⟩ := chkI_s hb
  refine F.okX S (fun vs H Q E h => ?_) (fun cdv A outer s H vs Q E hr h => ?_)
  · obtain ⟨a, C, y, rfl, _⟩ := h
    rfl
  · obtain ⟨a, C, y, rfl, T, hno, ha, hq⟩ := h
    rw [hbd]
    unfold glB at h1
    unfold visB at h2 h3
    simp only [Bool.and_eq_true, decide_eq_true_eq, Bool.not_eq_true'] at h1 h2 h3
    have vS : PE (cxOf (L2.CX P w) P w K mg base ["self", f] qual (defScope st) fI cdv A outer s H E) (.Name "self" p3) (tVar 0) := pe_var rfl (.inl h2.1.1) h2.1.2 h2.2
    have vS2 : PE (cxOf (L2.CX P w) P w K mg base ["self", f] qual (defScope st) fI cdv A outer s H E) (.Name "self" p7) (tVar 0) := pe_var rfl (.inl h2.1.1) h2.1.2 h2.2
    have vF : PE (cxOf (L2.CX P w) P w K mg base ["self", f] qual (defScope st) fI cdv A outer s H E) (.Name f p9) (tVar 1) := pe_var rfl (.inl h3.1.1) h3.1.2 h3.2
    refine ⟨_, pss_cons (ps_expr (pe_baseinit (x := "PurseError") (B := B) h1.1 hm T0 (pa_cons vS (pa_cons pe_str pa_nil)) (by decide +kernel) h0)) (pss_one (ps_ost vS2 vF)), ?_⟩
    refine ⟨.ref a, rfl, a, C, [.str m], rfl, by simp, T, ha, ?_⟩
    exact ⟨y, rfl, .ref a, rfl, a, C, rfl, T, hno, .inl ⟨ha, hq⟩⟩
/-! ## a kept exception, asked -/
theorem exk_inst {P : Program} {w : World} {H : Hp} {h : Heap} {a C : Addr} {d : Option Addr} (hok : HOk P w H h) (he : H a = some (exk (.ref C) d a)) (hd : ∀ dd, d = some dd → ∃ fs, H dd = some (.xd fs)) : ∃ (oe : Obj) (od : Option Obj), PySem.W.InstAt h a oe C od := by
  obtain ⟨oe, vs, h1, h2, h3⟩ := exk_at hok he
  cases d with
  | none => exact ⟨oe, none, h1, h2.1, by unfold PySem.W.notCls; rw [h3] <;> rfl, by rw [h2.2]; exact trivial⟩
  | some dd =>
    obtain ⟨fs, hx⟩ := hd dd rfl
    have hx : ObjOk P w H h dd (.xd fs) := hok dd _ hx
    obtain ⟨mA, ⟨o, es, ep, ho, _⟩, _⟩ := hx
    exact ⟨oe, some o, h1, h2.1, by unfold PySem.W.notCls; rw [h3] <;> rfl, by rw [h2.2]; exact ho⟩
/-- isinstance(e, c) -/
def rIsx (K : PySem.W.Frag) : List V → Hp → VK → Prop := fun xs H Q => ∃ (a B C : Addr) (d : Option Addr) (c : V) (u : Value) (b : Bool), xs = [.ref a, c] ∧ ExC K B C ∧ H a = some (exk (.ref C) d a) ∧ (∀ dd, d = some dd → ∃ fs, H dd = some (.xd fs)) ∧
  ClsV c u ∧ PySem.W.kitOne K (.ref C) u = some b ∧ Q (.bl b) H
/-- e.f -/
def tXk (K : PySem.W.Frag) (f : Str) (te : TE) : TE := fun σ H Q => te σ H fun x H1 => ∃ (a B C dd : Addr) (v : V), x = .ref a ∧ ExC K B C ∧ PySem.W.findIn K (.ref C) f = some none ∧ H1 a = some (exk (.ref C) (some dd) a) ∧ H1 dd = some (.xd [(f, v)]) ∧ Q v H1
section
variable {X : Cx}
theorem call_isx : CallR X (.builtin "isinstance") (rIsx X.K) := by
  intro pins s σ H xs us Q I r h
  obtain ⟨a, B, C, d, c, u, b, rfl, T, he, hd, k, e, q⟩ := h
  obtain ⟨u1, u2, rfl, r1, r2⟩ := vals2 r
  have e2 := k.eq r2
  subst e2
  cases (show u1 = Value.ref a from r1)
  obtain ⟨oe, od, J⟩ := exk_inst I.hok he hd
  exact PySem.W.kia_one (PySem.W.kitx_exc (ox := oe) (od := od) T.cl T.xf.ga T.xf.gg T.xf.exC T.ca T.sp T.tk T.mo) I.kIn J e (fun z => nomatch z) fun tk => ⟨.bl b, H, I.tok tk, rfl, q⟩
theorem call_isx2 : CallR X (.builtin "isinstance") (fun xs H Q => rIsx X.K xs H Q ∨ rIsi X.K xs H Q) := by
  intro pins s σ H xs us Q I r h
  rcases h with h | h
  · exact call_isx pins s σ H xs us Q I r h
  · exact call_isi pins s σ H xs us Q I r h
/-- isinstance(e, (c1, ..)) -/
def rIsxT (K : PySem.W.Frag) : List V → Hp → VK → Prop := fun xs H Q => ∃ (a B C tp : Addr) (d : Option Addr) (cs : List V) (us : List Value) (b : Bool), xs = [.ref a, .ref tp] ∧ ExC K B C ∧ H a = some (exk (.ref C) d a) ∧ (∀ dd, d = some dd → ∃ fs, H dd = some (.xd fs)) ∧
  H tp = some (.tup cs) ∧ Paired ClsV cs us ∧ PySem.W.kitAny K (.ref C) us = some b ∧ Q (.bl b) H
theorem call_isxT : CallR X (.builtin "isinstance") (rIsxT X.K) := by
  intro pins s σ H xs us Q I r h
  obtain ⟨a, B, C, tp, d, cs, ws, b, rfl, T, he, hd, hT, k, e, q⟩ := h
  obtain ⟨u1, u2, rfl, r1, r2⟩ := vals2 r
  cases (show u2 = Value.ref tp from r2)
  cases (show u1 = Value.ref a from r1)
  obtain ⟨oe, od, J⟩ := exk_inst I.hok he hd
  obtain ⟨_, its, rv, o, h1, h2, n, h3⟩ := (show ObjOk X.prog X.w H s.heap tp (.tup cs) from I.hok tp _ hT)
  have e3 := ClsV.all k rv
  subst e3
  obtain ⟨oc, od', dt, sl⟩ := o
  simp only at h2 h3
  subst h2 h3
  exact PySem.W.kia_tup (PySem.W.kitx_exc (ox := oe) (od := od) T.cl T.xf.ga T.xf.gg T.xf.exC T.ca T.sp T.tk T.mo) I.kIn J h1 e (fun z => nomatch z) fun tk => ⟨.bl b, H, I.tok tk, rfl, q⟩
theorem pe_xk {e : Expr} {te : TE} {pos : Pos} {n : Str} (he : PE X e te) (hb : attributeBase e n X.env (eval e X.env) = eval e X.env) : PE X (.Attribute e n pos) (tXk X.K n te) := by
  refine ⟨fun pins s σ H Q I h => ?_⟩
  refine attr_of hb (thn (he.run pins s σ H _ I h) fun u s1 hh => ?_)
  obtain ⟨x, H1, I1, rx, a, B, C, dd, v, ex, T, hno, ea, ed, q⟩ := hh
  subst ex
  obtain rfl : u = Value.ref a := rx
  obtain ⟨oe, vs, h1, h2, h3⟩ := exk_at I1.hok ea
  have hx : ObjOk X.prog X.w H1 s1.heap dd (.xd [(n, v)]) := I1.hok dd _ ed
  obtain ⟨mA, hns, hr⟩ := hx
  obtain ⟨od, ho, hl⟩ := lookIn_ns hns
  obtain ⟨u, hu, ru⟩ := RelO.some_of (v := v) (o := mA n) (by
    have := hr n
    rw [lookup_put, if_pos rfl] at this
    exact this)
  have J : PySem.W.InstAt s1.heap a oe C (some od) := ⟨h1, h2.1, by unfold PySem.W.notCls; rw [h3] <;> rfl, by rw [h2.2]; exact ho⟩
  exact HandSPX.exc_get I1.kIn J T.xf.ga T.xf.gg T.xf.exC (PySem.W.findObj_own T.xf.hdC hno rfl (by rw [hl, hu])) (handed_of ru) ⟨v, H1, I1.tok _, ru, q⟩
end
/-! ## raise C(e) -/
theorem upd_made {H : Hp} {a d : Addr} {o1 o2 o3 o4 : HO} (ha : H a = none) (hda : d ≠ a) : upd (del (upd (upd (upd H a o1) d o2) a o3) a) d o4 = upd H d o4 := by
  funext b
  by_cases h1 : b = d
  · subst h1
    rw [upd_same, upd_same]
  · rw [upd_ne h1, upd_ne h1]
    by_cases h2 : b = a
    · subst h2
      rw [del_same, ha]
    · rw [del_ne h2, upd_ne h2, upd_ne h1, upd_ne h2]
theorem cx_false {P : Program} {w : World} {l : List Env} {H : Hp} {s : Shared} {e : Value} {s' : Shared} (h : L2.CX P w l H s (fun _ _ _ => False) e s') : False := by
  obtain ⟨_, _, _, _, _, _, _, _, _, _, _, _, z⟩ := h
  exact z
/-- what must stand for «raise C(e)» -/
structure RseC (P : Program) (w : World) (K : PySem.W.Frag) (mg : Str → Option Value) (base : Heap) (C : Addr) (f : Str) : Prop where
  ox : OexC K C
  no : PySem.W.findIn K (.ref C) f = some none
  ini : ∃ (fI : Addr) (fd : FuncData), PySem.W.findIn K (.ref C) "__init__" = some (some (.ref fI)) ∧ PySem.W.typeIn K (.ref fI) = some (.type "function") ∧ FnOk P w K mg base (L2.CX P w) 1 fI fd ["self", f] (spI K f) ∧ Binds K fd ["self", f] []
/-- the wish behind e in raise C(e) -/
def wRse (K : PySem.W.Frag) (C : Addr) (f : Str) (W : WX) (σ : L2.St) (v : V) (H1 : Hp) : Prop := tMkO C (spI K f) [] (fun _ H Q => Q [v] H) σ H1 fun cls d H' => W cls d σ H'
theorem wRse_of {K : PySem.W.Frag} {C : Addr} {f : Str} {W : WX} {σ : L2.St} {v : V} {H1 : Hp} (ox : OexC K C) (no : PySem.W.findIn K (.ref C) f = some none) (h : ∀ d, H1 d = none → W (.ref C) (some d) σ (upd H1 d (.xd [(f, v)]))) : wRse K C f W σ v H1 := by
  refine ⟨by simp, fun a ha => ⟨a, C, v, rfl, ox, no, upd_same, fun dx hn hne => ⟨rfl, dx, [(f, v)], upd_same, ?_, ?_, ?_⟩⟩⟩
  · rw [upd_ne hne, upd_same]
  · rw [upd_ne hne] at hn
    exact hn
  · rw [upd_made ha hne]
    rw [upd_ne hne] at hn
    exact h dx hn
section
variable {X : Cx} {W : WX} {C : Addr} {f x : Str} {e : Expr} {te : TE} {p pos pos' : Pos}
theorem ps_rse (T : RseC X.prog X.w X.K X.mg X.base C f) (hc : X.calm = true) (tk : Takes X W) (hr : Room 2 X.A) (hg : Gl X x) (hm : X.mg x = some (.ref C)) (he : PE X e te) (hst : starEach [e] X.env = (false, eval e X.env) :: starEach [] X.env) (hdb : (x == ("__debug__" : Str)) = false) :
    PS X (.Raise (some (.Call (.Name x p) [e] [] pos)) none pos') (fun _ σ H => te σ H (wRse X.K C f W σ)) := by
  obtain ⟨fI, fd, i1, i2, i3, i4⟩ := T.ini
  have h := ps_raise (pos := pos') hc tk (pmk_oex (p := p) (pos := pos) (dvs := []) (ds := []) T.ox i1 i2 i3 hr i4 .nil (fun _ _ _ _ _ _ _ z => (cx_false z).elim) hg hm (pa_cons he pa_nil hst) hdb hst)
  exact ⟨fun pins s σ H D I q => h.run pins s σ H D I q⟩
/-- raise C('m') -/
theorem ps_rs0 {m : Str} {j : Nat} {p2 : Pos} (hx : PySem.W.excIn X.K C [.type "ValueError", .type "Exception", .type "BaseException", .type "object"] "ValueError.__new__" = true) (kC : PySem.W.keepIn X.K (.ref C) = true) (h1 : PySem.W.subIn X.K (.ref C) (.type "BaseException") = some true) (h2 : PySem.W.typeIn X.K (.ref C) = some (.type "type")) (hc : X.calm = true) (tk : Takes X W) (hg : Gl X x) (hm : X.mg x = some (.ref C)) (hdb : (x == ("__debug__" : Str)) = false) :
    PS X (.Raise (some (.Call (.Name x p) [.Constant (.str m) j p2] [] pos)) none pos') (fun _ σ H => W (.ref C) none σ H) := by
  have h := ps_raise (pos := pos') hc tk (pmk_own (p := p) (pos := pos) (m := m) (j := j) (p2 := p2) F.excBase_ValueError hx hm kC (raises_own h1 h2) hg hdb)
  exact ⟨fun pins s σ H D I q => h.run pins s σ H D I q⟩
end
/-! ## all nine -/
structure ExAll (P : Program) (w : World) (K : PySem.W.Frag) (mg : Str → Option Value) (base : Heap) (B : Addr) : Prop where
  mP : mg "PurseError" = some (.ref B)
  bP : PySem.W.subIn K (.ref B) (.type "BaseException") = some true
  one : ∀ c fo, exFld c = some fo → ∃ C, PySem.W.nsIn K mainGlobals c = some (some (.ref C)) ∧ mg c = some (.ref C) ∧ ExC K B C ∧ (∀ f, fo = some f → RseC P w K mg base C f) ∧
    (fo = none → PySem.W.excIn K C [.type "ValueError", .type "Exception", .type "BaseException", .type "object"] "ValueError.__new__" = true)
  two : ∀ c c' C C' fo fo', exFld c = some fo → exFld c' = some fo' → PySem.W.nsIn K mainGlobals c = some (some (.ref C)) → PySem.W.nsIn K mainGlobals c' = some (some (.ref C')) → PySem.W.kitOne K (.ref C) (.ref C') = some (decide (c = c'))
  non : ∀ c C fo, exFld c = some fo → PySem.W.nsIn K mainGlobals c = some (some (.ref C)) → PySem.W.kitOne K (.type "NoneType") (.ref C) = some false
  nonP : PySem.W.kitOne K (.type "NoneType") (.ref B) = some false
end Py

namespace Py
open PySem PySem.Spec PyProof.Rows L2

/-! ## data -/
inductive D where
  | non | bl (b : Bool) | int (i : Int) | str (x : Str) | tup (xs : List D) | lst (xs : List D) | scr (ns : List Int) | exv (c : Str) (ys : List D) | dic

/-- an exception that flies: its class, its field -/
structure XD where
  cls : Str
  fld : Option (Str × D)

inductive R (α : Type) where
  | ok (a : α) | exc (x : XD) | stuck

namespace R
def bind {α β : Type} (r : R α) (f : α → R β) : R β := match r with
  | .ok a => f a
  | .exc x => .exc x
  | .stuck => .stuck
instance : Monad R where
  pure := R.ok
  bind := R.bind
@[simp] theorem bind_ok {α β : Type} (a : α) (f : α → R β) : (R.ok a >>= f) = f a := Eq.trans rfl rfl
@[simp] theorem bind_exc {α β : Type} (x : XD) (f : α → R β) : ((R.exc x : R α) >>= f) = .exc x := Eq.trans rfl rfl
@[simp] theorem bind_stuck {α β : Type} (f : α → R β) : ((R.stuck : R α) >>= f) = .stuck := Eq.trans rfl rfl
@[simp] theorem pure_ok {α : Type} (a : α) : (pure a : R α) = .ok a := Eq.trans rfl rfl
theorem bind_assoc {α β γ : Type} (r : R α) (f : α → R β) (g : β → R γ) : ((r >>= f) >>= g) = (r >>= fun a => f a >>= g) := by
  cases r <;> rfl
end R

/-! ## no list within -/
mutual
def D.lf : D → Bool
  | .tup xs => D.lfs xs
  | .lst _ => false
  | .exv _ ys => D.lfs ys
  | _ => true
def D.lfs : List D → Bool
  | [] => true
  | d :: ds => D.lf d && D.lfs ds
end

/-! ## data in a heap -/
mutual
inductive Rep (K : PySem.W.Frag) (H : Hp) : D → V → Prop
  | non : Rep K H .non .non
  | bl (b : Bool) : Rep K H (.bl b) (.bl b)
  | int (i : Int) : Rep K H (.int i) (.int i)
  | str (x : Str) : Rep K H (.str x) (.str x)
  | tup {a : Addr} {vs : List V} {ds : List D} : H a = some (.tup vs) → Reps K H ds vs → Rep K H (.tup ds) (.ref a)
  | lst {a : Addr} {vs : List V} {ds : List D} : H a = some (.lst vs) → Reps K H ds vs → Rep K H (.lst ds) (.ref a)
  | scr {a : Addr} {ns : List Int} : ((∃ o, H a = some (.frz o (.lst (ns.map V.int)))) ∨ (∀ H' : Hp, SqL K H' a (ns.map V.int))) → Rep K H (.scr ns) (.ref a)
  | dic {a : Addr} : H a = some (.dK []) → Rep K H .dic (.ref a)
  | exv0 {a B C : Addr} {c : Str} : exFld c = some none → PySem.W.nsIn K mainGlobals c = some (some (.ref C)) → ExC K B C → H a = some (exk (.ref C) none a) → Rep K H (.exv c []) (.ref a)
  | exv1 {a B C dd : Addr} {c f : Str} {y : D} {v : V} : exFld c = some (some f) → PySem.W.nsIn K mainGlobals c = some (some (.ref C)) → ExC K B C → PySem.W.findIn K (.ref C) f = some none → H a = some (exk (.ref C) (some dd) a) → H dd = some (.xd [(f, v)]) → Rep K H y v → Rep K H (.exv c [y]) (.ref a)
inductive Reps (K : PySem.W.Frag) (H : Hp) : List D → List V → Prop
  | nil : Reps K H [] []
  | cons {d : D} {v : V} {ds : List D} {vs : List V} : Rep K H d v → Reps K H ds vs → Reps K H (d :: ds) (v :: vs)
end

abbrev Ex (H H' : Hp) : Prop := ∀ a o, H a = some o → H' a = some o
theorem Ex.refl (H : Hp) : Ex H H := fun _ _ h => h
theorem Ex.trans {H H1 H2 : Hp} (a : Ex H H1) (b : Ex H1 H2) : Ex H H2 := fun x o h => b x o (a x o h)
theorem Ex.new {H : Hp} {p : Addr} {o : HO} (h : H p = none) : Ex H (upd H p o) := fun a u e => by
  rw [upd_ne (ne_of_none e h)]
  exact e
/-- what Hs holds, and all that is new from H to H' -/
def ext (Hs H H' : Hp) : Hp := fun a => match H a with
  | some _ => Hs a
  | none => H' a

section
variable {K : PySem.W.Frag} {H H' H1 H2 Hs Ht : Hp}
mutual
theorem Rep.mono (e : Ex H H') : ∀ {d : D} {v : V}, Rep K H d v → Rep K H' d v
  | _, _, .non => .non
  | _, _, .bl b => .bl b
  | _, _, .int i => .int i
  | _, _, .str x => .str x
  | _, _, .tup h r => .tup (e _ _ h) (Reps.mono e r)
  | _, _, .lst h r => .lst (e _ _ h) (Reps.mono e r)
  | _, _, .scr h => .scr (h.imp (fun ⟨o, q⟩ => ⟨o, e _ _ q⟩) id)
  | _, _, .dic h => .dic (e _ _ h)
  | _, _, .exv0 h1 h2 h3 h4 => .exv0 h1 h2 h3 (e _ _ h4)
  | _, _, .exv1 h1 h2 h3 h4 h5 h6 r => .exv1 h1 h2 h3 h4 (e _ _ h5) (e _ _ h6) (Rep.mono e r)
theorem Reps.mono (e : Ex H H') : ∀ {ds : List D} {vs : List V}, Reps K H ds vs → Reps K H' ds vs
  | _, _, .nil => .nil
  | _, _, .cons r t => .cons (Rep.mono e r) (Reps.mono e t)
end
/-- a thing without lists needs no list -/
abbrev ExN (H H' : Hp) : Prop := ∀ a o, H a = some o → (∀ xs, o ≠ .lst xs) → H' a = some o
mutual
theorem Rep.drop (e : ExN H H') : ∀ {d : D} {v : V}, Rep K H d v → d.lf = true → Rep K H' d v
  | _, _, .non, _ => .non
  | _, _, .bl b, _ => .bl b
  | _, _, .int i, _ => .int i
  | _, _, .str x, _ => .str x
  | _, _, .tup h r, l => .tup (e _ _ h (fun _ q => nomatch q)) (Reps.drop e r (by simpa [D.lf] using l))
  | _, _, .lst h r, l => by simp [D.lf] at l
  | _, _, .scr h, _ => .scr (h.imp (fun ⟨o, q⟩ => ⟨o, e _ _ q (fun _ q => nomatch q)⟩) id)
  | _, _, .dic h, _ => .dic (e _ _ h (fun _ q => nomatch q))
  | _, _, .exv0 h1 h2 h3 h4, _ => .exv0 h1 h2 h3 (e _ _ h4 exk_lst)
  | _, _, .exv1 h1 h2 h3 h4 h5 h6 r, l => .exv1 h1 h2 h3 h4 (e _ _ h5 exk_lst) (e _ _ h6 (fun _ q => nomatch q)) (Rep.drop e r (by simpa [D.lf, D.lfs] using l))
theorem Reps.drop (e : ExN H H') : ∀ {ds : List D} {vs : List V}, Reps K H ds vs → D.lfs ds = true → Reps K H' ds vs
  | _, _, .nil, _ => .nil
  | _, _, .cons r t, l => by
    simp only [D.lfs, Bool.and_eq_true] at l
    exact .cons (Rep.drop e r l.1) (Reps.drop e t l.2)
end
theorem Rep.tupI {ds : List D} {v : V} (h : Rep K H (.tup ds) v) : ∃ a vs, v = .ref a ∧ H a = some (.tup vs) ∧ Reps K H ds vs := by
  cases h with
  | tup h r => exact ⟨_, _, rfl, h, r⟩
theorem Rep.lstI {ds : List D} {v : V} (h : Rep K H (.lst ds) v) : ∃ a vs, v = .ref a ∧ H a = some (.lst vs) ∧ Reps K H ds vs := by
  cases h with
  | lst h r => exact ⟨_, _, rfl, h, r⟩
theorem Rep.scrI {ns : List Int} {v : V} (h : Rep K H (.scr ns) v) : ∃ a, v = .ref a ∧ SqL K H a (ns.map V.int) := by
  cases h with
  | scr h =>
    refine ⟨_, rfl, ?_⟩
    rcases h with ⟨o, h⟩ | h
    · exact .inl (.inr ⟨o, h⟩)
    · exact h H
theorem Rep.dicI {v : V} (h : Rep K H .dic v) : ∃ a, v = .ref a ∧ H a = some (.dK []) := by
  cases h with
  | dic h => exact ⟨_, rfl, h⟩
theorem Rep.intI {i : Int} {v : V} (h : Rep K H (.int i) v) : v = .int i := by cases h; rfl
theorem Rep.blI {b : Bool} {v : V} (h : Rep K H (.bl b) v) : v = .bl b := by cases h; rfl
theorem Rep.strI {x : Str} {v : V} (h : Rep K H (.str x) v) : v = .str x := by cases h; rfl
theorem Rep.nonI {v : V} (h : Rep K H .non v) : v = .non := by cases h; rfl
theorem Reps.length : ∀ {ds : List D} {vs : List V}, Reps K H ds vs → ds.length = vs.length
  | _, _, .nil => rfl
  | _, _, .cons _ t => congrArg (· + 1) (Reps.length t)
theorem Reps.get : ∀ {ds : List D} {vs : List V} {i : Nat} {d : D}, Reps K H ds vs → ds[i]? = some d → ∃ v, vs[i]? = some v ∧ Rep K H d v
  | _, _, _, _, .nil, e => by simp at e
  | _, _, 0, _, .cons r _, e => by simp at e; subst e; exact ⟨_, rfl, r⟩
  | _, _, i + 1, d, .cons _ t, e => by
    obtain ⟨u, h1, h2⟩ := Reps.get (i := i) (d := d) t (by simpa using e)
    exact ⟨u, by simpa using h1, h2⟩
theorem Reps.getV : ∀ {ds : List D} {vs : List V} {i : Nat} {v : V}, Reps K H ds vs → vs[i]? = some v → ∃ d, ds[i]? = some d ∧ Rep K H d v
  | _, _, _, _, .nil, e => by simp at e
  | _, _, 0, _, .cons r _, e => by simp at e; subst e; exact ⟨_, rfl, r⟩
  | _, _, i + 1, d, .cons _ t, e => by
    obtain ⟨u, h1, h2⟩ := Reps.getV (i := i) (v := d) t (by simpa using e)
    exact ⟨u, by simpa using h1, h2⟩
theorem Reps.append : ∀ {xs ys : List D} {us ws : List V}, Reps K H xs us → Reps K H ys ws → Reps K H (xs ++ ys) (us ++ ws)
  | _, _, _, _, .nil, s => s
  | _, _, _, _, .cons r t, s => .cons r (Reps.append t s)
theorem Reps.take : ∀ {xs : List D} {us : List V} (n : Nat), Reps K H xs us → Reps K H (xs.take n) (us.take n)
  | _, _, 0, _ => .nil
  | _, _, _ + 1, .nil => .nil
  | _, _, n + 1, .cons r t => .cons r (Reps.take n t)
theorem Reps.dropN : ∀ {xs : List D} {us : List V} (n : Nat), Reps K H xs us → Reps K H (xs.drop n) (us.drop n)
  | _, _, 0, r => r
  | _, _, _ + 1, .nil => .nil
  | _, _, n + 1, .cons r t => Reps.dropN n t
theorem Reps.set {d : D} {v : V} (r : Rep K H d v) : ∀ {xs : List D} {us : List V} (i : Nat), Reps K H xs us → Reps K H (xs.set i d) (us.set i v)
  | _, _, _, .nil => .nil
  | _, _, 0, .cons _ t => .cons r t
  | _, _, i + 1, .cons q t => .cons q (Reps.set r i t)
theorem Reps.ints : ∀ {ns : List Int}, Reps K H (ns.map D.int) (ns.map V.int)
  | [] => .nil
  | _ :: _ => .cons (.int _) Reps.ints
theorem Reps.intsI : ∀ {ns : List Int} {vs : List V}, Reps K H (ns.map D.int) vs → vs = ns.map V.int
  | [], _, .nil => rfl
  | _ :: _, _, .cons r t => by rw [Rep.intI r, Reps.intsI t]; rfl
theorem Reps.strs : ∀ {ns : List Str}, Reps K H (ns.map D.str) (ns.map V.str)
  | [] => .nil
  | _ :: _ => .cons (.str _) Reps.strs
theorem Reps.strsI : ∀ {ns : List Str} {vs : List V}, Reps K H (ns.map D.str) vs → vs = ns.map V.str
  | [], _, .nil => rfl
  | _ :: _, _, .cons r t => by rw [Rep.strI r, Reps.strsI t]; rfl
theorem Reps.blsI : ∀ {ns : List Bool} {vs : List V}, Reps K H (ns.map D.bl) vs → vs = ns.map V.bl
  | [], _, .nil => rfl
  | _ :: _, _, .cons r t => by rw [Rep.blI r, Reps.blsI t]; rfl

/-! ## the frozen part and the heap, later -/
structure Le (Hs H Hi H' : Hp) : Prop where
  old : Ex Hs Hi
  ex : Ex H H'
  sub : Ex Hi H'
  new : ∀ a o, Hi a = some o → Hs a = some o ∨ H a = none
theorem Le.refl (e : Ex Hs H) : Le Hs H Hs H := ⟨Ex.refl _, Ex.refl _, e, fun _ _ h => .inl h⟩
theorem Le.trans {Hs H Hi H' Hj H'' : Hp} (a : Le Hs H Hi H') (b : Le Hi H' Hj H'') : Le Hs H Hj H'' :=
  ⟨a.old.trans b.old, a.ex.trans b.ex, b.sub, fun x o h => by
    rcases b.new x o h with q | q
    · exact a.new x o q
    · cases z : H x with
      | none => exact .inr rfl
      | some u => rw [a.ex x u z] at q; cases q⟩
theorem Le.new1 {p : Addr} {o : HO} (e : Ex Hs H) (n : H p = none) : Le Hs H (upd Hs p o) (upd H p o) := by
  have ns : Hs p = none := by
    cases z : Hs p with
    | none => rfl
    | some u => rw [e p u z] at n; cases n
  refine ⟨Ex.new ns, Ex.new n, fun a u h => ?_, fun a u h => ?_⟩
  · by_cases q : a = p
    · subst q
      rw [upd_same] at h ⊢
      exact h
    · rw [upd_ne q] at h ⊢
      exact e a u h
  · by_cases q : a = p
    · subst q
      exact .inr n
    · rw [upd_ne q] at h
      exact .inl h
/-- a new object that is not frozen -/
theorem Le.new0 {p : Addr} {o : HO} (e : Ex Hs H) (n : H p = none) : Le Hs H Hs (upd H p o) :=
  ⟨Ex.refl _, Ex.new n, fun a u h => by
    rw [upd_ne (ne_of_none (e a u h) n)]
    exact e a u h, fun _ _ h => .inl h⟩
theorem Le.free {p : Addr} {Hi H' : Hp} (l : Le Hs H Hi H') (n : H' p = none) : H p = none := by
  cases z : H p with
  | none => rfl
  | some u => rw [l.ex p u z] at n; cases n
end

/-! ## what is wanted of a result -/
/-- how an exception lies -/
def XRep (K : PySem.W.Frag) (mg : Str → Option Value) (Hi H : Hp) (x : XD) (c : Value) (d : Option Addr) : Prop :=
  mg x.cls = some c ∧ match x.fld with
    | none => d = none
    | some (f, y) => ∃ dd v, d = some dd ∧ Hi dd = some (.xd [(f, v)]) ∧ Rep K Hi y v

def Pst {α β : Type} (Rel : Hp → α → β → Prop) (K : PySem.W.Frag) (mg : Str → Option Value) (Hs H : Hp) (r : R α) (Q : β → Hp → Prop) (E : XK) : Prop := match r with
  | .ok d => ∀ v Hi H', Le Hs H Hi H' → Rel Hi d v → Q v H'
  | .exc x => ∀ c d Hi H', Le Hs H Hi H' → XRep K mg Hi H' x c d → E c d H'
  | .stuck => False
abbrev PstD (K : PySem.W.Frag) (mg : Str → Option Value) (Hs H : Hp) (r : R D) (Q : VK) (E : XK) : Prop := Pst (Rep K) K mg Hs H r Q E
abbrev PstL (K : PySem.W.Frag) (mg : Str → Option Value) (Hs H : Hp) (r : R (List D)) (Q : List V → Hp → Prop) (E : XK) : Prop := Pst (Reps K) K mg Hs H r Q E
abbrev RB : Hp → Bool → Bool → Prop := fun _ b c => b = c
abbrev PstB (K : PySem.W.Frag) (mg : Str → Option Value) (Hs H : Hp) (r : R Bool) (Q : Bool → Hp → Prop) (E : XK) : Prop := Pst RB K mg Hs H r Q E
section
variable {α β γ δ : Type} {Rel : Hp → α → β → Prop} {Rel2 : Hp → γ → δ → Prop} {K : PySem.W.Frag} {mg : Str → Option Value} {Hs H Hi H1 : Hp} {E : XK}
theorem Pst.step {r : R α} {Q : β → Hp → Prop} (l : Le Hs H Hi H1) (h : Pst Rel K mg Hs H r Q E) : Pst Rel K mg Hi H1 r Q E := by
  cases r with
  | ok d => exact fun v Hj H' c q => h v Hj H' (l.trans c) q
  | exc x => exact fun v d Hj H' c q => h v d Hj H' (l.trans c) q
  | stuck => exact h
/-- a result, then the rest -/
theorem Pst.bind {r : R α} {k : α → R γ} {Q : δ → Hp → Prop} {Q1 : β → Hp → Prop} (h : Pst Rel2 K mg Hs H (r >>= k) Q E)
    (f : ∀ d, r = .ok d → ∀ v Hi H1, Le Hs H Hi H1 → Rel Hi d v → Pst Rel2 K mg Hi H1 (k d) Q E → Q1 v H1) : Pst Rel K mg Hs H r Q1 E := by
  cases r with
  | ok d => exact fun v Hj H' c q => f d rfl v Hj H' c q (Pst.step (Rel := Rel2) c h)
  | exc x => exact h
  | stuck => exact h
theorem Pst.imp {r : R α} {Q Q1 : β → Hp → Prop} (h : Pst Rel K mg Hs H r Q E) (f : ∀ v H', Q v H' → Q1 v H') : Pst Rel K mg Hs H r Q1 E := by
  cases r with
  | ok d => exact fun v Hj H' c q => f v H' (h v Hj H' c q)
  | exc x => exact h
  | stuck => exact h
/-- the answer at once -/
theorem Pst.now {d : α} {v : β} {Q : β → Hp → Prop} (h : Pst Rel K mg Hs H (.ok d) Q E) (e : Ex Hs H) (r : Rel Hs d v) : Q v H :=
  h v Hs H (Le.refl e) r
end

/-! ## slots -/
abbrev Env := List (Option D)
def ERel (K : PySem.W.Frag) (Hs : Hp) (ρ : Env) (σ : L2.St) : Prop := ρ.length ≤ σ.length ∧ ∀ (i : Nat) (d : D), ρ[i]? = some (some d) → ∃ v, σ[i]? = some (some v) ∧ Rep K Hs d v
theorem ERel.mono {K : PySem.W.Frag} {Hs Ht : Hp} {ρ : Env} {σ : L2.St} (h : ERel K Hs ρ σ) (e : Ex Hs Ht) : ERel K Ht ρ σ := ⟨h.1, fun i d q =>
  let ⟨v, a, b⟩ := h.2 i d q
  ⟨v, a, b.mono e⟩⟩
/-! ## the readings: whatever the pure function answers -/
def tD (K : PySem.W.Frag) (mg : Str → Option Value) (W : WX) (f : Env → R D) : TE := fun σ H Q =>
  ∃ (ρ : Env) (Hs : Hp), Ex Hs H ∧ ERel K Hs ρ σ ∧ PstD K mg Hs H (f ρ) Q (fun c d H' => W c d σ H')
def tDB (K : PySem.W.Frag) (mg : Str → Option Value) (W : WX) (f : Env → R Bool) : TT := fun σ H Q =>
  ∃ (ρ : Env) (Hs : Hp), Ex Hs H ∧ ERel K Hs ρ σ ∧ PstB K mg Hs H (f ρ) Q (fun c d H' => W c d σ H')
def tDL (K : PySem.W.Frag) (mg : Str → Option Value) (W : WX) (f : Env → R (List D)) : TA := fun σ H Q =>
  ∃ (ρ : Env) (Hs : Hp), Ex Hs H ∧ ERel K Hs ρ σ ∧ PstL K mg Hs H (f ρ) Q (fun c d H' => W c d σ H')
abbrev SE (X : Cx) (W : WX) (e : Expr) (f : Env → R D) : Prop := PE X e (tD X.K X.mg W f)
abbrev SB (X : Cx) (W : WX) (e : Expr) (f : Env → R Bool) : Prop := PT X e (tDB X.K X.mg W f)
abbrev SA (X : Cx) (W : WX) (es : List Expr) (f : Env → R (List D)) : Prop := PA X es (tDL X.K X.mg W f)
theorem PE.imp {X : Cx} {e : Expr} {t u : TE} (h : PE X e t) (f : ∀ σ H Q, u σ H Q → t σ H Q) : PE X e u := ⟨fun pins s σ H Q I q => h.run pins s σ H Q I (f σ H Q q)⟩
theorem PT.imp {X : Cx} {e : Expr} {t u : TT} (h : PT X e t) (f : ∀ σ H Q, u σ H Q → t σ H Q) : PT X e u := ⟨fun pins s σ H Q I q => h.run pins s σ H Q I (f σ H Q q)⟩
theorem PW.imp {X : Cx} {e : Expr} {t u : TT} (h : PW X e t) (f : ∀ σ H Q, u σ H Q → t σ H Q) : PW X e u := ⟨fun wh pins s σ H Q I q => h.run wh pins s σ H Q I (f σ H Q q)⟩
theorem PA.imp {X : Cx} {e : List Expr} {t u : TA} (h : PA X e t) (f : ∀ σ H Q, u σ H Q → t σ H Q) : PA X e u := ⟨fun pos pins s σ H Q I q => h.run pos pins s σ H Q I (f σ H Q q)⟩
end Py

namespace Py
open PySem PySem.Spec PyProof.Rows L2

/-! ## data as the library has them -/
mutual
def D.pd : D → PyData
  | .non => .none
  | .bl b => .bool b
  | .int i => .int i
  | .str x => .str x
  | .tup xs => .tuple (D.pds xs)
  | .lst xs => .list (D.pds xs)
  | .scr _ => .dict []
  | .exv _ _ => .dict []
  | .dic => .dict []
def D.pds : List D → List PyData
  | [] => []
  | d :: ds => D.pd d :: D.pds ds
end
mutual
/-- no script within -/
def D.ns : D → Bool
  | .tup xs => D.nss xs
  | .lst xs => D.nss xs
  | .scr _ => false
  | .exv _ _ => false
  | .dic => false
  | _ => true
def D.nss : List D → Bool
  | [] => true
  | d :: ds => D.ns d && D.nss ds
end
theorem D.pds_eq : ∀ ds : List D, D.pds ds = ds.map D.pd
  | [] => rfl
  | d :: ds => by simp [D.pds, D.pds_eq ds]
theorem D.nss_eq : ∀ ds : List D, D.nss ds = ds.all D.ns
  | [] => rfl
  | d :: ds => by simp [D.nss, D.nss_eq ds]
theorem D.lfs_eq : ∀ ds : List D, D.lfs ds = ds.all D.lf
  | [] => rfl
  | d :: ds => by simp [D.lfs, D.lfs_eq ds]

section
variable {K : PySem.W.Frag} {H : Hp}
mutual
theorem Rep.dp : ∀ {d : D} {v : V}, Rep K H d v → d.ns = true → Dp K H v d.pd
  | _, _, .non, _ => .non
  | _, _, .bl b, _ => .bl b
  | _, _, .int i, _ => .int i
  | _, _, .str x, _ => .str x
  | _, _, .tup h r, l => .tup (SqT.of h) (Reps.dp r (by simpa [D.ns] using l))
  | _, _, .lst h r, l => .lst (SqL.of h) (Reps.dp r (by simpa [D.ns] using l))
  | _, _, .scr h, l => by simp [D.ns] at l
  | _, _, .exv0 _ _ _ _, l => by simp [D.ns] at l
  | _, _, .dic _, l => by simp [D.ns] at l
  | _, _, .exv1 _ _ _ _ _ _ _, l => by simp [D.ns] at l
theorem Reps.dp : ∀ {ds : List D} {vs : List V}, Reps K H ds vs → D.nss ds = true → DpAll K H vs (D.pds ds)
  | _, _, .nil, _ => .nil
  | _, _, .cons r t, l => by
    simp only [D.nss, Bool.and_eq_true] at l
    exact .cons (Rep.dp r l.1) (Reps.dp t l.2)
end
end

/-! ## a new list, a new tuple -/
section
variable {K : PySem.W.Frag} {Hs H : Hp} {ds : List D} {vs : List V} {p : Addr}
theorem fresh_s (e : Ex Hs H) (n : H p = none) : Hs p = none := by
  cases z : Hs p with
  | none => rfl
  | some u => rw [e p u z] at n; cases n
theorem mk_lst (e : Ex Hs H) (r : Reps K Hs ds vs) (n : H p = none) : Rep K (upd Hs p (.lst vs)) (.lst ds) (.ref p) :=
  .lst upd_same (r.mono (Ex.new (fresh_s e n)))
theorem mk_tup (e : Ex Hs H) (r : Reps K Hs ds vs) (n : H p = none) : Rep K (upd Hs p (.tup vs)) (.tup ds) (.ref p) :=
  .tup upd_same (r.mono (Ex.new (fresh_s e n)))
/-- a new list that nothing knows: its items stand without it -/
def FRep (K : PySem.W.Frag) (H Hi H' : Hp) (d : D) (v : V) : Prop :=
  ∃ p vs xs, d = .lst xs ∧ v = .ref p ∧ H p = none ∧ Hi p = none ∧ H' p = some (.lst vs) ∧ Reps K Hi xs vs
end

/-! ## operators on data -/
inductive Bop where
  | add | sub | mul | fdiv | mod | pow | shr | band
  deriving DecidableEq
def Bop.op : Bop → Operator
  | .add => .Add | .sub => .Sub | .mul => .Mult | .fdiv => .FloorDiv | .mod => .Mod | .pow => .Pow | .shr => .RShift | .band => .BitAnd
def divOk (j : Int) : Bool := decide (0 < j) && decide (j.natAbs.log2 < 9000)
def mulOk (i j : Int) : Bool := decide (i.natAbs.log2 + j.natAbs.log2 < 1000000)
def powOk (i j : Int) : Bool := decide (0 ≤ j) && decide (j ≤ 1000000) && decide (i.natAbs < 18446744073709551616)

def D.add : D → D → R D
  | .int a, .int b => .ok (.int (a + b))
  | .str a, .str b => if a.length + b.length ≤ 16777216 then .ok (.str (a ++ b)) else .stuck
  | .lst a, .lst b => if a.length + b.length ≤ 16777216 then .ok (.lst (a ++ b)) else .stuck
  | .tup a, .tup b => if a.length + b.length ≤ 16777216 then .ok (.tup (a ++ b)) else .stuck
  | _, _ => .stuck
def D.sub : D → D → R D
  | .int a, .int b => .ok (.int (a - b))
  | _, _ => .stuck
def D.mul : D → D → R D
  | .int a, .int b => if mulOk a b then .ok (.int (a * b)) else .stuck
  | .lst xs, .int k => if 0 ≤ k ∧ k < 16777216 ∧ xs.length * k.toNat ≤ 16777216 then .ok (.lst (List.replicate k.toNat xs).flatten) else .stuck
  | _, _ => .stuck
def D.fdiv : D → D → R D
  | .int a, .int b => if divOk b then .ok (.int (a / b)) else .stuck
  | _, _ => .stuck
def D.mod : D → D → R D
  | .int a, .int b => if 0 < b then .ok (.int (a % b)) else .stuck
  | _, _ => .stuck
def D.pow : D → D → R D
  | .int a, .int b => if powOk a b then .ok (.int (a ^ b.toNat)) else .stuck
  | _, _ => .stuck
def D.shr : D → D → R D
  | .int a, .int b => if 0 ≤ b then .ok (.int (a / 2 ^ b.toNat)) else .stuck
  | _, _ => .stuck
def D.band : D → D → R D
  | .int a, .int b => .ok (.int (Builtin.bitAnd a b))
  | _, _ => .stuck
def Bop.f : Bop → D → D → R D
  | .add => D.add | .sub => D.sub | .mul => D.mul | .fdiv => D.fdiv | .mod => D.mod | .pow => D.pow | .shr => D.shr | .band => D.band

/-- a rule's wants: whatever the pure function answers -/
def rD (K : PySem.W.Frag) (mg : Str → Option Value) (g : D → D → R D) : R2 := fun x y H Q =>
  ∃ (Hs : Hp) (a b : D) (E : XK), Ex Hs H ∧ Rep K Hs a x ∧ Rep K Hs b y ∧ PstD K mg Hs H (g a b) Q E
def rU1 (K : PySem.W.Frag) (mg : Str → Option Value) (g : D → R D) : V → Hp → VK → Prop := fun x H Q =>
  ∃ (Hs : Hp) (a : D) (E : XK), Ex Hs H ∧ Rep K Hs a x ∧ PstD K mg Hs H (g a) Q E

theorem size_eq : (sizeLine : Nat) = 16777216 := sizeLine_eq
section
variable {X : Cx}
theorem bs_add : OpR X (binaryOp .Add) (rD X.K X.mg D.add) := by
  intro pins s σ H x y v u Q I rx ry h
  obtain ⟨Hs, a, b, E, he, ra, rb, hp⟩ := h
  cases a with
  | int i =>
    cases b with
    | int j =>
      rw [ra.intI] at rx
      rw [rb.intI] at ry
      exact op_add pins s σ H _ _ v u Q I rx ry ⟨i, j, rfl, rfl, hp.now he (.int _)⟩
    | _ => exact hp.elim
  | str i =>
    cases b with
    | str j =>
      rw [ra.strI] at rx
      rw [rb.strI] at ry
      have hp : PstD X.K X.mg Hs H (if i.length + j.length ≤ 16777216 then .ok (.str (i ++ j)) else .stuck) Q E := hp
      by_cases hz : i.length + j.length ≤ 16777216
      · rw [if_pos hz] at hp
        exact op_add_str pins s σ H _ _ v u Q I rx ry ⟨i, j, rfl, rfl, by rw [size_eq]; exact hz, hp.now he (.str _)⟩
      · rw [if_neg hz] at hp
        exact hp.elim
    | _ => exact hp.elim
  | lst i =>
    cases b with
    | lst j =>
      have hp : PstD X.K X.mg Hs H (if i.length + j.length ≤ 16777216 then .ok (.lst (i ++ j)) else .stuck) Q E := hp
      by_cases hz : i.length + j.length ≤ 16777216
      · rw [if_pos hz] at hp
        obtain ⟨p, vs, rfl, e1, r1⟩ := ra.lstI
        obtain ⟨q, ws, rfl, e2, r2⟩ := rb.lstI
        refine op_cat pins s σ H _ _ v u Q I rx ry ⟨p, q, vs, ws, rfl, rfl, he _ _ e1, he _ _ e2, by rw [size_eq, ← r1.length, ← r2.length]; exact hz, fun n hn => ?_⟩
        exact hp _ _ _ (Le.new1 he hn) (mk_lst he (r1.append r2) hn)
      · rw [if_neg hz] at hp
        exact hp.elim
    | _ => exact hp.elim
  | tup i =>
    cases b with
    | tup j =>
      have hp : PstD X.K X.mg Hs H (if i.length + j.length ≤ 16777216 then .ok (.tup (i ++ j)) else .stuck) Q E := hp
      by_cases hz : i.length + j.length ≤ 16777216
      · rw [if_pos hz] at hp
        obtain ⟨p, vs, rfl, e1, r1⟩ := ra.tupI
        obtain ⟨q, ws, rfl, e2, r2⟩ := rb.tupI
        refine op_catA pins s σ H _ _ v u Q I rx ry ⟨p, q, vs, ws, rfl, rfl, SqT.of (he _ _ e1), SqT.of (he _ _ e2), by rw [size_eq, ← r1.length, ← r2.length]; exact hz, fun h0 => ?_, fun h0 h1 => ?_, fun h0 h1 n hn => ?_⟩
        · subst h0
          cases r1
          exact hp.now he (.tup e2 r2)
        · subst h1
          cases r2
          rw [List.append_nil] at hp
          exact hp.now he (.tup e1 r1)
        · exact hp _ _ _ (Le.new1 he hn) (mk_tup he (r1.append r2) hn)
      · rw [if_neg hz] at hp
        exact hp.elim
    | _ => exact hp.elim
  | _ => exact hp.elim
theorem bs_int2 {op : Value → Value → Sem Value} {g : D → D → R D} {C : Int → Int → Prop} {f : Int → Int → Int} {c : Int → Int → Bool} (ho : OpR X op (rI C fun i j => .int (f i j)))
    (hg : ∀ a b, (∃ i j, a = .int i ∧ b = .int j ∧ g a b = if c i j = true then .ok (.int (f i j)) else .stuck) ∨ g a b = .stuck) (hc : ∀ i j, c i j = true → C i j) : OpR X op (rD X.K X.mg g) := by
  intro pins s σ H x y v u Q I rx ry h
  obtain ⟨Hs, a, b, E, he, ra, rb, hp⟩ := h
  rcases hg a b with ⟨i, j, rfl, rfl, e⟩ | e
  · rw [e] at hp
    rw [ra.intI] at rx
    rw [rb.intI] at ry
    by_cases hz : c i j = true
    · rw [if_pos hz] at hp
      exact ho pins s σ H _ _ v u Q I rx ry ⟨i, j, rfl, rfl, hc i j hz, hp.now he (.int _)⟩
    · rw [if_neg hz] at hp
      exact hp.elim
  · rw [e] at hp
    exact hp.elim
theorem bs_int0 {op : Value → Value → Sem Value} {g : D → D → R D} {f : Int → Int → Int} (ho : OpR X op (rI0 fun i j => .int (f i j)))
    (hg : ∀ a b, (∃ i j, a = .int i ∧ b = .int j ∧ g a b = .ok (.int (f i j))) ∨ g a b = .stuck) : OpR X op (rD X.K X.mg g) := by
  intro pins s σ H x y v u Q I rx ry h
  obtain ⟨Hs, a, b, E, he, ra, rb, hp⟩ := h
  rcases hg a b with ⟨i, j, rfl, rfl, e⟩ | e
  · rw [e] at hp
    rw [ra.intI] at rx
    rw [rb.intI] at ry
    exact ho pins s σ H _ _ v u Q I rx ry ⟨i, j, rfl, rfl, hp.now he (.int _)⟩
  · rw [e] at hp
    exact hp.elim
theorem bs_sub : OpR X (binaryOp .Sub) (rD X.K X.mg D.sub) := bs_int0 op_sub fun a b => by
  cases a <;> cases b <;> first | exact .inl ⟨_, _, rfl, rfl, rfl⟩ | exact .inr rfl
theorem bs_band : OpR X (binaryOp .BitAnd) (rD X.K X.mg D.band) := bs_int0 op_and fun a b => by
  cases a <;> cases b <;> first | exact .inl ⟨_, _, rfl, rfl, rfl⟩ | exact .inr rfl
theorem bs_fdiv : OpR X (binaryOp .FloorDiv) (rD X.K X.mg D.fdiv) := bs_int2 (c := fun _ j => divOk j) op_fdivW (fun a b => by
  cases a <;> cases b <;> first | exact .inl ⟨_, _, rfl, rfl, rfl⟩ | exact .inr rfl) fun i j h => by
  unfold divOk at h
  simp only [Bool.and_eq_true, decide_eq_true_eq] at h
  exact h
theorem bs_mod : OpR X (binaryOp .Mod) (rD X.K X.mg D.mod) := bs_int2 (c := fun _ j => decide (0 < j)) op_mod (fun a b => by
  cases a <;> cases b <;> first | exact .inl ⟨_, _, rfl, rfl, by simp [D.mod]⟩ | exact .inr rfl) fun i j h => of_decide_eq_true h
theorem bs_pow : OpR X (binaryOp .Pow) (rD X.K X.mg D.pow) := bs_int2 (c := powOk) op_pow (fun a b => by
  cases a <;> cases b <;> first | exact .inl ⟨_, _, rfl, rfl, rfl⟩ | exact .inr rfl) fun i j h => by
  unfold powOk at h
  simp only [Bool.and_eq_true, decide_eq_true_eq] at h
  exact ⟨h.1.1, h.1.2, h.2⟩
theorem bs_shr : OpR X (binaryOp .RShift) (rD X.K X.mg D.shr) := bs_int2 (c := fun _ j => decide (0 ≤ j)) op_shr (fun a b => by
  cases a <;> cases b <;> first | exact .inl ⟨_, _, rfl, rfl, by simp [D.shr]⟩ | exact .inr rfl) fun i j h => of_decide_eq_true h
theorem reps_rep {K : PySem.W.Frag} {H : Hp} {ds : List D} {vs : List V} (r : Reps K H ds vs) : ∀ k : Nat, Reps K H (List.replicate k ds).flatten (List.replicate k vs).flatten
  | 0 => .nil
  | k + 1 => by
    rw [List.replicate_succ, List.replicate_succ, List.flatten_cons, List.flatten_cons]
    exact r.append (reps_rep r k)
theorem bs_mul : OpR X (binaryOp .Mult) (rD X.K X.mg D.mul) := by
  intro pins s σ H x y v u Q I rx ry h
  obtain ⟨Hs, a, b, E, he, ra, rb, hp⟩ := h
  cases a with
  | int i =>
    cases b with
    | int j =>
      have hp : PstD X.K X.mg Hs H (if mulOk i j then .ok (.int (i * j)) else .stuck) Q E := hp
      by_cases hz : mulOk i j = true
      · rw [if_pos hz] at hp
        rw [ra.intI] at rx
        rw [rb.intI] at ry
        exact op_mulW pins s σ H _ _ v u Q I rx ry ⟨i, j, rfl, rfl, (by unfold mulOk at hz; unfold CMulW; exact of_decide_eq_true hz), hp.now he (.int _)⟩
      · rw [if_neg hz] at hp
        exact hp.elim
    | _ => exact hp.elim
  | lst i =>
    cases b with
    | int k =>
      have hp : PstD X.K X.mg Hs H (if 0 ≤ k ∧ k < 16777216 ∧ i.length * k.toNat ≤ 16777216 then .ok (.lst (List.replicate k.toNat i).flatten) else .stuck) Q E := hp
      by_cases hz : 0 ≤ k ∧ k < 16777216 ∧ i.length * k.toNat ≤ 16777216
      · rw [if_pos hz] at hp
        obtain ⟨p, vs, rfl, e1, r1⟩ := ra.lstI
        rw [rb.intI] at ry
        refine op_rep pins s σ H _ _ v u Q I rx ry ⟨p, k, vs, rfl, rfl, he _ _ e1, by omega, by omega, by rw [size_eq, ← r1.length]; exact hz.2.2, fun n hn => ?_⟩
        exact hp _ _ _ (Le.new1 he hn) (mk_lst he (reps_rep r1 _) hn)
      · rw [if_neg hz] at hp
        exact hp.elim
    | _ => exact hp.elim
  | _ => exact hp.elim
theorem bs_all : ∀ b : Bop, OpR X (binaryOp b.op) (rD X.K X.mg b.f)
  | .add => bs_add | .sub => bs_sub | .mul => bs_mul | .fdiv => bs_fdiv | .mod => bs_mod | .pow => bs_pow | .shr => bs_shr | .band => bs_band
end

/-! ## comparisons -/
def D.deep (a : D) : Bool := a.ns && SeqAt.shaped a.pd
def D.eq : D → D → R D
  | .int i, .int j => .ok (.bl (decide (i = j)))
  | .bl i, .bl j => .ok (.bl (decide (i = j)))
  | .str i, .str j => .ok (.bl (decide (i = j)))
  | .dic, .dic => .ok (.bl true)
  | a, b => if a.deep && b.deep then .ok (.bl (PyData.eqv a.pd b.pd)) else .stuck
def D.neg : R D → R D
  | .ok (.bl b) => .ok (.bl (!b))
  | .exc x => .exc x
  | _ => .stuck
def D.ne (a b : D) : R D := D.neg (D.eq a b)
def D.nn : D → Bool
  | .non => false
  | _ => true
def D.lt : D → D → R D
  | .int i, .int j => .ok (.bl (decide (i < j)))
  | a, b => if a.ns && b.ns && PySem.W.alike a.pd b.pd && decide (a.pd.depth ≤ 64) && a.nn then .ok (.bl (PySem.W.dataLt a.pd b.pd)) else .stuck
def D.cmpI (p : Int → Int → Bool) : D → D → R D
  | .int i, .int j => .ok (.bl (p i j))
  | _, _ => .stuck
def D.flat : D → Bool
  | .non => true | .bl _ => true | .int _ => true | .str _ => true | _ => false
def D.isin : D → D → R D
  | x, .tup ys => if x.flat && ys.all D.flat then .ok (.bl (ys.any fun y => PyData.eqv y.pd x.pd)) else .stuck
  | x, .lst ys => if x.deep && (D.lst ys).deep then .ok (.bl (ys.any fun y => PyData.eqv y.pd x.pd)) else .stuck
  | .str x, .str y => if x.length = 1 then .ok (.bl (decide (x.cps.getD 0 0 ∈ y.cps.toList))) else .stuck
  | _, _ => .stuck
def D.notin (x y : D) : R D := D.neg (D.isin x y)
inductive Cop where
  | eq | ne | lt | le | gt | ge | isin | notin
  deriving DecidableEq
def Cop.op : Cop → CmpOp
  | .eq => .Eq | .ne => .NotEq | .lt => .Lt | .le => .LtE | .gt => .Gt | .ge => .GtE | .isin => .In | .notin => .NotIn
def Cop.f : Cop → D → D → R D
  | .eq => D.eq | .ne => D.ne | .lt => D.lt | .le => D.cmpI fun i j => decide (i ≤ j) | .gt => D.cmpI fun i j => decide (j < i) | .ge => D.cmpI fun i j => decide (j ≤ i)
  | .isin => D.isin | .notin => D.notin
section
variable {X : Cx}
theorem D.deep_ns {a : D} (h : a.deep = true) : a.ns = true ∧ SeqAt.shaped a.pd = true := by
  unfold D.deep at h
  simpa only [Bool.and_eq_true] using h
/-- an empty dict beside another one -/
theorem dic_beside {pins : List (Addr × Obj)} {σ : L2.St} {H : Hp} {s : Shared} {Q : VK} {E : XK} {a b : Addr} (hu : X.A.units < cLine) (I : Inv X pins σ H s) (ea : H a = some (.dK [])) (eb : H b = some (.dK [])) (q : Q (.bl true) H) :
    wpAny (model X.prog X.w) X.A (compareOp .Eq (.ref a) (.ref b)) (EP X pins σ Q) X.xe s := by
  have da := I.hok a _ ea
  have db := I.hok b _ eb
  obtain ⟨_, na, wa, pa, ta⟩ := (da : ObjOk X.prog X.w H s.heap a (.dK []))
  obtain ⟨_, nb, wb, pb, tb⟩ := (db : ObjOk X.prog X.w H s.heap b (.dK []))
  cases pa
  cases pb
  exact PySem.W.keq_eq (knd := mixKind X.prog X.w) (ka := []) (kb := []) (r := true) na nb ta tb hu (fun _ => .nil) ⟨.bl true, H, I, rfl, q⟩
theorem dic_other {pins : List (Addr × Obj)} {σ : L2.St} {H : Hp} {s : Shared} {Q : VK} {E : XK} {a b : Addr} (hu : X.A.units < cLine) (I : Inv X pins σ H s) (ea : H a = some (.dK [])) (eb : H b = some (.dK [])) (q : Q (.bl false) H) :
    wpAny (model X.prog X.w) X.A (compareOp .NotEq (.ref a) (.ref b)) (EP X pins σ Q) X.xe s := by
  have da := I.hok a _ ea
  have db := I.hok b _ eb
  obtain ⟨_, na, wa, pa, ta⟩ := (da : ObjOk X.prog X.w H s.heap a (.dK []))
  obtain ⟨_, nb, wb, pb, tb⟩ := (db : ObjOk X.prog X.w H s.heap b (.dK []))
  cases pa
  cases pb
  exact PySem.W.keq_ne (knd := mixKind X.prog X.w) (ka := []) (kb := []) (r := true) na nb ta tb hu (fun _ => .nil) ⟨.bl false, H, I, rfl, q⟩
theorem scalE {v : V} {u : Value} {pins : List (Addr × Obj)} {σ : L2.St} {H Hs : Hp} {s : Shared} {Q : VK} {E : XK} {a b : D} {x y : V} (hu : X.A.units + 64 < cLine) (I : Inv X pins σ H s) (he : Ex Hs H) (ra : Rep X.K Hs a x) (rb : Rep X.K Hs b y)
    {vv uu : Value} (rx : RelV x vv) (ry : RelV y uu) (hp : PstD X.K X.mg Hs H (D.eq a b) Q E) : wpAny (model X.prog X.w) X.A (compareOp .Eq vv uu) (EP X pins σ Q) X.xe s := by
  have gen : PstD X.K X.mg Hs H (if a.deep && b.deep then .ok (.bl (PyData.eqv a.pd b.pd)) else .stuck) Q E → wpAny (model X.prog X.w) X.A (compareOp .Eq vv uu) (EP X pins σ Q) X.xe s := fun hp => by
    by_cases hz : (a.deep && b.deep) = true
    · rw [if_pos hz] at hp
      rw [Bool.and_eq_true] at hz
      have h1 := D.deep_ns hz.1
      have h2 := D.deep_ns hz.2
      exact op_eqD hu pins s σ H x y vv uu Q I rx ry ⟨a.pd, b.pd, (ra.mono he).dp h1.1, (rb.mono he).dp h2.1, h1.2, h2.2, hp.now he (.bl _)⟩
    · rw [if_neg hz] at hp
      exact hp.elim
  cases a with
  | int i =>
    cases b with
    | int j =>
      rw [ra.intI] at rx
      rw [rb.intI] at ry
      have hq : Q (.bl (decide (i = j))) H := hp.now he (.bl _)
      refine op_eq pins s σ H _ _ vv uu Q I rx ry ⟨rfl, ?_⟩
      have : decide (V.int i = V.int j) = decide (i = j) := by simp
      rw [this]
      exact hq
    | _ => exact gen hp
  | bl i =>
    cases b with
    | bl j =>
      rw [ra.blI] at rx
      rw [rb.blI] at ry
      have hq : Q (.bl (decide (i = j))) H := hp.now he (.bl _)
      refine op_eq pins s σ H _ _ vv uu Q I rx ry ⟨rfl, ?_⟩
      have : decide (V.bl i = V.bl j) = decide (i = j) := by simp
      rw [this]
      exact hq
    | _ => exact gen hp
  | str i =>
    cases b with
    | str j =>
      rw [ra.strI] at rx
      rw [rb.strI] at ry
      have hq : Q (.bl (decide (i = j))) H := hp.now he (.bl _)
      refine op_eq pins s σ H _ _ vv uu Q I rx ry ⟨rfl, ?_⟩
      have : decide (V.str i = V.str j) = decide (i = j) := by simp
      rw [this]
      exact hq
    | _ => exact gen hp
  | dic =>
    cases b with
    | dic =>
      obtain ⟨p, rfl, h1⟩ := ra.dicI
      obtain ⟨p2, rfl, h2⟩ := rb.dicI
      obtain rfl : vv = Value.ref p := rx
      obtain rfl : uu = Value.ref p2 := ry
      exact dic_beside (E := E) (by omega) I (he _ _ h1) (he _ _ h2) (hp.now he (.bl _))
    | _ => exact gen hp
  | _ => exact gen hp
theorem bs_eq (hu : X.A.units + 64 < cLine) : OpR X (compareOp .Eq) (rD X.K X.mg D.eq) := by
  intro pins s σ H x y v u Q I rx ry h
  obtain ⟨Hs, a, b, E, he, ra, rb, hp⟩ := h
  exact scalE (v := x) (u := v) hu I he ra rb rx ry hp
theorem scalN {pins : List (Addr × Obj)} {σ : L2.St} {H Hs : Hp} {s : Shared} {Q : VK} {E : XK} {a b : D} {x y : V} (hu : X.A.units + 64 < cLine) (I : Inv X pins σ H s) (he : Ex Hs H) (ra : Rep X.K Hs a x) (rb : Rep X.K Hs b y)
    {vv uu : Value} (rx : RelV x vv) (ry : RelV y uu) (hp : PstD X.K X.mg Hs H (D.ne a b) Q E) : wpAny (model X.prog X.w) X.A (compareOp .NotEq vv uu) (EP X pins σ Q) X.xe s := by
  have gen : PstD X.K X.mg Hs H (D.neg (if a.deep && b.deep then .ok (.bl (PyData.eqv a.pd b.pd)) else .stuck)) Q E → wpAny (model X.prog X.w) X.A (compareOp .NotEq vv uu) (EP X pins σ Q) X.xe s := fun hp => by
    by_cases hz : (a.deep && b.deep) = true
    · rw [if_pos hz] at hp
      rw [Bool.and_eq_true] at hz
      have h1 := D.deep_ns hz.1
      have h2 := D.deep_ns hz.2
      exact op_neD hu pins s σ H x y vv uu Q I rx ry ⟨a.pd, b.pd, (ra.mono he).dp h1.1, (rb.mono he).dp h2.1, h1.2, h2.2, Pst.now (d := D.bl _) hp he (.bl _)⟩
    · rw [if_neg hz] at hp
      exact hp.elim
  cases a with
  | int i =>
    cases b with
    | int j =>
      rw [ra.intI] at rx
      rw [rb.intI] at ry
      have hq : Q (.bl (!decide (i = j))) H := Pst.now (d := D.bl _) hp he (.bl _)
      refine op_ne pins s σ H _ _ vv uu Q I rx ry ⟨rfl, ?_⟩
      have : decide (V.int i = V.int j) = decide (i = j) := by simp
      rw [this]
      exact hq
    | _ => exact gen hp
  | bl i =>
    cases b with
    | bl j =>
      rw [ra.blI] at rx
      rw [rb.blI] at ry
      have hq : Q (.bl (!decide (i = j))) H := Pst.now (d := D.bl _) hp he (.bl _)
      refine op_ne pins s σ H _ _ vv uu Q I rx ry ⟨rfl, ?_⟩
      have : decide (V.bl i = V.bl j) = decide (i = j) := by simp
      rw [this]
      exact hq
    | _ => exact gen hp
  | str i =>
    cases b with
    | str j =>
      rw [ra.strI] at rx
      rw [rb.strI] at ry
      have hq : Q (.bl (!decide (i = j))) H := Pst.now (d := D.bl _) hp he (.bl _)
      refine op_ne pins s σ H _ _ vv uu Q I rx ry ⟨rfl, ?_⟩
      have : decide (V.str i = V.str j) = decide (i = j) := by simp
      rw [this]
      exact hq
    | _ => exact gen hp
  | dic =>
    cases b with
    | dic =>
      obtain ⟨p, rfl, h1⟩ := ra.dicI
      obtain ⟨p2, rfl, h2⟩ := rb.dicI
      obtain rfl : vv = Value.ref p := rx
      obtain rfl : uu = Value.ref p2 := ry
      exact dic_other (E := E) (by omega) I (he _ _ h1) (he _ _ h2) (Pst.now (d := D.bl _) hp he (.bl _))
    | _ => exact gen hp
  | _ => exact gen hp
theorem bs_ne (hu : X.A.units + 64 < cLine) : OpR X (compareOp .NotEq) (rD X.K X.mg D.ne) := by
  intro pins s σ H x y v u Q I rx ry h
  obtain ⟨Hs, a, b, E, he, ra, rb, hp⟩ := h
  exact scalN hu I he ra rb rx ry hp
theorem bs_lt (hu : X.A.units + 64 < cLine) : OpR X (compareOp .Lt) (rD X.K X.mg D.lt) := by
  intro pins s σ H x y v u Q I rx ry h
  obtain ⟨Hs, a, b, E, he, ra, rb, hp⟩ := h
  have gen : PstD X.K X.mg Hs H (if a.ns && b.ns && PySem.W.alike a.pd b.pd && decide (a.pd.depth ≤ 64) && a.nn then .ok (.bl (PySem.W.dataLt a.pd b.pd)) else .stuck) Q E → wpAny (model X.prog X.w) X.A (compareOp .Lt v u) (EP X pins σ Q) X.xe s := fun hp => by
    by_cases hz : (a.ns && b.ns && PySem.W.alike a.pd b.pd && decide (a.pd.depth ≤ 64) && a.nn) = true
    · rw [if_pos hz] at hp
      simp only [Bool.and_eq_true, decide_eq_true_eq] at hz
      obtain ⟨⟨⟨⟨h1, h2⟩, h3⟩, h4⟩, h5⟩ := hz
      obtain ⟨as, q1⟩ := Dp.reads I _ x v ((ra.mono he).dp h1) rx
      obtain ⟨bs, q2⟩ := Dp.reads I _ y u ((rb.mono he).dp h2) ry
      refine PySem.W.lt_data q1 q2 h3 ?_ (by have := Nat.min_le_left a.pd.depth b.pd.depth; omega) ⟨.bl _, H, I, rfl, hp.now he (.bl _)⟩
      cases a <;> first | (intro z; cases z; done) | (exact absurd h5 (by decide))
    · rw [if_neg hz] at hp
      exact hp.elim
  cases a with
  | int i =>
    cases b with
    | int j =>
      rw [ra.intI] at rx
      rw [rb.intI] at ry
      exact op_lt pins s σ H _ _ v u Q I rx ry ⟨i, j, rfl, rfl, hp.now he (.bl _)⟩
    | _ => exact gen hp
  | _ => exact gen hp
theorem bs_cmpI {op : Value → Value → Sem Value} {p : Int → Int → Bool} (ho : OpR X op (rI0 fun i j => .bl (p i j))) : OpR X op (rD X.K X.mg (D.cmpI p)) := by
  intro pins s σ H x y v u Q I rx ry h
  obtain ⟨Hs, a, b, E, he, ra, rb, hp⟩ := h
  cases a with
  | int i =>
    cases b with
    | int j =>
      rw [ra.intI] at rx
      rw [rb.intI] at ry
      exact ho pins s σ H _ _ v u Q I rx ry ⟨i, j, rfl, rfl, hp.now he (.bl _)⟩
    | _ => exact hp.elim
  | _ => exact hp.elim
theorem flat_V {K : PySem.W.Frag} {H : Hp} {d : D} {v : V} (r : Rep K H d v) (h : d.flat = true) : flatV v = true := by
  cases r <;> first | rfl | cases h
theorem flat_eqV {K : PySem.W.Frag} {H : Hp} {a b : D} {x y : V} (ra : Rep K H a x) (rb : Rep K H b y) (ha : a.flat = true) (hb : b.flat = true) : eqV x y = PyData.eqv a.pd b.pd := by
  cases ra <;> first
    | (simp [D.flat] at ha; done)
    | (cases rb <;> first | (simp [D.flat] at hb; done) | simp [eqV, D.pd, PyData.eqv])
theorem flat_all {K : PySem.W.Frag} {H : Hp} : ∀ {ds : List D} {vs : List V}, Reps K H ds vs → ds.all D.flat = true → vs.all flatV = true
  | _, _, .nil, _ => rfl
  | _, _, .cons r t, h => by
    simp only [List.all_cons, Bool.and_eq_true] at h ⊢
    exact ⟨flat_V r h.1, flat_all t h.2⟩
theorem flat_in {K : PySem.W.Frag} {H : Hp} {d : D} {x : V} (r : Rep K H d x) (hd : d.flat = true) : ∀ {ds : List D} {vs : List V}, Reps K H ds vs → ds.all D.flat = true → inV x vs = ds.any fun y => PyData.eqv y.pd d.pd
  | _, _, .nil, _ => rfl
  | _, _, .cons r1 t, h => by
    simp only [List.all_cons, Bool.and_eq_true] at h
    have ih := flat_in r hd t h.2
    unfold inV at ih ⊢
    simp only [List.any_cons]
    rw [ih, flat_eqV r1 r h.1 hd]
theorem any_pds (x : D) : ∀ ys : List D, (D.pds ys).any (fun z => PyData.eqv z x.pd) = ys.any fun y => PyData.eqv y.pd x.pd
  | [] => rfl
  | y :: ys => by simp only [D.pds, List.any_cons, any_pds x ys]
theorem bs_in (hu : X.A.units + 65 < cLine) : OpR X (compareOp .In) (rD X.K X.mg D.isin) := by
  intro pins s σ H x y v u Q I rx ry h
  obtain ⟨Hs, a, b, E, he, ra, rb, hp⟩ := h
  cases b with
  | tup ys =>
    have hp : PstD X.K X.mg Hs H (if a.flat && ys.all D.flat then .ok (.bl (ys.any fun y => PyData.eqv y.pd a.pd)) else .stuck) Q E := by
      cases a <;> exact hp
    by_cases hz : (a.flat && ys.all D.flat) = true
    · rw [if_pos hz] at hp
      rw [Bool.and_eq_true] at hz
      obtain ⟨p, vs, rfl, e1, r1⟩ := rb.tupI
      refine op_in_seq pins s σ H _ _ v u Q I rx ry ⟨p, vs, rfl, .inr (SqT.of (he _ _ e1)), flat_V ra hz.1, flat_all r1 hz.2, ?_⟩
      rw [if_neg Bool.false_ne_true, flat_in ra hz.1 r1 hz.2]
      exact hp.now he (.bl _)
    · rw [if_neg hz] at hp
      exact hp.elim
  | lst ys =>
    have hp : PstD X.K X.mg Hs H (if a.deep && (D.lst ys).deep then .ok (.bl (ys.any fun y => PyData.eqv y.pd a.pd)) else .stuck) Q E := by
      cases a <;> exact hp
    by_cases hz : (a.deep && (D.lst ys).deep) = true
    · rw [if_pos hz] at hp
      rw [Bool.and_eq_true] at hz
      have h1 := D.deep_ns hz.1
      have h2 := D.deep_ns hz.2
      refine op_inD hu pins s σ H _ _ v u Q I rx ry ⟨a.pd, D.pds ys, (ra.mono he).dp h1.1, (rb.mono he).dp h2.1, h1.2, h2.2, ?_⟩
      rw [any_pds]
      exact hp.now he (.bl _)
    · rw [if_neg hz] at hp
      exact hp.elim
  | str z =>
    cases a with
    | str c =>
      have hp : PstD X.K X.mg Hs H (if c.length = 1 then .ok (.bl (decide (c.cps.getD 0 0 ∈ z.cps.toList))) else .stuck) Q E := hp
      by_cases hz : c.length = 1
      · rw [if_pos hz] at hp
        rw [ra.strI] at rx
        rw [rb.strI] at ry
        obtain ⟨n, rfl⟩ : ∃ n, c = ⟨#[n]⟩ := by
          obtain ⟨⟨l⟩⟩ := c
          match l, hz with
          | [n], _ => exact ⟨n, rfl⟩
        exact op_in_sign pins s σ H _ _ v u Q I rx ry ⟨n, z, rfl, rfl, hp.now he (.bl _)⟩
      · rw [if_neg hz] at hp
        exact hp.elim
    | _ => exact hp.elim
  | _ => cases a <;> exact hp.elim
theorem bs_notin (hu : X.A.units + 65 < cLine) : OpR X (compareOp .NotIn) (rD X.K X.mg D.notin) := by
  intro pins s σ H x y v u Q I rx ry h
  obtain ⟨Hs, a, b, E, he, ra, rb, hp⟩ := h
  cases b with
  | tup ys =>
    have hp : PstD X.K X.mg Hs H (D.neg (if a.flat && ys.all D.flat then .ok (.bl (ys.any fun y => PyData.eqv y.pd a.pd)) else .stuck)) Q E := by
      cases a <;> exact hp
    by_cases hz : (a.flat && ys.all D.flat) = true
    · rw [if_pos hz] at hp
      rw [Bool.and_eq_true] at hz
      obtain ⟨p, vs, rfl, e1, r1⟩ := rb.tupI
      refine op_notIn_seq pins s σ H _ _ v u Q I rx ry ⟨p, vs, rfl, .inr (SqT.of (he _ _ e1)), flat_V ra hz.1, flat_all r1 hz.2, ?_⟩
      rw [if_pos rfl, flat_in ra hz.1 r1 hz.2]
      exact Pst.now (d := D.bl _) hp he (.bl _)
    · rw [if_neg hz] at hp
      exact hp.elim
  | lst ys =>
    have hp : PstD X.K X.mg Hs H (D.neg (if a.deep && (D.lst ys).deep then .ok (.bl (ys.any fun y => PyData.eqv y.pd a.pd)) else .stuck)) Q E := by
      cases a <;> exact hp
    by_cases hz : (a.deep && (D.lst ys).deep) = true
    · rw [if_pos hz] at hp
      rw [Bool.and_eq_true] at hz
      have h1 := D.deep_ns hz.1
      have h2 := D.deep_ns hz.2
      refine op_notInD hu pins s σ H _ _ v u Q I rx ry ⟨a.pd, D.pds ys, (ra.mono he).dp h1.1, (rb.mono he).dp h2.1, h1.2, h2.2, ?_⟩
      rw [any_pds]
      exact Pst.now (d := D.bl _) hp he (.bl _)
    · rw [if_neg hz] at hp
      exact hp.elim
  | str z =>
    cases a with
    | str c =>
      have hp : PstD X.K X.mg Hs H (D.neg (if c.length = 1 then .ok (.bl (decide (c.cps.getD 0 0 ∈ z.cps.toList))) else .stuck)) Q E := hp
      by_cases hz : c.length = 1
      · rw [if_pos hz] at hp
        rw [ra.strI] at rx
        rw [rb.strI] at ry
        obtain ⟨n, rfl⟩ : ∃ n, c = ⟨#[n]⟩ := by
          obtain ⟨⟨l⟩⟩ := c
          match l, hz with
          | [n], _ => exact ⟨n, rfl⟩
        exact op_notIn_sign pins s σ H _ _ v u Q I rx ry ⟨n, z, rfl, rfl, Pst.now (d := D.bl _) hp he (.bl _)⟩
      · rw [if_neg hz] at hp
        exact hp.elim
    | _ => exact hp.elim
  | _ => cases a <;> exact hp.elim
theorem cs_all (hu : X.A.units + 65 < cLine) : ∀ c : Cop, OpR X (compareOp c.op) (rD X.K X.mg c.f)
  | .eq => bs_eq (by omega) | .ne => bs_ne (by omega) | .lt => bs_lt (by omega) | .le => bs_cmpI op_le | .gt => bs_cmpI op_gt | .ge => bs_cmpI op_ge | .isin => bs_in hu | .notin => bs_notin hu
end
end Py

namespace Py
open PySem PySem.Spec PyProof.Rows L2

/-! ## built-ins called with values -/
def rL (K : PySem.W.Frag) (mg : Str → Option Value) (g : List D → R D) : List V → Hp → VK → Prop := fun vs H Q =>
  ∃ (Hs : Hp) (ds : List D) (E : XK), Ex Hs H ∧ Reps K Hs ds vs ∧ PstD K mg Hs H (g ds) Q E

/-- the ints that a list is -/
def asInts : List D → Option (List Int)
  | [] => some []
  | .int i :: r => (asInts r).map (i :: ·)
  | _ :: _ => none
theorem asInts_some : ∀ {ds : List D} {ns : List Int}, asInts ds = some ns → ds = ns.map D.int
  | [], ns, h => by simp [asInts] at h; subst h; rfl
  | .int i :: r, ns, h => by
    simp only [asInts] at h
    cases e : asInts r with
    | none => rw [e] at h; cases h
    | some l =>
      rw [e] at h
      have h' : i :: l = ns := by simpa using h
      subst h'
      rw [asInts_some e]
      rfl
  | .non :: r, ns, h => by simp [asInts] at h
  | .bl _ :: r, ns, h => by simp [asInts] at h
  | .str _ :: r, ns, h => by simp [asInts] at h
  | .tup _ :: r, ns, h => by simp [asInts] at h
  | .lst _ :: r, ns, h => by simp [asInts] at h
  | .scr _ :: r, ns, h => by simp [asInts] at h
  | .dic :: r, ns, h => by simp [asInts] at h
@[simp] theorem asInts_map : ∀ ns : List Int, asInts (ns.map D.int) = some ns
  | [] => rfl
  | n :: ns => by simp [asInts, asInts_map ns]
def asBls : List D → Option (List Bool)
  | [] => some []
  | .bl i :: r => (asBls r).map (i :: ·)
  | _ :: _ => none
theorem asBls_some : ∀ {ds : List D} {ns : List Bool}, asBls ds = some ns → ds = ns.map D.bl
  | [], ns, h => by simp [asBls] at h; subst h; rfl
  | .bl i :: r, ns, h => by
    simp only [asBls] at h
    cases e : asBls r with
    | none => rw [e] at h; cases h
    | some l =>
      rw [e] at h
      have h' : i :: l = ns := by simpa using h
      subst h'
      rw [asBls_some e]
      rfl
  | .non :: r, ns, h => by simp [asBls] at h
  | .int _ :: r, ns, h => by simp [asBls] at h
  | .str _ :: r, ns, h => by simp [asBls] at h
  | .tup _ :: r, ns, h => by simp [asBls] at h
  | .lst _ :: r, ns, h => by simp [asBls] at h
  | .scr _ :: r, ns, h => by simp [asBls] at h
  | .dic :: r, ns, h => by simp [asBls] at h
@[simp] theorem asBls_map : ∀ ns : List Bool, asBls (ns.map D.bl) = some ns
  | [] => rfl
  | n :: ns => by simp [asBls, asBls_map ns]

def D.len : D → R D
  | .str x => if x.length ≤ 16777216 then .ok (.int x.length) else .stuck
  | .lst xs => .ok (.int xs.length)
  | .tup xs => .ok (.int xs.length)
  | .scr xs => .ok (.int xs.length)
  | _ => .stuck
def D.abs : D → R D
  | .int i => .ok (.int (if i < 0 then -i else i))
  | _ => .stuck
def D.max2 : D → D → R D
  | .int i, .int j => .ok (.int (if j > i then j else i))
  | _, _ => .stuck
def D.min2 : D → D → R D
  | .int i, .int j => .ok (.int (if j < i then j else i))
  | _, _ => .stuck
def D.seq : D → Option (List D)
  | .lst xs => some xs
  | .tup xs => some xs
  | _ => none
def D.minL (d : D) : R D := match d.seq.bind asInts with
  | some (n :: ns) => .ok (.int (ns.foldl min n))
  | _ => .stuck
def D.maxL (d : D) : R D := match d.seq.bind asInts with
  | some (n :: ns) => .ok (.int (ns.foldl max n))
  | _ => .stuck
/-- min(xs, default=None), xs a list -/
def D.minD : D → R D
  | .lst xs => match asInts xs with
    | some (n :: ns) => .ok (.int (ns.foldl min n))
    | some [] => .ok .non
    | none => .stuck
  | _ => .stuck
def D.listOf : D → R D
  | .lst xs => .ok (.lst xs)
  | .tup xs => .ok (.lst xs)
  | .scr ns => .ok (.lst (ns.map D.int))
  | _ => .stuck
def D.tupOf : D → R D
  | .lst xs => .ok (.tup xs)
  | .tup xs => .ok (.tup xs)
  | .scr ns => .ok (.tup (ns.map D.int))
  | _ => .stuck
def D.allL : D → R D
  | .lst xs => match asBls xs with
    | some bs => .ok (.bl (bs.all id))
    | none => .stuck
  | _ => .stuck
def D.anyL : D → R D
  | .lst xs => match asBls xs with
    | some bs => .ok (.bl (bs.any id))
    | none => .stuck
  | _ => .stuck
def D.intOf : D → R D
  | .int i => .ok (.int i)
  | .bl b => .ok (.int (if b then 1 else 0))
  | _ => .stuck
def D.isTup : D → Bool
  | .tup (_ :: _) => true
  | _ => false
def D.noTup : D → Bool
  | .tup _ => false
  | .non => false
  | _ => true
def sortOk (ds : List D) : Bool := ds.all D.ns && (ds.all fun a => ds.all fun b => PySem.W.alike a.pd b.pd) && (ds.all fun a => decide (a.pd.depth ≤ 60)) && (ds.all D.isTup || ds.all D.noTup)
def leD (a b : D) : Bool := PySem.W.dataLe false D.pd a b
def D.sorted : D → R D
  | .lst xs => if sortOk xs then .ok (.lst (xs.mergeSort leD)) else .stuck
  | _ => .stuck

section
variable {X : Cx}
theorem one_in {K : PySem.W.Frag} {Hs : Hp} {ds : List D} {vs : List V} {g : List D → R D} {f : D → R D} (hg : ∀ l, (∃ d, l = [d] ∧ g l = f d) ∨ g l = .stuck) (r : Reps K Hs ds vs) {mg : Str → Option Value} {H : Hp} {Q : VK} {E : XK}
    (h : PstD K mg Hs H (g ds) Q E) : ∃ d v, ds = [d] ∧ vs = [v] ∧ Rep K Hs d v ∧ PstD K mg Hs H (f d) Q E := by
  rcases hg ds with ⟨d, rfl, e⟩ | e
  · cases r with
    | cons r t =>
      cases t
      exact ⟨d, _, rfl, rfl, r, by rw [← e]; exact h⟩
  · rw [e] at h
    exact h.elim
def f1 (f : D → R D) : List D → R D
  | [d] => f d
  | _ => .stuck
def f2 (f : D → D → R D) : List D → R D
  | [d, e] => f d e
  | _ => .stuck
theorem f1_in (f : D → R D) (l : List D) : (∃ d, l = [d] ∧ f1 f l = f d) ∨ f1 f l = .stuck := by
  match l with
  | [] => exact .inr rfl
  | [d] => exact .inl ⟨d, rfl, rfl⟩
  | _ :: _ :: _ => exact .inr rfl
theorem two_in {K : PySem.W.Frag} {Hs : Hp} {ds : List D} {vs : List V} {f : D → D → R D} (r : Reps K Hs ds vs) {mg : Str → Option Value} {H : Hp} {Q : VK} {E : XK}
    (h : PstD K mg Hs H (f2 f ds) Q E) : ∃ d e v u, ds = [d, e] ∧ vs = [v, u] ∧ Rep K Hs d v ∧ Rep K Hs e u ∧ PstD K mg Hs H (f d e) Q E := by
  match ds, r, h with
  | [d, e], .cons r (.cons t .nil), h => exact ⟨d, e, _, _, rfl, rfl, r, t, h⟩
  | [], _, h => exact h.elim
  | [_], _, h => exact h.elim
  | _ :: _ :: _ :: _, _, h => exact h.elim
theorem cs_len : CallR X (.builtin "len") (rL X.K X.mg (f1 D.len)) := by
  intro pins s σ H xs us Q I r h
  obtain ⟨Hs, ds, E, he, rr, hp⟩ := h
  obtain ⟨d, v, rfl, rfl, rd, hp⟩ := one_in (f1_in _) rr hp
  cases d with
  | str x =>
    rw [rd.strI] at r
    have hp : PstD X.K X.mg Hs H (if x.length ≤ 16777216 then .ok (.int x.length) else .stuck) Q E := hp
    by_cases hz : x.length ≤ 16777216
    · rw [if_pos hz] at hp
      exact call_len pins s σ H _ us Q I r ⟨.str x, x.length, rfl, ⟨by rw [size_eq]; exact hz, rfl⟩, hp.now he (.int _)⟩
    · rw [if_neg hz] at hp
      exact hp.elim
  | lst xs =>
    obtain ⟨p, vs, rfl, e1, r1⟩ := rd.lstI
    exact call_len pins s σ H _ us Q I r ⟨.ref p, xs.length, rfl, .inl ⟨vs, SqL.of (he _ _ e1), r1.length⟩, hp.now he (.int _)⟩
  | tup xs =>
    obtain ⟨p, vs, rfl, e1, r1⟩ := rd.tupI
    exact call_len pins s σ H _ us Q I r ⟨.ref p, xs.length, rfl, .inr ⟨vs, SqT.of (he _ _ e1), r1.length⟩, hp.now he (.int _)⟩
  | scr ns =>
    obtain ⟨p, rfl, q⟩ := (rd.mono he).scrI
    exact call_len pins s σ H _ us Q I r ⟨.ref p, ns.length, rfl, .inl ⟨_, q, by rw [List.length_map]⟩, hp.now he (.int _)⟩
  | _ => exact hp.elim
theorem cs_abs : CallR X (.builtin "abs") (rL X.K X.mg (f1 D.abs)) := by
  intro pins s σ H xs us Q I r h
  obtain ⟨Hs, ds, E, he, rr, hp⟩ := h
  obtain ⟨d, v, rfl, rfl, rd, hp⟩ := one_in (f1_in _) rr hp
  cases d with
  | int i =>
    rw [rd.intI] at r
    exact call_abs pins s σ H _ us Q I r ⟨i, rfl, hp.now he (.int _)⟩
  | _ => exact hp.elim
theorem cs_max2 (hc : X.calm = true) : CallR X (.builtin "max") (rL X.K X.mg (f2 D.max2)) := by
  intro pins s σ H xs us Q I r h
  obtain ⟨Hs, ds, E, he, rr, hp⟩ := h
  obtain ⟨d, e, v, u, rfl, rfl, rd, re, hp⟩ := two_in rr hp
  cases d with
  | int i =>
    cases e with
    | int j =>
      rw [rd.intI, re.intI] at r
      exact call_max2 hc pins s σ H _ us Q I r ⟨i, j, rfl, hp.now he (.int _)⟩
    | _ => exact hp.elim
  | _ => exact hp.elim
theorem cs_min2 (hc : X.calm = true) : CallR X (.builtin "min") (rL X.K X.mg (f2 D.min2)) := by
  intro pins s σ H xs us Q I r h
  obtain ⟨Hs, ds, E, he, rr, hp⟩ := h
  obtain ⟨d, e, v, u, rfl, rfl, rd, re, hp⟩ := two_in rr hp
  cases d with
  | int i =>
    cases e with
    | int j =>
      rw [rd.intI, re.intI] at r
      exact call_min2 hc pins s σ H _ us Q I r ⟨i, j, rfl, hp.now he (.int _)⟩
    | _ => exact hp.elim
  | _ => exact hp.elim
theorem dp_ints {K : PySem.W.Frag} {H : Hp} : ∀ ns : List Int, DpAll K H (ns.map V.int) (ns.map PyData.int)
  | [] => .nil
  | n :: ns => .cons (.int n) (dp_ints ns)
theorem alike_ints' (ns : List Int) : PySem.W.AlikeAll (ns.map PyData.int) := by
  refine ⟨fun x hx y hy => ?_, fun x hx => ?_⟩
  · obtain ⟨i, _, rfl⟩ := List.mem_map.mp hx
    obtain ⟨j, _, rfl⟩ := List.mem_map.mp hy
    simp [PySem.W.alike]
  · obtain ⟨i, _, rfl⟩ := List.mem_map.mp hx
    intro z
    cases z
theorem reads_int {h : Heap} {v : Value} {n : Int} {bs : List Addr} (r : Reads h v (.int n) bs) : ∃ t, v = .int n t := by
  cases r
  exact ⟨_, rfl⟩
theorem cs_minL (hc : X.calm = true) (hu : X.A.units + 65 < cLine) : CallR X (.builtin "min") (rL X.K X.mg (f1 D.minL)) := by
  intro pins s σ H xs us Q I r h
  obtain ⟨Hs, ds, E, he, rr, hp⟩ := h
  obtain ⟨d, v, rfl, rfl, rd, hp⟩ := one_in (f1_in _) rr hp
  have fin : ∀ (n : Int) (ns : List Int) (v : Value) (h' : Heap) (tk : Nat) (bs : List Addr), PstD X.K X.mg Hs H (.ok (.int (ns.foldl min n))) Q E → Reads h' v (PySem.W.minD (.int n) (ns.map .int)) bs → (∀ b o, s.heap.get? b = some o → h'.get? b = some o) →
      EP X pins σ Q v { s with heap := h', toks := tk } := fun n ns v h' tk bs hp rv k => by
    rw [PySem.W.minD_ints] at rv
    obtain ⟨t, rfl⟩ := reads_int rv
    exact ⟨.int _, H, I.kept (t' := tk) k, ⟨t, rfl⟩, hp.now he (.int _)⟩
  cases d with
  | lst xs =>
    cases q : asInts xs with
    | none => simp [D.minL, D.seq, q] at hp; exact hp.elim
    | some l =>
      cases l with
      | nil => simp [D.minL, D.seq, q] at hp; exact hp.elim
      | cons n ns =>
        have hq : PstD X.K X.mg Hs H (.ok (.int (ns.foldl min n))) Q E := by simpa [D.minL, D.seq, q] using hp
        obtain ⟨p, vs, rfl, e1, r1⟩ := rd.lstI
        have e := asInts_some q
        subst e
        have ev := r1.intsI
        subst ev
        rw [Vals.ref1 r]
        obtain ⟨its, rv, hl, hz⟩ := I.list (SqL.of (he _ _ e1))
        obtain ⟨as, q1⟩ := Dp.readsAll I _ _ _ (dp_ints (K := X.K) (H := H) (n :: ns)) rv
        exact PySem.W.min_list_data (as := as) (x := .int n) (xs := ns.map .int) (I.ok.hd hc) hl.isList (by simpa using q1) (alike_ints' (n :: ns)) (by rw [show PyData.depthAll (PyData.int n :: ns.map PyData.int) = 0 from PySem.W.depth_ints (n :: ns)]; omega) fun i v h' tk bs _ rv k => fin n ns v h' tk bs hq rv k
  | tup xs =>
    cases q : asInts xs with
    | none => simp [D.minL, D.seq, q] at hp; exact hp.elim
    | some l =>
      cases l with
      | nil => simp [D.minL, D.seq, q] at hp; exact hp.elim
      | cons n ns =>
        have hq : PstD X.K X.mg Hs H (.ok (.int (ns.foldl min n))) Q E := by simpa [D.minL, D.seq, q] using hp
        obtain ⟨p, vs, rfl, e1, r1⟩ := rd.tupI
        have e := asInts_some q
        subst e
        have ev := r1.intsI
        subst ev
        rw [Vals.ref1 r]
        obtain ⟨its, rv, hl, hz⟩ := I.tuple (SqT.of (he _ _ e1))
        obtain ⟨as, q1⟩ := Dp.readsAll I _ _ _ (dp_ints (K := X.K) (H := H) (n :: ns)) rv
        exact PySem.W.min_tuple_data (as := as) (x := .int n) (xs := ns.map .int) (I.ok.hd hc) (show s.heap.IsTuple p its.toArray from hl) (by simpa using q1) (alike_ints' (n :: ns)) (by rw [show PyData.depthAll (PyData.int n :: ns.map PyData.int) = 0 from PySem.W.depth_ints (n :: ns)]; omega) fun i v h' tk bs _ rv k => fin n ns v h' tk bs hq rv k
  | _ => exact hp.elim
theorem cs_maxL (hc : X.calm = true) (hu : X.A.units + 65 < cLine) : CallR X (.builtin "max") (rL X.K X.mg (f1 D.maxL)) := by
  intro pins s σ H xs us Q I r h
  obtain ⟨Hs, ds, E, he, rr, hp⟩ := h
  obtain ⟨d, v, rfl, rfl, rd, hp⟩ := one_in (f1_in _) rr hp
  have fin : ∀ (n : Int) (ns : List Int) (v : Value) (h' : Heap) (tk : Nat) (bs : List Addr), PstD X.K X.mg Hs H (.ok (.int (ns.foldl max n))) Q E → Reads h' v (PySem.W.maxD (.int n) (ns.map .int)) bs → (∀ b o, s.heap.get? b = some o → h'.get? b = some o) →
      EP X pins σ Q v { s with heap := h', toks := tk } := fun n ns v h' tk bs hp rv k => by
    rw [PySem.W.maxD_ints] at rv
    obtain ⟨t, rfl⟩ := reads_int rv
    exact ⟨.int _, H, I.kept (t' := tk) k, ⟨t, rfl⟩, hp.now he (.int _)⟩
  cases d with
  | lst xs =>
    cases q : asInts xs with
    | none => simp [D.maxL, D.seq, q] at hp; exact hp.elim
    | some l =>
      cases l with
      | nil => simp [D.maxL, D.seq, q] at hp; exact hp.elim
      | cons n ns =>
        have hq : PstD X.K X.mg Hs H (.ok (.int (ns.foldl max n))) Q E := by simpa [D.maxL, D.seq, q] using hp
        obtain ⟨p, vs, rfl, e1, r1⟩ := rd.lstI
        have e := asInts_some q
        subst e
        have ev := r1.intsI
        subst ev
        rw [Vals.ref1 r]
        obtain ⟨its, rv, hl, hz⟩ := I.list (SqL.of (he _ _ e1))
        obtain ⟨as, q1⟩ := Dp.readsAll I _ _ _ (dp_ints (K := X.K) (H := H) (n :: ns)) rv
        exact PySem.W.max_list_data (as := as) (x := .int n) (xs := ns.map .int) (I.ok.hd hc) hl.isList (by simpa using q1) (alike_ints' (n :: ns)) (by rw [show PyData.depthAll (PyData.int n :: ns.map PyData.int) = 0 from PySem.W.depth_ints (n :: ns)]; omega) fun i v h' tk bs _ rv k => fin n ns v h' tk bs hq rv k
  | tup xs =>
    cases q : asInts xs with
    | none => simp [D.maxL, D.seq, q] at hp; exact hp.elim
    | some l =>
      cases l with
      | nil => simp [D.maxL, D.seq, q] at hp; exact hp.elim
      | cons n ns =>
        have hq : PstD X.K X.mg Hs H (.ok (.int (ns.foldl max n))) Q E := by simpa [D.maxL, D.seq, q] using hp
        obtain ⟨p, vs, rfl, e1, r1⟩ := rd.tupI
        have e := asInts_some q
        subst e
        have ev := r1.intsI
        subst ev
        rw [Vals.ref1 r]
        obtain ⟨its, rv, hl, hz⟩ := I.tuple (SqT.of (he _ _ e1))
        obtain ⟨as, q1⟩ := Dp.readsAll I _ _ _ (dp_ints (K := X.K) (H := H) (n :: ns)) rv
        exact PySem.W.max_tuple_data (as := as) (x := .int n) (xs := ns.map .int) (I.ok.hd hc) (show s.heap.IsTuple p its.toArray from hl) (by simpa using q1) (alike_ints' (n :: ns)) (by rw [show PyData.depthAll (PyData.int n :: ns.map PyData.int) = 0 from PySem.W.depth_ints (n :: ns)]; omega) fun i v h' tk bs _ rv k => fin n ns v h' tk bs hq rv k
  | _ => exact hp.elim
theorem cs_list : CallR X (.type "list") (rL X.K X.mg (f1 D.listOf)) := by
  intro pins s σ H xs us Q I r h
  obtain ⟨Hs, ds, E, he, rr, hp⟩ := h
  obtain ⟨d, v, rfl, rfl, rd, hp⟩ := one_in (f1_in _) rr hp
  cases d with
  | lst xs =>
    obtain ⟨p, vs, rfl, e1, r1⟩ := rd.lstI
    exact call_list_of pins s σ H _ us Q I r ⟨p, vs, rfl, .inl (SqL.of (he _ _ e1)), fun l hl => hp _ _ _ (Le.new1 he hl) (mk_lst he r1 hl)⟩
  | tup xs =>
    obtain ⟨p, vs, rfl, e1, r1⟩ := rd.tupI
    exact call_list_of pins s σ H _ us Q I r ⟨p, vs, rfl, .inr (SqT.of (he _ _ e1)), fun l hl => hp _ _ _ (Le.new1 he hl) (mk_lst he r1 hl)⟩
  | scr ns =>
    obtain ⟨p, rfl, q⟩ := (rd.mono he).scrI
    exact call_list_of pins s σ H _ us Q I r ⟨p, _, rfl, .inl q, fun l hl => hp _ _ _ (Le.new1 he hl) (mk_lst he Reps.ints hl)⟩
  | _ => exact hp.elim
theorem cs_tuple : CallR X (.type "tuple") (rL X.K X.mg (f1 D.tupOf)) := by
  intro pins s σ H xs us Q I r h
  obtain ⟨Hs, ds, E, he, rr, hp⟩ := h
  obtain ⟨d, v, rfl, rfl, rd, hp⟩ := one_in (f1_in _) rr hp
  cases d with
  | lst xs =>
    obtain ⟨p, vs, rfl, e1, r1⟩ := rd.lstI
    exact call_tuple_of pins s σ H _ us Q I r ⟨p, vs, rfl, .inl ⟨SqL.of (he _ _ e1), fun l hl => hp _ _ _ (Le.new1 he hl) (mk_tup he r1 hl)⟩⟩
  | tup xs =>
    obtain ⟨p, vs, rfl, e1, r1⟩ := rd.tupI
    exact call_tuple_of pins s σ H _ us Q I r ⟨p, vs, rfl, .inr ⟨SqT.of (he _ _ e1), hp.now he (.tup e1 r1)⟩⟩
  | scr ns =>
    obtain ⟨p, rfl, q⟩ := (rd.mono he).scrI
    exact call_tuple_of pins s σ H _ us Q I r ⟨p, _, rfl, .inl ⟨q, fun l hl => hp _ _ _ (Le.new1 he hl) (mk_tup he Reps.ints hl)⟩⟩
  | _ => exact hp.elim
theorem cs_allL (hc : X.calm = true) : CallR X (.builtin "all") (rL X.K X.mg (f1 D.allL)) := by
  intro pins s σ H xs us Q I r h
  obtain ⟨Hs, ds, E, he, rr, hp⟩ := h
  obtain ⟨d, v, rfl, rfl, rd, hp⟩ := one_in (f1_in _) rr hp
  cases d with
  | lst xs =>
    cases q : asBls xs with
    | none => simp [D.allL, q] at hp; exact hp.elim
    | some l =>
      have hq : PstD X.K X.mg Hs H (.ok (.bl (l.all id))) Q E := by simpa [D.allL, q] using hp
      obtain ⟨p, vs, rfl, e1, r1⟩ := rd.lstI
      have e := asBls_some q
      subst e
      have ev := r1.blsI
      subst ev
      exact cr_all hc pins s σ H _ us Q I r ⟨p, l, rfl, SqL.of (he _ _ e1), hq.now he (.bl _)⟩
  | _ => exact hp.elim
theorem cs_anyL (hc : X.calm = true) : CallR X (.builtin "any") (rL X.K X.mg (f1 D.anyL)) := by
  intro pins s σ H xs us Q I r h
  obtain ⟨Hs, ds, E, he, rr, hp⟩ := h
  obtain ⟨d, v, rfl, rfl, rd, hp⟩ := one_in (f1_in _) rr hp
  cases d with
  | lst xs =>
    cases q : asBls xs with
    | none => simp [D.anyL, q] at hp; exact hp.elim
    | some l =>
      have hq : PstD X.K X.mg Hs H (.ok (.bl (l.any id))) Q E := by simpa [D.anyL, q] using hp
      obtain ⟨p, vs, rfl, e1, r1⟩ := rd.lstI
      have e := asBls_some q
      subst e
      have ev := r1.blsI
      subst ev
      exact cr_any hc pins s σ H _ us Q I r ⟨p, l, rfl, SqL.of (he _ _ e1), hq.now he (.bl _)⟩
  | _ => exact hp.elim
theorem cs_int : CallR X (.type "int") (rL X.K X.mg (f1 D.intOf)) := by
  intro pins s σ H xs us Q I r h
  obtain ⟨Hs, ds, E, he, rr, hp⟩ := h
  obtain ⟨d, v, rfl, rfl, rd, hp⟩ := one_in (f1_in _) rr hp
  cases d with
  | int i =>
    rw [rd.intI] at r
    exact call_int1 pins s σ H _ us Q I r (.inl ⟨i, rfl, hp.now he (.int _)⟩)
  | bl b =>
    rw [rd.blI] at r
    exact call_int1 pins s σ H _ us Q I r (.inr ⟨b, rfl, hp.now he (.int _)⟩)
  | _ => exact hp.elim

/-! sorted -/
def RZ (v : Value) (p : D × V) : Prop := RelV p.2 v
theorem each_zip {K : PySem.W.Frag} {Hs : Hp} : ∀ {ds : List D} {vs : List V} {us : List Value}, Reps K Hs ds vs → Vals vs us → PySem.W.EachIs RZ us (ds.zip vs)
  | _, _, _, .nil, .nil => .nil
  | _, _, _, .cons _ t, .cons r u => .cons r (each_zip t u)
theorem each_reads {pins : List (Addr × Obj)} {σ : L2.St} {H Hs : Hp} {s : Shared} (I : Inv X pins σ H s) (he : Ex Hs H) : ∀ {ds : List D} {vs : List V} {us : List Value}, Reps X.K Hs ds vs → Vals vs us → D.nss ds = true →
    PySem.W.EachIs (fun v (p : D × V) => ∃ as, Reads s.heap v p.1.pd as) us (ds.zip vs)
  | _, _, _, .nil, .nil, _ => .nil
  | _, _, _, .cons r t, .cons q u, h => by
    simp only [D.nss, Bool.and_eq_true] at h
    exact .cons (Dp.reads I _ _ _ ((r.mono he).dp h.1) q) (each_reads I he t u h.2)
theorem vals_of_each : ∀ {us : List Value} {ps : List (D × V)}, PySem.W.EachIs RZ us ps → Vals (ps.map (·.2)) us
  | _, _, .nil => .nil
  | _, _, .cons r t => .cons r (vals_of_each t)
theorem reps_of_mem {K : PySem.W.Frag} {Hs : Hp} : ∀ {ps : List (D × V)}, (∀ p ∈ ps, Rep K Hs p.1 p.2) → Reps K Hs (ps.map (·.1)) (ps.map (·.2))
  | [], _ => .nil
  | p :: ps, h => .cons (h p (by simp)) (reps_of_mem fun q hq => h q (by simp [hq]))
theorem reps_mem {K : PySem.W.Frag} {Hs : Hp} : ∀ {ds : List D} {vs : List V}, Reps K Hs ds vs → ∀ p ∈ ds.zip vs, Rep K Hs p.1 p.2
  | _, _, .nil, p, h => by simp at h
  | _, _, .cons r t, p, h => by
    rcases List.mem_cons.mp h with e | h
    · subst e; exact r
    · exact reps_mem t p h
theorem zip_fst {K : PySem.W.Frag} {Hs : Hp} : ∀ {ds : List D} {vs : List V}, Reps K Hs ds vs → (ds.zip vs).map (·.1) = ds
  | _, _, .nil => rfl
  | _, _, .cons r t => by simp [zip_fst t]
theorem sortOk_al {ds : List D} (h : sortOk ds = true) : PySem.W.AllAlike (ds.map D.pd) ∧ PySem.W.Sortable (ds.map D.pd) ∧ (∀ d ∈ ds, d.pd.depth ≤ 60) ∧ D.nss ds = true := by
  unfold sortOk at h
  simp only [Bool.and_eq_true, List.all_eq_true, decide_eq_true_eq, Bool.or_eq_true] at h
  obtain ⟨⟨⟨h1, h2⟩, h3⟩, h4⟩ := h
  refine ⟨fun d hd d' hd' => ?_, ?_, h3, by rw [D.nss_eq, List.all_eq_true]; exact h1⟩
  · obtain ⟨a, ha, rfl⟩ := List.mem_map.mp hd
    obtain ⟨b, hb, rfl⟩ := List.mem_map.mp hd'
    exact h2 a ha b hb
  · rcases h4 with h4 | h4
    · refine .inl fun d hd => ?_
      obtain ⟨a, ha, rfl⟩ := List.mem_map.mp hd
      have := h4 a ha
      match a, this with
      | .tup (x :: r), _ => exact ⟨x.pd, D.pds r, rfl⟩
    · refine .inr fun d hd => ?_
      obtain ⟨a, ha, rfl⟩ := List.mem_map.mp hd
      have := h4 a ha
      cases a <;> first
        | (simp [D.noTup] at this; done)
        | exact ⟨fun z => by simp [D.pd] at z, fun xs z => by simp [D.pd] at z⟩
theorem cs_sorted (hu : X.A.units + 65 < cLine) : CallR X (.builtin "sorted") (rL X.K X.mg (f1 D.sorted)) := by
  intro pins s σ H xs us Q I r h
  obtain ⟨Hs, ds, E, he, rr, hp⟩ := h
  obtain ⟨d, v, rfl, rfl, rd, hp⟩ := one_in (f1_in _) rr hp
  cases d with
  | lst xs =>
    have hp : PstD X.K X.mg Hs H (if sortOk xs then .ok (.lst (xs.mergeSort leD)) else .stuck) Q E := hp
    by_cases hz : sortOk xs = true
    · rw [if_pos hz] at hp
      obtain ⟨p, vs, rfl, e1, r1⟩ := rd.lstI
      rw [Vals.ref1 r]
      obtain ⟨its, rv, hl, hlen⟩ := I.list (SqL.of (he _ _ e1))
      obtain ⟨o1, o2, o3, o4⟩ := sortOk_al hz
      have em : (xs.zip vs).map (fun p => p.1.pd) = xs.map D.pd := by
        rw [← zip_fst r1, List.map_map, zip_fst r1]
        rfl
      refine PySem.W.sorted_data (R := RZ) (enc := fun p : D × V => p.1.pd) hl.isList (each_zip r1 rv) (each_reads I he r1 rv o4) (by rw [em]; exact o1) (by rw [em]; exact o2) (by
        rw [List.length_zip, r1.length]
        omega) (fun b hb => ?_) fun out hlo ho => ?_
      · have : b.1 ∈ xs := by
          rw [← zip_fst r1]
          exact List.mem_map.mpr ⟨b, hb, rfl⟩
        have := o3 _ this
        omega
      · obtain ⟨ep, he'⟩ := PyProof.Rows.sortedAll_at s.heap its (List.toArray out)
        have hv := vals_of_each ho
        have hr : Reps X.K Hs (((xs.zip vs).mergeSort (PySem.W.dataLe false fun p : D × V => p.1.pd)).map (·.1)) (((xs.zip vs).mergeSort (PySem.W.dataLe false fun p : D × V => p.1.pd)).map (·.2)) :=
          reps_of_mem fun p hp => reps_mem r1 p ((List.mergeSort_perm _ _).mem_iff.mp hp)
        have es : ((xs.zip vs).mergeSort (PySem.W.dataLe false fun p : D × V => p.1.pd)).map (·.1) = xs.mergeSort leD := by
          rw [List.map_mergeSort (r := PySem.W.dataLe false fun p : D × V => p.1.pd) (s := leD) (f := fun p : D × V => p.1) (fun a _ b _ => rfl), zip_fst r1]
        rw [es] at hr
        have hn := I.hok.fresh (a := s.heap.objs.size + 1) (Nat.le_succ _)
        refine ⟨.ref _, upd H (s.heap.objs.size + 1) (.lst (((xs.zip vs).mergeSort (PySem.W.dataLe false fun p : D × V => p.1.pd)).map (·.2))), I.laid (t' := s.toks) (fun _ _ => PyProof.Rows.sortedAll_old) (Nat.le_succ _) ⟨?_, out, ep, hv, ?_⟩, rfl, hp _ _ _ (Le.new1 he hn) (mk_lst he hr hn)⟩
        · rw [List.length_map, (List.mergeSort_perm _ _).length_eq, List.length_zip, r1.length]
          omega
        · simpa using he'
    · rw [if_neg hz] at hp
      exact hp.elim
  | _ => exact hp.elim
end
end Py

namespace Py
open PySem PySem.Spec PyProof.Rows L2

/-! ## sets of tuples of ints -/
def tupI : D → Option (List Int)
  | .tup xs => asInts xs
  | _ => none
def keysOf : List D → Option (List (List Int))
  | [] => some []
  | d :: ds => (tupI d).bind fun k => (keysOf ds).map (k :: ·)
def ktup (k : List Int) : D := .tup (k.map .int)
def dd : List (List Int) → List (List Int)
  | [] => []
  | k :: ks => if k ∈ ks then dd ks else k :: dd ks
theorem mem_dd : ∀ {ks : List (List Int)} {k : List Int}, k ∈ dd ks ↔ k ∈ ks
  | [], k => Iff.rfl
  | x :: ks, k => by
    unfold dd
    by_cases h : x ∈ ks
    · rw [if_pos h, mem_dd, List.mem_cons]
      exact ⟨.inr, fun z => z.elim (fun e => e ▸ h) id⟩
    · rw [if_neg h, List.mem_cons, List.mem_cons, mem_dd]
theorem nodup_dd : ∀ ks : List (List Int), (dd ks).Nodup
  | [] => .nil
  | x :: ks => by
    unfold dd
    by_cases h : x ∈ ks
    · rw [if_pos h]; exact nodup_dd ks
    · rw [if_neg h]
      exact List.nodup_cons.mpr ⟨fun z => h (mem_dd.mp z), nodup_dd ks⟩
def sortK (ks : List (List Int)) : List (List Int) := (dd ks).mergeSort fun a b => decide (a ≤ b)
def D.sset : D → R D
  | .lst xs => match keysOf xs with
    | some ks => if decide (ks.length < 64) && ks.all (fun k => !k.isEmpty) then .ok (.lst ((sortK ks).map ktup)) else .stuck
    | none => .stuck
  | _ => .stuck

/-- how many numbers there are, each once -/
def metI (ns : List Int) : List Int := ns.foldl (fun σ k => if σ.any (· == k) then σ else σ ++ [k]) []
def D.lset : D → R D
  | .lst xs => match asInts xs with
    | some ns => if ns.length ≤ 4000 then .ok (.int (metI ns).length) else .stuck
    | none => .stuck
  | _ => .stuck

/-! ## the small syntax of expressions -/
inductive Cst where
  | non | bl (b : Bool) | int (i : Int) | str (x : Str)
  deriving DecidableEq
def Cst.d : Cst → D
  | .non => .non | .bl b => .bl b | .int i => .int i | .str x => .str x
def Cst.v : Cst → V
  | .non => .non | .bl b => .bl b | .int i => .int i | .str x => .str x
def Cst.is : Cst → Const → Bool
  | .non, .none => true
  | .bl b, .bool c => b == c
  | .int i, .int j => decide (i = j)
  | .str x, .str y => decide (x = y)
  | _, _ => false
inductive Bi where
  | len | abs | max2 | min2 | minL | maxL | list | tuple | all | any | int | sorted
  deriving DecidableEq
def Bi.name : Bi → Str
  | .len => "len" | .abs => "abs" | .max2 => "max" | .min2 => "min" | .minL => "min" | .maxL => "max" | .list => "list" | .tuple => "tuple" | .all => "all" | .any => "any" | .int => "int" | .sorted => "sorted"
def Bi.f : Bi → List D → R D
  | .len => f1 D.len | .abs => f1 D.abs | .max2 => f2 D.max2 | .min2 => f2 D.min2 | .minL => f1 D.minL | .maxL => f1 D.maxL | .list => f1 D.listOf | .tuple => f1 D.tupOf
  | .all => f1 D.allL | .any => f1 D.anyL | .int => f1 D.intOf | .sorted => f1 D.sorted
/-- the types that isinstance is asked for -/
inductive Ty where
  | int | bool | str | tuple | list
  deriving DecidableEq
def Ty.name : Ty → String
  | .int => "int" | .bool => "bool" | .str => "str" | .tuple => "tuple" | .list => "list"
def D.isTy : D → Ty → Bool
  | .int _, .int => true | .bl _, .int => true | .bl _, .bool => true | .str _, .str => true | .tup _, .tuple => true | .lst _, .list => true | .scr _, .list => true
  | _, _ => false
inductive Tgt where
  | nm (i : Nat) | tp (is : List Nat)
mutual
inductive E where
  | var (i : Nat)
  | cst (c : Cst)
  | glo (x : Str) (c : Cst)
  | bin (o : Bop) (a b : E)
  | neg (a : E)
  | cmp (o : Cop) (a b : E)
  | isn (no : Bool) (a : E)
  | isb (no : Bool) (a : E) (b : Bool)
  | chain (o1 o2 : Cop) (a b c : E)
  | and (es : Es)
  | or (es : Es)
  | not (a : E)
  | tup (es : Es)
  | lst (es : Es)
  | ix (a b : E)
  | sl (a : E) (lo hi : Es)
  | call (k : Nat) (es : Es)
  | bi (b : Bi) (es : Es)
  | isi (a : E) (t : Ty)
  | minD (a : E)
  | lrange1 (a : E)
  | lrange2 (a b : E)
  | sset (a : E)
  | slk (a k : E)
  | idx (a b : E)
  | lc (t : Tgt) (it : It) (ifs : Es) (e : E)
  | isx (a : E) (c : Str)
  | fld (a : E) (f : Str)
  | isxs (a : E) (cs : List Str)
  | dic0
  | lset (a : E)
inductive Es where
  | nil
  | cons (e : E) (es : Es)
inductive It where
  | val (a : E)
  | range (es : Es)
  | zip (a b : E)
  | range3 (es : Es)
end

/-! ## what it answers -/
def D.truth : D → R Bool
  | .non => .ok false
  | .bl b => .ok b
  | .int i => .ok (i != 0)
  | .str x => if x.length ≤ 16777216 then .ok ((x.length : Int) != 0) else .stuck
  | .lst xs => .ok (!xs.isEmpty)
  | .tup xs => .ok (!xs.isEmpty)
  | .scr xs => .ok (!xs.isEmpty)
  | .exv _ _ => .stuck
  | .dic => .stuck
def D.ix : D → D → R D
  | .lst xs, .int i => match atI xs i with
    | some d => .ok d
    | none => .stuck
  | .tup xs, .int i => match atI xs i with
    | some d => .ok d
    | none => .stuck
  | .scr ns, .int i => match atI ns i with
    | some n => .ok (.int n)
    | none => .stuck
  | .str x, .int i => if x.length ≤ 16777216 then (match atI x.cps.toList i with
    | some c => .ok (.str ⟨#[c]⟩)
    | none => .stuck) else .stuck
  | _, _ => .stuck
def cutA {α : Type} (xs : List α) (lo hi : Option Int) : List α := (xs.drop (HT.sIx xs.length 0 lo)).take (HT.sIx xs.length xs.length hi - HT.sIx xs.length 0 lo)
def D.sl (d : D) (lo hi : Option Int) : R D := match d with
  | .lst xs => .ok (.lst (cutA xs lo hi))
  | .tup xs => .ok (.tup (cutA xs lo hi))
  | .scr ns => .ok (.lst ((cutA ns lo hi).map D.int))
  | .str x => if x.length ≤ 16777216 then .ok (.str (cutS x lo hi)) else .stuck
  | _ => .stuck
def pickS {α : Type} (xs : List α) (k : Int) : List α := (sliceRange (sliceBounds none none (some k) xs.length).1 (sliceBounds none none (some k) xs.length).2.1 (sliceBounds none none (some k) xs.length).2.2).filterMap (xs[·]?)
def D.slk : D → D → R D
  | .lst xs, .int k => if k = 0 then .stuck else .ok (.lst (pickS xs k))
  | .scr ns, .int k => if k = 0 then .stuck else .ok (.lst ((pickS ns k).map D.int))
  | _, _ => .stuck
def D.isL : D → Bool
  | .lst _ => true
  | _ => false
def D.idx : D → D → R D
  | .lst xs, y => if y.flat && xs.all D.flat then (match xs.findIdx? fun x => PyData.eqv x.pd y.pd with
    | some j => .ok (.int (j : Nat))
    | none => .stuck) else .stuck
  | _, _ => .stuck
def D.negI : D → R D
  | .int i => .ok (.int (-i))
  | _ => .stuck
def D.isNon : D → Bool
  | .non => true
  | _ => false
def D.isb (no b : Bool) : D → R D
  | .bl a => .ok (.bl (if no then !decide (a = b) else decide (a = b)))
  | _ => .stuck
def exName (c : Str) : Bool := decide (c = "ValueError") || decide (c = "PurseError") || (exFld c).isSome
def D.isx (c : Str) : D → R D
  | .exv k _ => if c = "ValueError" ∨ c = "PurseError" then .ok (.bl true) else if (exFld c).isSome then .ok (.bl (decide (k = c))) else .stuck
  | .non => if exName c then .ok (.bl false) else .stuck
  | _ => .stuck
def D.isxs (cs : List Str) : D → R D
  | .exv k _ => if (cs.all fun c => (exFld c).isSome) then .ok (.bl (cs.any fun c => decide (k = c))) else .stuck
  | _ => .stuck
def D.fld (f : Str) : D → R D
  | .exv k [y] => if exFld k = some (some f) then .ok y else .stuck
  | _ => .stuck
def D.asI : D → R (Option Int)
  | .int i => .ok (some i)
  | _ => .stuck
def D.asB : D → R Bool
  | .bl b => .ok b
  | _ => .stuck
def rangeD (lo hi : Int) : R (List D) :=
  if -4611686018427387904 ≤ lo ∧ lo < 4611686018427387904 ∧ -4611686018427387904 ≤ hi ∧ hi < 4611686018427387904 then .ok ((List.range (hi - lo).toNat).map fun i => .int (lo + (i : Nat))) else .stuck
def D.rangeOf : List D → R (List D)
  | [.int n] => rangeD 0 n
  | [.int a, .int b] => rangeD a b
  | _ => .stuck
def D.range3 : List D → R (List D)
  | [.int i, .int j, .int c] => if c ≠ 0 ∧ c.natAbs < 1073741824 ∧ Builtin.Range.small i j c = true ∧ 0 ≤ Builtin.Range.rangeSize i j c then .ok ((List.range (Builtin.Range.rangeSize i j c).toNat).map fun k => .int (i + (k : Nat) * c)) else .stuck
  | _ => .stuck
def D.items : D → R (List D)
  | .lst xs => .ok xs
  | .tup xs => .ok xs
  | .scr ns => .ok (ns.map D.int)
  | .str x => .ok (x.cps.toList.map fun c => D.str ⟨#[c]⟩)
  | _ => .stuck
def D.zipOf : D → D → R (List D)
  | .lst xs, .lst ys => .ok (xs.zipWith (fun x y => .tup [x, y]) ys)
  | _, _ => .stuck
def setAll : List Nat → List D → Env → Option Env
  | [], [], ρ => some ρ
  | i :: is, d :: ds, ρ => setAll is ds (ρ.set i (some d))
  | _, _, _ => none
def Tgt.bind : Tgt → D → Env → R Env
  | .nm i, d, ρ => .ok (ρ.set i (some d))
  | .tp is, d, ρ => match d with
    | .tup ds => match setAll is ds ρ with
      | some ρ' => .ok ρ'
      | none => .stuck
    | _ => .stuck
def Tgt.ixs : Tgt → List Nat
  | .nm i => [i]
  | .tp is => is
def R.nox {α : Type} : R α → R α
  | .ok a => .ok a
  | _ => .stuck
@[simp] theorem R.nox_ok {α : Type} (a : α) : (R.ok a).nox = .ok a := Eq.trans rfl rfl
def lcGo (f : D → R (Option D)) : List D → R (List D)
  | [] => .ok []
  | x :: xs => do
    let o ← (f x).nox
    let l ← lcGo f xs
    match o with
    | some d => .ok (d :: l)
    | none => .ok l
abbrev Fns := List (Nat × (List D → R D))
def Es.len : Es → Nat
  | .nil => 0
  | .cons _ es => es.len + 1
mutual
def ev (Φ : Fns) : E → Env → R D
  | .var i, ρ => match ρ[i]? with
    | some (some d) => .ok d
    | _ => .stuck
  | .cst c, _ => .ok c.d
  | .glo _ c, _ => .ok c.d
  | .bin o a b, ρ => do
    let x ← ev Φ a ρ
    let y ← ev Φ b ρ
    o.f x y
  | .neg a, ρ => do
    let x ← ev Φ a ρ
    D.negI x
  | .cmp o a b, ρ => do
    let x ← ev Φ a ρ
    let y ← ev Φ b ρ
    o.f x y
  | .isn no a, ρ => do
    let x ← ev Φ a ρ
    .ok (.bl (if no then !x.isNon else x.isNon))
  | .isb no a b, ρ => do
    let x ← ev Φ a ρ
    D.isb no b x
  | .chain o1 o2 a b c, ρ => do
    let x ← ev Φ a ρ
    let y ← ev Φ b ρ
    let r ← o1.f x y
    let k ← D.asB r
    if k then do
      let z ← ev Φ c ρ
      o2.f y z
    else .ok (.bl false)
  | .and es, ρ => evAnd Φ es ρ
  | .or es, ρ => evOr Φ es ρ
  | .not a, ρ => do
    let x ← ev Φ a ρ
    let k ← D.truth x
    .ok (.bl (!k))
  | .tup es, ρ => do
    let xs ← evs Φ es ρ
    .ok (.tup xs)
  | .lst es, ρ => do
    let xs ← evs Φ es ρ
    .ok (.lst xs)
  | .ix a b, ρ => do
    let x ← ev Φ a ρ
    let y ← ev Φ b ρ
    D.ix x y
  | .sl a lo hi, ρ => do
    let x ← ev Φ a ρ
    let l ← evPart Φ lo ρ
    let h ← evPart Φ hi ρ
    D.sl x l h
  | .call k es, ρ => do
    let xs ← evs Φ es ρ
    match Φ[k]? with
    | some (n, g) => if xs.length = n then g xs else .stuck
    | none => .stuck
  | .bi b es, ρ => do
    let xs ← evs Φ es ρ
    b.f xs
  | .isi a t, ρ => do
    let x ← ev Φ a ρ
    .ok (.bl (x.isTy t))
  | .minD a, ρ => do
    let x ← ev Φ a ρ
    D.minD x
  | .lrange1 a, ρ => do
    let x ← ev Φ a ρ
    let l ← D.rangeOf [x]
    if l.length ≤ 16777216 then .ok (.lst l) else .stuck
  | .lrange2 a b, ρ => do
    let x ← ev Φ a ρ
    let y ← ev Φ b ρ
    let l ← D.rangeOf [x, y]
    if l.length ≤ 16777216 then .ok (.lst l) else .stuck
  | .sset a, ρ => do
    let x ← ev Φ a ρ
    D.sset x
  | .slk a k, ρ => do
    let x ← ev Φ a ρ
    let y ← ev Φ k ρ
    D.slk x y
  | .idx a b, ρ => do
    let x ← ev Φ a ρ
    if x.isL then do
      let y ← ev Φ b ρ
      D.idx x y
    else .stuck
  | .lc t it ifs e, ρ => do
    let xs ← evIt Φ it ρ
    if xs.length ≤ 16777215 then do
      let l ← lcGo (fun x => do
        let ρ' ← t.bind x ρ
        let k ← evTests Φ ifs ρ'
        if k then do
          let y ← ev Φ e ρ'
          .ok (some y)
        else .ok none) xs
      .ok (.lst l)
    else .stuck
  | .isx a c, ρ => do
    let x ← ev Φ a ρ
    D.isx c x
  | .fld a f, ρ => do
    let x ← ev Φ a ρ
    D.fld f x
  | .isxs a cs, ρ => do
    let x ← ev Φ a ρ
    D.isxs cs x
  | .dic0, _ => .ok .dic
  | .lset a, ρ => do
    let x ← ev Φ a ρ
    D.lset x
def evs (Φ : Fns) : Es → Env → R (List D)
  | .nil, _ => .ok []
  | .cons e es, ρ => do
    let x ← ev Φ e ρ
    let xs ← evs Φ es ρ
    .ok (x :: xs)
def evAnd (Φ : Fns) : Es → Env → R D
  | .nil, _ => .stuck
  | .cons e es, ρ => match es with
    | .nil => ev Φ e ρ
    | .cons _ _ => do
      let x ← ev Φ e ρ
      let k ← D.truth x
      if k then evAnd Φ es ρ else .ok x
def evOr (Φ : Fns) : Es → Env → R D
  | .nil, _ => .stuck
  | .cons e es, ρ => match es with
    | .nil => ev Φ e ρ
    | .cons _ _ => do
      let x ← ev Φ e ρ
      let k ← D.truth x
      if k then .ok x else evOr Φ es ρ
def evPart (Φ : Fns) : Es → Env → R (Option Int)
  | .nil, _ => .ok none
  | .cons e _, ρ => do
    let x ← ev Φ e ρ
    D.asI x
def evTests (Φ : Fns) : Es → Env → R Bool
  | .nil, _ => .ok true
  | .cons e _, ρ => do
    let x ← ev Φ e ρ
    D.truth x
def evIt (Φ : Fns) : It → Env → R (List D)
  | .val a, ρ => do
    let x ← ev Φ a ρ
    D.items x
  | .range es, ρ => do
    let xs ← evs Φ es ρ
    D.rangeOf xs
  | .zip a b, ρ => do
    let x ← ev Φ a ρ
    let y ← ev Φ b ρ
    D.zipOf x y
  | .range3 es, ρ => do
    let xs ← evs Φ es ρ
    D.range3 xs
end
end Py

namespace Py
open PySem PySem.Spec PyProof.Rows L2

/-! ## a def's promise by a pure function -/
def spOf (K : PySem.W.Frag) (mg : Str → Option Value) (n : Nat) (g : List D → R D) : Sp := fun vs H Q E =>
  ∃ (Hs : Hp) (ds : List D), Ex Hs H ∧ Reps K Hs ds vs ∧ ds.length = n ∧ PstD K mg Hs H (g ds) Q E
/-- a def that may be called -/
structure Cal where
  name : Str
  f : Addr
  fd : FuncData
  ps : List Str
  g : List D → R D
structure Cal.Ok (c : Cal) (P : Program) (w : World) (K : PySem.W.Frag) (mg : Str → Option Value) (base : Heap) (k : Nat) : Prop where
  ok : FnOk P w K mg base (L2.CX P w) k c.f c.fd c.ps (spOf K mg c.ps.length c.g)
  gl : mg c.name = some (.ref c.f)
  kp : PySem.W.keepIn K (.ref c.f) = true
  bd : Binds K c.fd c.ps []
/-- what the checker knows: the slots' names, the module's constants, the built-ins' names that are free, the callees' names and numbers of parameters -/
structure Cfg where
  N : List Str
  gl : List (Str × Cst)
  bl : List Str
  cn : List (Str × Nat)
  ex : Bool
structure XOk (X : Cx) (C : Cfg) (cs : List Cal) (k : Nat) : Prop where
  calm : X.calm = true
  names : X.N = C.N
  nd : C.N.Nodup
  room : Room k X.A
  fns : ∀ c ∈ cs, c.Ok X.prog X.w X.K X.mg X.base k
  cn : C.cn = cs.map fun c => (c.name, c.ps.length)
  free : ∀ x ∈ C.bl, X.mg x = none
  glob : ∀ p ∈ C.gl, ∃ u, X.mg p.1 = some u ∧ RelV p.2.v u
  exs : C.ex = true → (∃ B, ExAll X.prog X.w X.K X.mg X.base B) ∧ 2 ≤ k
def fnsOf (cs : List Cal) : Fns := cs.map fun c => (c.ps.length, c.g)

/-! ## looking at the row's terms -/
def xName : Expr → Option Str
  | .Name x _ => some x
  | _ => none
def xConst : Expr → Option Const
  | .Constant c _ _ => some c
  | _ => none
def xBin : Expr → Option (Expr × Operator × Expr)
  | .BinOp a o b _ => some (a, o, b)
  | _ => none
def xUn : Expr → Option (UnaryOp × Expr)
  | .UnaryOp o a _ => some (o, a)
  | _ => none
def xCmp : Expr → Option (Expr × CmpOp × Expr)
  | .Compare a [o] [b] _ => some (a, o, b)
  | _ => none
def xChain : Expr → Option (Expr × CmpOp × CmpOp × Expr × Expr)
  | .Compare a [o, o'] [b, c] _ => some (a, o, o', b, c)
  | _ => none
def xBool : Expr → Option (BoolOp × List Expr)
  | .BoolOp o xs _ => some (o, xs)
  | _ => none
def xTup : Expr → Option (List Expr)
  | .Tuple xs _ _ => some xs
  | _ => none
def xLst : Expr → Option (List Expr)
  | .List xs _ => some xs
  | _ => none
def xSub : Expr → Option (Expr × Expr)
  | .Subscript a b _ => some (a, b)
  | _ => none
def xSlice : Expr → Option (Option Expr × Option Expr)
  | .Slice l h none _ => some (l, h)
  | _ => none
def xCall : Expr → Option (Str × List Expr)
  | .Call (.Name x _) args [] _ => some (x, args)
  | _ => none
def xCallK : Expr → Option (Str × List Expr × Str × Expr)
  | .Call (.Name x _) args [⟨some n, e, _⟩] _ => some (x, args, n, e)
  | _ => none
def xLc : Expr → Option (Expr × Expr × Expr × List Expr × Scope)
  | .ListComp e [⟨t, i, ifs, 0⟩] sc _ => some (e, t, i, ifs, sc)
  | _ => none
def xDic : Expr → Bool
  | .Dict [] [] _ => true
  | _ => false
theorem xDic_s {e : Expr} (h : xDic e = true) : ∃ p, e = .Dict [] [] p := by
  unfold xDic at h; split at h <;> simp at h; exact ⟨_, rfl⟩
theorem xName_s {e : Expr} {x : Str} (h : xName e = some x) : ∃ p, e = .Name x p := by
  unfold xName at h; split at h <;> simp at h; subst h; exact ⟨_, rfl⟩
theorem xConst_s {e : Expr} {x : Const} (h : xConst e = some x) : ∃ j p, e = .Constant x j p := by
  unfold xConst at h; split at h <;> simp at h; subst h; exact ⟨_, _, rfl⟩
theorem xBin_s {e a b : Expr} {o : Operator} (h : xBin e = some (a, o, b)) : ∃ p, e = .BinOp a o b p := by
  unfold xBin at h; split at h <;> simp at h; obtain ⟨rfl, rfl, rfl⟩ := h; exact ⟨_, rfl⟩
theorem xUn_s {e a : Expr} {o : UnaryOp} (h : xUn e = some (o, a)) : ∃ p, e = .UnaryOp o a p := by
  unfold xUn at h; split at h <;> simp at h; obtain ⟨rfl, rfl⟩ := h; exact ⟨_, rfl⟩
theorem xCmp_s {e a b : Expr} {o : CmpOp} (h : xCmp e = some (a, o, b)) : ∃ p, e = .Compare a [o] [b] p := by
  unfold xCmp at h; split at h <;> simp at h; obtain ⟨rfl, rfl, rfl⟩ := h; exact ⟨_, rfl⟩
theorem xChain_s {e a b c : Expr} {o o' : CmpOp} (h : xChain e = some (a, o, o', b, c)) : ∃ p, e = .Compare a [o, o'] [b, c] p := by
  unfold xChain at h; split at h <;> simp at h; obtain ⟨rfl, rfl, rfl, rfl, rfl⟩ := h; exact ⟨_, rfl⟩
theorem xBool_s {e : Expr} {xs : List Expr} {o : BoolOp} (h : xBool e = some (o, xs)) : ∃ p, e = .BoolOp o xs p := by
  unfold xBool at h; split at h <;> simp at h; obtain ⟨rfl, rfl⟩ := h; exact ⟨_, rfl⟩
theorem xTup_s {e : Expr} {xs : List Expr} (h : xTup e = some xs) : ∃ k p, e = .Tuple xs k p := by
  unfold xTup at h; split at h <;> simp at h; subst h; exact ⟨_, _, rfl⟩
theorem xLst_s {e : Expr} {xs : List Expr} (h : xLst e = some xs) : ∃ p, e = .List xs p := by
  unfold xLst at h; split at h <;> simp at h; subst h; exact ⟨_, rfl⟩
theorem xSub_s {e a b : Expr} (h : xSub e = some (a, b)) : ∃ p, e = .Subscript a b p := by
  unfold xSub at h; split at h <;> simp at h; obtain ⟨rfl, rfl⟩ := h; exact ⟨_, rfl⟩
theorem xSlice_s {e : Expr} {l u : Option Expr} (h : xSlice e = some (l, u)) : ∃ p, e = .Slice l u none p := by
  unfold xSlice at h; split at h <;> simp at h; obtain ⟨rfl, rfl⟩ := h; exact ⟨_, rfl⟩
theorem xCall_s {e : Expr} {x : Str} {as : List Expr} (h : xCall e = some (x, as)) : ∃ p q, e = .Call (.Name x p) as [] q := by
  unfold xCall at h; split at h <;> simp at h; obtain ⟨rfl, rfl⟩ := h; exact ⟨_, _, rfl⟩
theorem xCallK_s {e d : Expr} {x n : Str} {as : List Expr} (h : xCallK e = some (x, as, n, d)) : ∃ p q r, e = .Call (.Name x p) as [⟨some n, d, r⟩] q := by
  unfold xCallK at h; split at h <;> simp at h; obtain ⟨rfl, rfl, rfl, rfl⟩ := h; exact ⟨_, _, _, rfl⟩
theorem xLc_s {e elt t i : Expr} {ifs : List Expr} {sc : Scope} (h : xLc e = some (elt, t, i, ifs, sc)) : ∃ p, e = .ListComp elt [⟨t, i, ifs, 0⟩] sc p := by
  unfold xLc at h; split at h <;> simp at h; obtain ⟨rfl, rfl, rfl, rfl, rfl⟩ := h; exact ⟨_, rfl⟩
/-- no star, no set display -/
def xMeth : Expr → Option (Expr × Str × List Expr × Bool)
  | .Call (.Attribute o m ap) as [] cp => some (o, m, as, ap.endLine == cp.line)
  | _ => none
theorem xMeth_s {e o : Expr} {m : Str} {as : List Expr} {b : Bool} (h : xMeth e = some (o, m, as, b)) : ∃ ap cp, e = .Call (.Attribute o m ap) as [] cp ∧ b = (ap.endLine == cp.line) := by
  unfold xMeth at h; split at h <;> simp at h; obtain ⟨rfl, rfl, rfl, rfl⟩ := h; exact ⟨_, _, rfl, rfl⟩
def xAttr : Expr → Option (Expr × Str)
  | .Attribute o f _ => some (o, f)
  | _ => none
theorem xAttr_s {e o : Expr} {f : Str} (h : xAttr e = some (o, f)) : ∃ p, e = .Attribute o f p := by
  unfold xAttr at h; split at h <;> simp at h; obtain ⟨rfl, rfl⟩ := h; exact ⟨_, rfl⟩
def xStep : Expr → Option (Expr × Expr)
  | .Subscript a (.Slice none none (some k) _) _ => some (a, k)
  | _ => none
theorem xStep_s {e a k : Expr} (h : xStep e = some (a, k)) : ∃ p q, e = .Subscript a (.Slice none none (some k) p) q := by
  unfold xStep at h; split at h <;> simp at h; obtain ⟨rfl, rfl⟩ := h; exact ⟨_, _, rfl⟩
def plain : Expr → Bool
  | .Starred _ _ => false
  | .Set _ _ _ => false
  | .Slice _ _ _ _ => false
  | _ => true
def visOk (sc : Scope) (x : Str) : Bool := (match sc.names.lookup x with
  | some .local => true | some .cell => true | some .free => true | _ => false) && !(x == ("__debug__" : Str)) && !(x == ("__classdict__" : Str))
def glOk (sc : Scope) (x : Str) : Bool := decide (sc.names.lookup x = some .globalImplicit) && !(x == ("__debug__" : Str)) && decide (x ≠ ("__name__" : Str))
/-- a target's name, stored -/
def locOk (sc raw : Scope) (x : Str) : Bool := match raw.names.lookup x with
  | some .local => decide (sc.names.lookup x = some .local)
  | some .cell => decide (sc.names.lookup x = some .cell)
  | _ => false
def chkNames (N : List Str) (sc raw : Scope) : List Nat → List Expr → Bool
  | [], [] => true
  | i :: is, e :: es => (match xName e with
    | some x => decide (N[i]? = some x) && locOk sc raw x
    | none => false) && chkNames N sc raw is es
  | _, _ => false
def chkTgt (N : List Str) (sc raw : Scope) : Tgt → Expr → Bool
  | .nm i, e => match xName e with
    | some x => decide (N[i]? = some x) && locOk sc raw x
    | none => false
  | .tp is, e => match xTup e with
    | some es => chkNames N sc raw is es
    | none => false
def ownOf (N : List Str) (t : Tgt) : List (Str × Nat) := t.ixs.filterMap fun i => (N[i]?).map fun x => (x, i)
def Bi.isTy : Bi → Bool
  | .list => true | .tuple => true | .int => true | _ => false
def tgtOk : It → Tgt → Bool
  | .zip _ _, .nm _ => false
  | _, _ => true
def chkOwn (sc : Scope) : List Str → List Expr → Bool
  | [], es => es.isEmpty
  | c :: cs, es => match es with
    | e :: es => (match xName e with
      | some n => decide (n = c) && glOk sc n && (exFld c).isSome
      | none => false) && chkOwn sc cs es
    | [] => false
mutual
def chk (C : Cfg) (sc : Scope) : E → Expr → Bool
  | .var i, e => match xName e with
    | some x => decide (C.N[i]? = some x) && visOk sc x
    | none => false
  | .cst c, e => match xConst e with
    | some k => c.is k
    | none => false
  | .glo x c, e => match xName e with
    | some y => decide (x = y) && glOk sc x && C.gl.contains (x, c)
    | none => false
  | .bin o a b, e => match xBin e with
    | some (x, p, y) => decide (p = o.op) && chk C sc a x && chk C sc b y
    | none => false
  | .neg a, e => match xUn e with
    | some (o, x) => decide (o = .USub) && chk C sc a x
    | none => false
  | .cmp o a b, e => match xCmp e with
    | some (x, p, y) => decide (p = o.op) && plain y && chk C sc a x && chk C sc b y
    | none => false
  | .isn no a, e => match xCmp e with
    | some (x, p, y) => decide (p = if no then .IsNot else .Is) && (match xConst y with | some .none => true | _ => false) && chk C sc a x
    | none => false
  | .isb no a b, e => match xCmp e with
    | some (x, p, y) => decide (p = if no then .IsNot else .Is) && (match xConst y with | some (.bool c) => b == c | _ => false) && chk C sc a x
    | none => false
  | .chain o1 o2 a b c, e => match xChain e with
    | some (x, p, q, y, z) => decide (p = o1.op) && decide (q = o2.op) && plain y && plain z && chk C sc a x && chk C sc b y && chk C sc c z
    | none => false
  | .and es, e => match xBool e with
    | some (o, xs) => decide (o = .And) && decide (es.len ≠ 0) && chks C sc es xs
    | none => false
  | .or es, e => match xBool e with
    | some (o, xs) => decide (o = .Or) && decide (es.len ≠ 0) && chks C sc es xs
    | none => false
  | .not a, e => match xUn e with
    | some (o, x) => decide (o = .Not) && chk C sc a x
    | none => false
  | .tup es, e => match xTup e with
    | some xs => decide (es.len ≤ 1000) && chks C sc es xs
    | none => false
  | .lst es, e => match xLst e with
    | some xs => decide (es.len ≤ 1000) && chks C sc es xs
    | none => false
  | .ix a b, e => match xSub e with
    | some (x, y) => plain y && chk C sc a x && chk C sc b y
    | none => false
  | .sl a lo hi, e => match xSub e with
    | some (x, y) => match xSlice y with
      | some (l, h) => chk C sc a x && chkPart C sc lo l && chkPart C sc hi h
      | none => false
    | none => false
  | .call k es, e => match xCall e with
    | some (x, xs) => decide (C.cn[k]? = some (x, es.len)) && decide (es.len ≠ 0) && glOk sc x && chks C sc es xs
    | none => false
  | .bi b es, e => match xCall e with
    | some (x, xs) => decide (x = b.name) && C.bl.contains x && decide (es.len ≠ 0) && glOk sc x && chks C sc es xs
    | none => false
  | .isi a t, e => match xCall e with
    | some (x, xs) => decide (x = ("isinstance" : Str)) && C.bl.contains x && glOk sc x && (match xs with
      | [y, z] => (match xName z with
        | some n => decide (n = Str.ofString t.name) && C.bl.contains n && glOk sc n
        | none => false) && plain y && chk C sc a y
      | _ => false)
    | none => false
  | .minD a, e => match xCallK e with
    | some (x, xs, n, d) => decide (x = ("min" : Str)) && C.bl.contains x && glOk sc x && decide (n = ("default" : Str)) && (match xConst d with | some .none => true | _ => false) && (match xs with
      | [y] => plain y && chk C sc a y
      | _ => false)
    | none => false
  | .slk a k, e => match xStep e with
    | some (x, y) => chk C sc a x && chk C sc k y
    | none => false
  | .idx a b, e => match xMeth e with
    | some (o, n, xs, l) => decide (n = ("index" : Str)) && l && (xName o).isSome && chk C sc a o && (match xs with
      | [y] => plain y && chk C sc b y
      | _ => false)
    | none => false
  | .lrange1 a, e => match xCall e with
    | some (x, xs) => decide (x = ("list" : Str)) && C.bl.contains x && glOk sc x && (match xs with
      | [y] => (match xCall y with
        | some (r, ys) => decide (r = ("range" : Str)) && C.bl.contains r && glOk sc r && (match ys with
          | [z] => plain z && chk C sc a z
          | _ => false)
        | none => false)
      | _ => false)
    | none => false
  | .sset a, e => match xCall e with
    | some (x, xs) => decide (x = ("sorted" : Str)) && C.bl.contains x && glOk sc x && (match xs with
      | [y] => (match xCall y with
        | some (r, ys) => decide (r = ("set" : Str)) && C.bl.contains r && glOk sc r && (match ys with
          | [z] => plain z && chk C sc a z
          | _ => false)
        | none => false)
      | _ => false)
    | none => false
  | .dic0, e => xDic e
  | .lset a, e => match xCall e with
    | some (x, xs) => decide (x = ("len" : Str)) && C.bl.contains x && glOk sc x && (match xs with
      | [y] => (match xCall y with
        | some (r, ys) => decide (r = ("set" : Str)) && C.bl.contains r && glOk sc r && (match ys with
          | [z] => plain z && chk C sc a z
          | _ => false)
        | none => false)
      | _ => false)
    | none => false
  | .lrange2 a b, e => match xCall e with
    | some (x, xs) => decide (x = ("list" : Str)) && C.bl.contains x && glOk sc x && (match xs with
      | [y] => (match xCall y with
        | some (r, ys) => decide (r = ("range" : Str)) && C.bl.contains r && glOk sc r && (match ys with
          | [z, u] => plain z && plain u && chk C sc a z && chk C sc b u
          | _ => false)
        | none => false)
      | _ => false)
    | none => false
  | .isx a c, e => match xCall e with
    | some (x, xs) => decide (x = ("isinstance" : Str)) && C.bl.contains x && glOk sc x && C.ex && exName c && (match xs with
      | [y, z] => (match xName z with
        | some n => decide (n = c) && glOk sc n && (!(decide (n = "ValueError")) || C.bl.contains n)
        | none => false) && plain y && chk C sc a y
      | _ => false)
    | none => false
  | .isxs a cs, e => match xCall e with
    | some (x, xs) => decide (x = ("isinstance" : Str)) && C.bl.contains x && glOk sc x && C.ex && decide (cs.length ≤ 100) && (match xs with
      | [y, z] => (match xTup z with
        | some ns => chkOwn sc cs ns
        | none => false) && plain y && chk C sc a y
      | _ => false)
    | none => false
  | .fld a f, e => match xAttr e with
    | some (o, g) => decide (g = f) && (xName o).isSome && chk C sc a o
    | none => false
  | .lc t it ifs el, e => match xLc e with
    | some (x, tg, i, fs, raw) => blkC C.N sc raw (ownOf C.N t) && chkIt C sc it i && tgtOk it t && chkTgt C.N (relS raw sc) raw t tg && chkTests C (relS raw sc) ifs fs && chk C (relS raw sc) el x && decide ((ownOf C.N t).map (·.2) = t.ixs) && decide (t.ixs.Nodup)
    | none => false
def chks (C : Cfg) (sc : Scope) : Es → List Expr → Bool
  | .nil, es => es.isEmpty
  | .cons a as, es => match es with
    | e :: es => plain e && chk C sc a e && chks C sc as es
    | [] => false
def chkPart (C : Cfg) (sc : Scope) : Es → Option Expr → Bool
  | .nil, o => o.isNone
  | .cons a as, o => match as, o with
    | .nil, some e => chk C sc a e
    | _, _ => false
def chkTests (C : Cfg) (sc : Scope) : Es → List Expr → Bool
  | .nil, es => es.isEmpty
  | .cons a as, es => match as, es with
    | .nil, [e] => chk C sc a e
    | _, _ => false
def chkIt (C : Cfg) (sc : Scope) : It → Expr → Bool
  | .val a, e => plain e && chk C sc a e
  | .range es, e => match xCall e with
    | some (x, xs) => decide (x = ("range" : Str)) && C.bl.contains x && glOk sc x && decide (es.len = 1 ∨ es.len = 2) && chks C sc es xs
    | none => false
  | .range3 es, e => match xCall e with
    | some (x, xs) => decide (x = ("range" : Str)) && C.bl.contains x && glOk sc x && decide (es.len = 3) && chks C sc es xs
    | none => false
  | .zip a b, e => match xCall e with
    | some (x, xs) => decide (x = ("zip" : Str)) && C.bl.contains x && glOk sc x && (match xs with
      | [y, z] => plain y && plain z && chk C sc a y && chk C sc b z
      | _ => false)
    | none => false
end
end Py

namespace Py
open PySem PySem.Spec PyProof.Rows L2

section
variable {X : Cx} {W : WX} {e a b c : Expr} {pos : Pos} {fa fb fc : Env → R D}

/-! ## one construct each -/
theorem se_var {i : Nat} {x : Str} (hN : X.N[i]? = some x) (hv : visOk X.env.scope x = true) : PE X (.Name x pos) (tD X.K X.mg W fun ρ => match ρ[i]? with | some (some d) => .ok d | _ => .stuck) := by
  unfold visOk at hv
  simp only [Bool.and_eq_true, Bool.not_eq_true'] at hv
  obtain ⟨⟨h1, h2⟩, h3⟩ := hv
  refine PE.imp (pe_var hN ?_ h2 h3) fun σ H Q ⟨ρ, Hs, he, hr, hp⟩ => ?_
  · unfold Vis
    split at h1 <;> first | (exact .inl (by assumption)) | (exact .inr (.inl (by assumption))) | (exact .inr (.inr (by assumption))) | cases h1
  · cases q : ρ[i]? with
    | none => simp only [q] at hp; exact hp.elim
    | some o =>
      cases o with
      | none => simp only [q] at hp; exact hp.elim
      | some d =>
        simp only [q] at hp
        obtain ⟨v, e1, r1⟩ := hr.2 i d q
        exact ⟨v, e1, hp.now he r1⟩
theorem cst_rep {K : PySem.W.Frag} {H : Hp} : ∀ c : Cst, Rep K H c.d c.v
  | .non => .non
  | .bl b => .bl b
  | .int i => .int i
  | .str x => .str x
theorem se_cst {k : Cst} {x : Const} {j : Nat} (h : k.is x = true) : PE X (.Constant x j pos) (tD X.K X.mg W fun _ => .ok k.d) := by
  have go : PE X (.Constant x j pos) (tC k.v) := by
    cases k <;> cases x <;> first
      | (simp [Cst.is] at h; done)
      | exact pe_non
      | (simp [Cst.is] at h; subst h; exact pe_bl)
      | (simp [Cst.is] at h; subst h; exact pe_int)
      | (simp [Cst.is] at h; subst h; exact pe_str)
  exact PE.imp go fun σ H Q ⟨ρ, Hs, he, hr, hp⟩ => hp.now he (cst_rep k)
theorem gl_of {x : Str} (h : glOk X.env.scope x = true) : Gl X x ∧ (x == ("__debug__" : Str)) = false ∧ x ≠ "__name__" := by
  unfold glOk at h
  simp only [Bool.and_eq_true, decide_eq_true_eq, Bool.not_eq_true'] at h
  exact ⟨h.1.1, h.1.2, h.2⟩
theorem se_glo {x : Str} {k : Cst} {u : Value} (h : glOk X.env.scope x = true) (hm : X.mg x = some u) (r : RelV k.v u) : PE X (.Name x pos) (tD X.K X.mg W fun _ => .ok k.d) := by
  obtain ⟨h1, h2, _⟩ := gl_of h
  exact PE.imp (pe_glob h1 hm r h2) fun σ H Q ⟨ρ, Hs, he, hr, hp⟩ => hp.now he (cst_rep k)
/-- two values, then an operator -/
theorem op_imp {g : D → D → R D} {σ : L2.St} {H : Hp} {Q : VK} (h : tD X.K X.mg W (fun ρ => do
    let x ← fa ρ
    let y ← fb ρ
    g x y) σ H Q) : tOp (rD X.K X.mg g) (tD X.K X.mg W fa) (tD X.K X.mg W fb) σ H Q := by
  obtain ⟨ρ, Hs, he, hr, hp⟩ := h
  exact ⟨ρ, Hs, he, hr, hp.bind fun d _ v Hi H1 l rv hp1 => ⟨ρ, Hi, l.sub, hr.mono l.old, hp1.bind fun d2 _ v2 Hj H2 l2 rv2 hp2 => ⟨Hj, d, d2, _, l2.sub, rv.mono l2.old, rv2, hp2⟩⟩⟩
theorem se_bin {o : Bop} (ha : SE X W a fa) (hb : SE X W b fb) : SE X W (.BinOp a o.op b pos) (fun ρ => do
    let x ← fa ρ
    let y ← fb ρ
    o.f x y) := PE.imp (pe_op (bs_all o) ha hb) fun _ _ _ h => op_imp h
theorem se_neg (ha : SE X W a fa) : SE X W (.UnaryOp .USub a pos) (fun ρ => do
    let x ← fa ρ
    D.negI x) := by
  refine PE.imp (pe_un un_neg ha) fun σ H Q ⟨ρ, Hs, he, hr, hp⟩ => ⟨ρ, Hs, he, hr, hp.bind fun d _ v Hi H1 l rv hp1 => ?_⟩
  cases d with
  | int i => exact ⟨i, rv.intI, hp1.now l.sub (.int _)⟩
  | _ => exact hp1.elim
theorem nomk {o : Cop} (h : plain b = true) : behindInMarks o.op b = false := by
  cases b <;> first | rfl | cases h
theorem se_cmp {o : Cop} (hu : X.A.units + 65 < cLine) (hpl : plain b = true) (ha : SE X W a fa) (hb : SE X W b fb) : SE X W (.Compare a [o.op] [b] pos) (fun ρ => do
    let x ← fa ρ
    let y ← fb ρ
    o.f x y) := PE.imp (pe_cmpR (cs_all hu o) ha hb (nomk hpl)) fun _ _ _ h => op_imp h
theorem eq_bl {a b : D} {d : D} (h : D.eq a b = .ok d) : ∃ k, d = .bl k := by
  unfold D.eq at h
  split at h
  · cases h; exact ⟨_, rfl⟩
  · cases h; exact ⟨_, rfl⟩
  · cases h; exact ⟨_, rfl⟩
  · exact ⟨_, (R.ok.inj h).symm⟩
  · split at h <;> cases h
    exact ⟨_, rfl⟩
theorem neg_bl {r : R D} {d : D} (h : D.neg r = .ok d) : ∃ k, d = .bl k := by
  unfold D.neg at h
  split at h <;> cases h
  exact ⟨_, rfl⟩
theorem cop_bl {o : Cop} {x y d : D} (h : o.f x y = .ok d) : ∃ k, d = .bl k := by
  cases o with
  | eq => exact eq_bl h
  | ne => exact neg_bl h
  | notin => exact neg_bl h
  | lt =>
    have h : D.lt x y = .ok d := h
    unfold D.lt at h
    split at h
    · cases h; exact ⟨_, rfl⟩
    · split at h <;> cases h
      exact ⟨_, rfl⟩
  | le =>
    have h : D.cmpI _ x y = .ok d := h
    unfold D.cmpI at h
    split at h <;> cases h
    exact ⟨_, rfl⟩
  | gt =>
    have h : D.cmpI _ x y = .ok d := h
    unfold D.cmpI at h
    split at h <;> cases h
    exact ⟨_, rfl⟩
  | ge =>
    have h : D.cmpI _ x y = .ok d := h
    unfold D.cmpI at h
    split at h <;> cases h
    exact ⟨_, rfl⟩
  | isin =>
    have h : D.isin x y = .ok d := h
    unfold D.isin at h
    split at h
    · split at h <;> cases h
      exact ⟨_, rfl⟩
    · split at h <;> cases h
      exact ⟨_, rfl⟩
    · split at h <;> cases h
      exact ⟨_, rfl⟩
    · cases h
theorem sb_cmp {o : Cop} (hu : X.A.units + 65 < cLine) (hpl : plain b = true) (ha : SE X W a fa) (hb : SE X W b fb) : SB X W (.Compare a [o.op] [b] pos) (fun ρ => (do
    let x ← fa ρ
    let y ← fb ρ
    o.f x y) >>= D.truth) := by
  refine PT.imp (pt_cmpR (cs_all hu o) ha hb (nomk hpl)) fun σ H Q h => ?_
  obtain ⟨ρ, Hs, he, hr, hp⟩ := h
  simp only [R.bind_assoc] at hp
  refine ⟨ρ, Hs, he, hr, hp.bind fun d _ v Hi H1 l rv hp1 => ⟨ρ, Hi, l.sub, hr.mono l.old, hp1.bind fun d2 _ v2 Hj H2 l2 rv2 hp2 => ⟨Hj, d, d2, _, l2.sub, rv.mono l2.old, rv2, hp2.bind fun d3 e3 v3 Hk H3 l3 rv3 hp3 => ?_⟩⟩⟩
  obtain ⟨k, rfl⟩ := cop_bl e3
  exact ⟨k, rv3.blI, Pst.now (d := k) hp3 l3.sub rfl⟩
/-- truth -/
theorem tru_of {K : PySem.W.Frag} {Hs H : Hp} {d : D} {v : V} {k : Bool} (r : Rep K Hs d v) (he : Ex Hs H) (h : D.truth d = .ok k) : TruV K v H k := by
  cases d with
  | non => cases h; rw [r.nonI]; exact rfl
  | bl b => cases h; rw [r.blI]; exact rfl
  | int i => cases h; rw [r.intI]; exact rfl
  | str x =>
    have h : (if x.length ≤ 16777216 then .ok ((x.length : Int) != 0) else .stuck) = R.ok k := h
    split at h <;> cases h
    rw [r.strI]
    exact ⟨by rw [size_eq]; assumption, rfl⟩
  | lst xs =>
    cases h
    obtain ⟨p, vs, rfl, e1, r1⟩ := r.lstI
    exact .inl ⟨vs, SqL.of (he _ _ e1), by cases r1 <;> rfl⟩
  | tup xs =>
    cases h
    obtain ⟨p, vs, rfl, e1, r1⟩ := r.tupI
    exact .inr (.inl ⟨vs, SqT.of (he _ _ e1), by cases r1 <;> rfl⟩)
  | scr ns =>
    cases h
    obtain ⟨p, rfl, q⟩ := (r.mono he).scrI
    exact .inl ⟨_, q, by cases ns <;> rfl⟩
  | exv c ys => cases h
  | dic => cases h
theorem truth_cases (d : D) : (∃ k, D.truth d = .ok k) ∨ D.truth d = .stuck := by
  cases d with
  | str x =>
    show (∃ k, (if x.length ≤ 16777216 then .ok ((x.length : Int) != 0) else .stuck) = R.ok k) ∨ (if x.length ≤ 16777216 then .ok ((x.length : Int) != 0) else .stuck) = R.stuck
    split
    · exact .inl ⟨_, rfl⟩
    · exact .inr rfl
  | exv c ys => exact .inr rfl
  | dic => exact .inr rfl
  | _ => exact .inl ⟨_, rfl⟩
theorem se_not (ha : SE X W a fa) : SE X W (.UnaryOp .Not a pos) (fun ρ => do
    let x ← fa ρ
    let k ← D.truth x
    .ok (.bl (!k))) := by
  refine PE.imp (pe_notT ha) fun σ H Q ⟨ρ, Hs, he, hr, hp⟩ => ⟨ρ, Hs, he, hr, hp.bind fun d _ v Hi H1 l rv hp1 => ?_⟩
  rcases truth_cases d with ⟨k, e⟩ | e
  · rw [e] at hp1
    exact ⟨k, tru_of rv l.sub e, Pst.now (d := D.bl _) hp1 l.sub (.bl _)⟩
  · rw [e] at hp1
    exact hp1.elim
/-- a test by its value's truth -/
theorem sb_of (ha : SE X W a fa) (he : ∀ whole, isTrue a X.env whole = (do let v ← whole; standAt a.pos; holding [v] (truthy v))) : SB X W a (fun ρ => fa ρ >>= D.truth) := by
  refine PT.imp (pt_truth ha he) fun σ H Q ⟨ρ, Hs, he, hr, hp⟩ => ⟨ρ, Hs, he, hr, hp.bind fun d _ v Hi H1 l rv hp1 => ?_⟩
  rcases truth_cases d with ⟨k, e⟩ | e
  · rw [e] at hp1
    exact ⟨k, tru_of rv l.sub e, Pst.now (d := k) hp1 l.sub rfl⟩
  · rw [e] at hp1
    exact hp1.elim
theorem sb_not (ha : SB X W a (fun ρ => fa ρ >>= D.truth)) : SB X W (.UnaryOp .Not a pos) (fun ρ => (do
    let x ← fa ρ
    let k ← D.truth x
    .ok (.bl (!k))) >>= D.truth) := by
  have e : ∀ r : R D, ((do
    let x ← r
    let k ← D.truth x
    R.ok (D.bl (!k))) >>= D.truth) = ((r >>= D.truth) >>= fun k => R.ok (!k)) := fun r => by
    cases r with
    | ok x =>
      simp only [R.bind_ok]
      rcases truth_cases x with ⟨k, q⟩ | q <;> rw [q] <;> rfl
    | exc _ => rfl
    | stuck => rfl
  refine PT.imp (pt_not ha) fun σ H Q ⟨ρ, Hs, he, hr, hp⟩ => ⟨ρ, Hs, he, hr, ?_⟩
  simp only [e] at hp
  exact Pst.bind (Rel2 := RB) hp fun k _ c Hi H1 l rc hp1 => by
    cases rc
    exact Pst.now (d := !k) hp1 l.sub rfl
theorem se_isn {no : Bool} {j : Nat} {p2 : Pos} (ha : SE X W a fa) : SE X W (.Compare a [if no then .IsNot else .Is] [.Constant .none j p2] pos) (fun ρ => do
    let x ← fa ρ
    .ok (.bl (if no then !x.isNon else x.isNon))) := by
  have nn : ∀ {d : D} {v : V} {Hi : Hp}, Rep X.K Hi d v → decide (v = V.non) = d.isNon := fun {d v Hi} r => by
    cases r <;> simp [D.isNon]
  cases no with
  | true =>
    refine PE.imp (pe_cmp (pc_notN ha)) fun σ H Q ⟨ρ, Hs, he, hr, hp⟩ => ⟨ρ, Hs, he, hr, hp.bind fun d _ v Hi H1 l rv hp1 => ?_⟩
    rw [nn rv]
    exact Pst.now (d := D.bl _) hp1 l.sub (.bl _)
  | false =>
    refine PE.imp (pe_cmp (pc_isN ha)) fun σ H Q ⟨ρ, Hs, he, hr, hp⟩ => ⟨ρ, Hs, he, hr, hp.bind fun d _ v Hi H1 l rv hp1 => ?_⟩
    rw [nn rv]
    exact Pst.now (d := D.bl _) hp1 l.sub (.bl _)
theorem sb_isn {no : Bool} {j : Nat} {p2 : Pos} (ha : SE X W a fa) : SB X W (.Compare a [if no then .IsNot else .Is] [.Constant .none j p2] pos) (fun ρ => (do
    let x ← fa ρ
    .ok (.bl (if no then !x.isNon else x.isNon))) >>= D.truth) := by
  have nn : ∀ {d : D} {v : V} {Hi : Hp}, Rep X.K Hi d v → decide (v = V.non) = d.isNon := fun {d v Hi} r => by
    cases r <;> simp [D.isNon]
  cases no with
  | true =>
    refine PT.imp (pt_cmp (pc_notN ha)) fun σ H Q ⟨ρ, Hs, he, hr, hp⟩ => ?_
    simp only [R.bind_assoc] at hp
    refine ⟨ρ, Hs, he, hr, hp.bind fun d _ v Hi H1 l rv hp1 => ?_⟩
    rw [nn rv]
    exact ⟨_, rfl, Pst.now (d := !d.isNon) hp1 l.sub rfl⟩
  | false =>
    refine PT.imp (pt_cmp (pc_isN ha)) fun σ H Q ⟨ρ, Hs, he, hr, hp⟩ => ?_
    simp only [R.bind_assoc] at hp
    refine ⟨ρ, Hs, he, hr, hp.bind fun d _ v Hi H1 l rv hp1 => ?_⟩
    rw [nn rv]
    exact ⟨_, rfl, Pst.now (d := d.isNon) hp1 l.sub rfl⟩
theorem se_isb {no b : Bool} {j : Nat} {p2 : Pos} (ha : SE X W a fa) : SE X W (.Compare a [if no then .IsNot else .Is] [.Constant (.bool b) j p2] pos) (fun ρ => do
    let x ← fa ρ
    D.isb no b x) := by
  cases no with
  | true =>
    refine PE.imp (pe_cmpR op_isnot_bl ha pe_bl rfl) fun σ H Q ⟨ρ, Hs, he, hr, hp⟩ => ⟨ρ, Hs, he, hr, hp.bind fun d _ v Hi H1 l rv hp1 => ?_⟩
    cases d with
    | bl k => exact ⟨k, b, rv.blI, rfl, Pst.now (d := D.bl _) hp1 l.sub (.bl _)⟩
    | _ => exact hp1.elim
  | false =>
    refine PE.imp (pe_cmpR op_is_bl ha pe_bl rfl) fun σ H Q ⟨ρ, Hs, he, hr, hp⟩ => ⟨ρ, Hs, he, hr, hp.bind fun d _ v Hi H1 l rv hp1 => ?_⟩
    cases d with
    | bl k => exact ⟨k, b, rv.blI, rfl, Pst.now (d := D.bl _) hp1 l.sub (.bl _)⟩
    | _ => exact hp1.elim
theorem isb_bl {no b : Bool} {x d : D} (h : D.isb no b x = .ok d) : ∃ k, d = .bl k := by
  unfold D.isb at h
  split at h <;> cases h
  exact ⟨_, rfl⟩
theorem sb_isb {no b : Bool} {j : Nat} {p2 : Pos} (ha : SE X W a fa) : SB X W (.Compare a [if no then .IsNot else .Is] [.Constant (.bool b) j p2] pos) (fun ρ => (do
    let x ← fa ρ
    D.isb no b x) >>= D.truth) := by
  cases no with
  | true =>
    refine PT.imp (pt_cmpR op_isnot_bl ha pe_bl rfl) fun σ H Q ⟨ρ, Hs, he, hr, hp⟩ => ?_
    simp only [R.bind_assoc] at hp
    refine ⟨ρ, Hs, he, hr, hp.bind fun d _ v Hi H1 l rv hp1 => ?_⟩
    cases d with
    | bl k => exact ⟨k, b, rv.blI, rfl, _, rfl, Pst.now (d := !decide (k = b)) hp1 l.sub rfl⟩
    | _ => exact hp1.elim
  | false =>
    refine PT.imp (pt_cmpR op_is_bl ha pe_bl rfl) fun σ H Q ⟨ρ, Hs, he, hr, hp⟩ => ?_
    simp only [R.bind_assoc] at hp
    refine ⟨ρ, Hs, he, hr, hp.bind fun d _ v Hi H1 l rv hp1 => ?_⟩
    cases d with
    | bl k => exact ⟨k, b, rv.blI, rfl, _, rfl, Pst.now (d := decide (k = b)) hp1 l.sub rfl⟩
    | _ => exact hp1.elim
theorem lmk {o1 o2 : Cop} (h : plain c = true) : lastMarks [o1.op, o2.op] [b, c] = false := by
  show behindInMarks o2.op c = false
  exact nomk h
theorem chain_imp {o1 o2 : Cop} {σ : L2.St} {H : Hp} {Q : VK} (h : tD X.K X.mg W (fun ρ => do
    let x ← fa ρ
    let y ← fb ρ
    let r ← o1.f x y
    let k ← D.asB r
    if k then do
      let z ← fc ρ
      o2.f y z
    else .ok (.bl false)) σ H Q) : tChain (rD X.K X.mg o1.f) (rD X.K X.mg o2.f) (tD X.K X.mg W fa) (tD X.K X.mg W fb) (tD X.K X.mg W fc) σ H Q := by
  obtain ⟨ρ, Hs, he, hr, hp⟩ := h
  refine ⟨ρ, Hs, he, hr, hp.bind fun d _ v Hi H1 l rv hp1 => ⟨ρ, Hi, l.sub, hr.mono l.old, hp1.bind fun d2 _ v2 Hj H2 l2 rv2 hp2 => ⟨Hj, d, d2, _, l2.sub, rv.mono l2.old, rv2, hp2.bind fun d3 e3 v3 Hk H3 l3 rv3 hp3 => ?_⟩⟩⟩
  obtain ⟨k, rfl⟩ := cop_bl e3
  refine ⟨k, rv3.blI, ?_⟩
  cases k with
  | true =>
    refine iteT ⟨ρ, Hk, l3.sub, ((hr.mono l.old).mono l2.old).mono l3.old, ?_⟩
    have hp3 : PstD X.K X.mg Hk H3 (fc ρ >>= fun z => o2.f d2 z) Q _ := hp3
    exact hp3.bind fun d4 _ v4 Hm H4 l4 rv4 hp4 => ⟨Hm, d2, d4, _, l4.sub, (rv2.mono l3.old).mono l4.old, rv4, hp4⟩
  | false => exact iteF (Pst.now (d := D.bl false) hp3 l3.sub (.bl _))
theorem se_chain {o1 o2 : Cop} (hu : X.A.units + 65 < cLine) (hc : plain c = true) (ha : SE X W a fa) (hb : SE X W b fb) (hcc : SE X W c fc) : SE X W (.Compare a [o1.op, o2.op] [b, c] pos) (fun ρ => do
    let x ← fa ρ
    let y ← fb ρ
    let r ← o1.f x y
    let k ← D.asB r
    if k then do
      let z ← fc ρ
      o2.f y z
    else .ok (.bl false)) := PE.imp (pe_chain (cs_all hu o1) (cs_all hu o2) ha hb hcc (lmk hc)) fun _ _ _ h => chain_imp h
theorem sb_chain {o1 o2 : Cop} (hu : X.A.units + 65 < cLine) (hc : plain c = true) (ha : SE X W a fa) (hb : SE X W b fb) (hcc : SE X W c fc) : SB X W (.Compare a [o1.op, o2.op] [b, c] pos) (fun ρ => (do
    let x ← fa ρ
    let y ← fb ρ
    let r ← o1.f x y
    let k ← D.asB r
    if k then do
      let z ← fc ρ
      o2.f y z
    else .ok (.bl false)) >>= D.truth) := by
  refine PT.imp (pt_chain (cs_all hu o1) (cs_all hu o2) ha hb hcc (lmk hc)) fun σ H Q h => ?_
  obtain ⟨ρ, Hs, he, hr, hp⟩ := h
  refine chain_imp ⟨ρ, Hs, he, hr, hp.bind fun d e v Hi H1 l rv hp1 => ?_⟩
  have hb : ∃ k, d = .bl k := by
    clear hp hp1
    cases q1 : fa ρ with
    | ok x =>
      rw [q1] at e
      cases q2 : fb ρ with
      | ok y =>
        rw [q2] at e
        cases q3 : o1.f x y with
        | ok r =>
          obtain ⟨k, rfl⟩ := cop_bl q3
          simp only [R.bind_ok, q3, D.asB] at e
          cases k with
          | true =>
            simp only [if_pos] at e
            cases q4 : fc ρ with
            | ok z => rw [q4] at e; exact cop_bl e
            | exc _ => rw [q4] at e; cases e
            | stuck => rw [q4] at e; cases e
          | false => cases e; exact ⟨_, rfl⟩
        | exc _ => simp only [R.bind_ok, q3] at e; cases e
        | stuck => simp only [R.bind_ok, q3] at e; cases e
      | exc _ => rw [q2] at e; cases e
      | stuck => rw [q2] at e; cases e
    | exc _ => rw [q1] at e; cases e
    | stuck => rw [q1] at e; cases e
  obtain ⟨k, rfl⟩ := hb
  exact ⟨k, rv.blI, Pst.now (d := k) hp1 l.sub rfl⟩
end
end Py

namespace Py
open PySem PySem.Spec PyProof.Rows L2

section
variable {X : Cx} {W : WX} {e a b c : Expr} {es : List Expr} {pos : Pos} {fa fb fc : Env → R D} {fs : Env → R (List D)}

/-! ## argument lists, displays -/
theorem star_cons {env : PySem.Env} (h : plain e = true) : starEach (e :: es) env = (false, eval e env) :: starEach es env := by
  cases e <;> first | rfl | cases h
theorem star_any {env : PySem.Env} : ∀ {es : List Expr}, (∀ e ∈ es, plain e = true) → (backTo pos (starEach es env)).any (·.1) = false
  | [], _ => rfl
  | e :: es, h => by
    rw [star_cons (h e (by simp))]
    show ((false, _) :: backTo pos (starEach es env)).any (·.1) = false
    rw [List.any_cons, star_any fun x hx => h x (by simp [hx])]
    rfl
theorem sa_nil : SA X W [] (fun _ => .ok []) := PA.imp pa_nil fun σ H Q ⟨ρ, Hs, he, hr, hp⟩ => hp.now he .nil
theorem sa_cons (hpl : plain e = true) (ha : SE X W e fa) (hs : SA X W es fs) : SA X W (e :: es) (fun ρ => do
    let x ← fa ρ
    let xs ← fs ρ
    .ok (x :: xs)) := by
  refine PA.imp (pa_cons ha hs (star_cons hpl)) fun σ H Q ⟨ρ, Hs, he, hr, hp⟩ => ⟨ρ, Hs, he, hr, hp.bind fun d _ v Hi H1 l rv hp1 => ⟨ρ, Hi, l.sub, hr.mono l.old, hp1.bind fun d2 _ v2 Hj H2 l2 rv2 hp2 => ?_⟩⟩
  exact hp2.now l2.sub (.cons (rv.mono l2.old) rv2)
theorem se_tup {k : Nat} (hs : SA X W es fs) (hl : ∀ ρ ds, fs ρ = .ok ds → ds.length ≤ 1000) : SE X W (.Tuple es k pos) (fun ρ => do
    let xs ← fs ρ
    .ok (.tup xs)) := by
  refine PE.imp (pe_tup hs) fun σ H Q ⟨ρ, Hs, he, hr, hp⟩ => ⟨ρ, Hs, he, hr, hp.bind fun ds e vs Hi H1 l rv hp1 => ⟨?_, fun p hn => hp1 _ _ _ (Le.new1 l.sub hn) (mk_tup l.sub rv hn)⟩⟩
  rw [size_eq, ← rv.length]
  have := hl ρ ds e
  omega
theorem se_lst (hs : SA X W es fs) (hl : ∀ ρ ds, fs ρ = .ok ds → ds.length ≤ 1000) : SE X W (.List es pos) (fun ρ => do
    let xs ← fs ρ
    .ok (.lst xs)) := by
  refine PE.imp (pe_lst hs) fun σ H Q ⟨ρ, Hs, he, hr, hp⟩ => ⟨ρ, Hs, he, hr, hp.bind fun ds e vs Hi H1 l rv hp1 => ⟨?_, fun p hn => hp1 _ _ _ (Le.new1 l.sub hn) (mk_lst l.sub rv hn)⟩⟩
  rw [size_eq, ← rv.length]
  have := hl ρ ds e
  omega

/-! ## and, or -/
theorem se_and1 (ha : SE X W a fa) : SE X W (.BoolOp .And [a] pos) fa := pe_one ha
theorem se_or1 (ha : SE X W a fa) : SE X W (.BoolOp .Or [a] pos) fa := pe_one ha
theorem se_and (ha : SE X W a fa) (hb : SE X W (.BoolOp .And (b :: es) pos) fb) : SE X W (.BoolOp .And (a :: b :: es) pos) (fun ρ => do
    let x ← fa ρ
    let k ← D.truth x
    if k then fb ρ else .ok x) := by
  refine PE.imp (pe_andT ha hb) fun σ H Q ⟨ρ, Hs, he, hr, hp⟩ => ⟨ρ, Hs, he, hr, hp.bind fun d _ v Hi H1 l rv hp1 => ?_⟩
  rcases truth_cases d with ⟨k, e⟩ | e
  · rw [e] at hp1
    refine ⟨k, tru_of rv l.sub e, ?_⟩
    cases k with
    | true => exact iteT ⟨ρ, Hi, l.sub, hr.mono l.old, hp1⟩
    | false => exact iteF (Pst.now (d := d) hp1 l.sub rv)
  · rw [e] at hp1
    exact hp1.elim
theorem se_or (ha : SE X W a fa) (hb : SE X W (.BoolOp .Or (b :: es) pos) fb) : SE X W (.BoolOp .Or (a :: b :: es) pos) (fun ρ => do
    let x ← fa ρ
    let k ← D.truth x
    if k then .ok x else fb ρ) := by
  refine PE.imp (pe_orT ha hb) fun σ H Q ⟨ρ, Hs, he, hr, hp⟩ => ⟨ρ, Hs, he, hr, hp.bind fun d _ v Hi H1 l rv hp1 => ?_⟩
  rcases truth_cases d with ⟨k, e⟩ | e
  · rw [e] at hp1
    refine ⟨k, tru_of rv l.sub e, ?_⟩
    cases k with
    | false => exact iteF ⟨ρ, Hi, l.sub, hr.mono l.old, hp1⟩
    | true => exact iteT (Pst.now (d := d) hp1 l.sub rv)
  · rw [e] at hp1
    exact hp1.elim
abbrev SW (X : Cx) (W : WX) (e : Expr) (f : Env → R Bool) : Prop := PW X e (tDB X.K X.mg W f)
theorem sw_and1 (ha : SB X W a (fun ρ => fa ρ >>= D.truth)) : SW X W (.BoolOp .And [a] pos) (fun ρ => fa ρ >>= D.truth) := pw_and1 ha
theorem sw_or1 (ha : SB X W a (fun ρ => fa ρ >>= D.truth)) : SW X W (.BoolOp .Or [a] pos) (fun ρ => fa ρ >>= D.truth) := pw_or1 ha
theorem tru_and (r s : R D) : ((do
    let x ← r
    let k ← D.truth x
    if k then s else .ok x) >>= D.truth) = ((r >>= D.truth) >>= fun k => if k then s >>= D.truth else .ok false) := by
  cases r with
  | ok x =>
    simp only [R.bind_ok]
    rcases truth_cases x with ⟨k, e⟩ | e
    · rw [e]
      cases k with
      | true => rfl
      | false => simp only [R.bind_ok]; exact e
    · rw [e]; rfl
  | exc _ => rfl
  | stuck => rfl
theorem tru_or (r s : R D) : ((do
    let x ← r
    let k ← D.truth x
    if k then .ok x else s) >>= D.truth) = ((r >>= D.truth) >>= fun k => if k then .ok true else s >>= D.truth) := by
  cases r with
  | ok x =>
    simp only [R.bind_ok]
    rcases truth_cases x with ⟨k, e⟩ | e
    · rw [e]
      cases k with
      | false => rfl
      | true => simp only [R.bind_ok]; exact e
    · rw [e]; rfl
  | exc _ => rfl
  | stuck => rfl
theorem sw_and (ha : SB X W a (fun ρ => fa ρ >>= D.truth)) (hb : SW X W (.BoolOp .And (b :: es) pos) (fun ρ => fb ρ >>= D.truth)) : SW X W (.BoolOp .And (a :: b :: es) pos) (fun ρ => (do
    let x ← fa ρ
    let k ← D.truth x
    if k then fb ρ else .ok x) >>= D.truth) := by
  refine PW.imp (pw_and ha hb) fun σ H Q ⟨ρ, Hs, he, hr, hp⟩ => ⟨ρ, Hs, he, hr, ?_⟩
  simp only [tru_and] at hp
  refine Pst.bind (Rel2 := RB) hp fun k _ c Hi H1 l rc hp1 => ?_
  cases rc
  cases k with
  | true => exact iteT ⟨ρ, Hi, l.sub, hr.mono l.old, hp1⟩
  | false => exact iteF (Pst.now (d := false) hp1 l.sub rfl)
theorem sw_or (ha : SB X W a (fun ρ => fa ρ >>= D.truth)) (hb : SW X W (.BoolOp .Or (b :: es) pos) (fun ρ => fb ρ >>= D.truth)) : SW X W (.BoolOp .Or (a :: b :: es) pos) (fun ρ => (do
    let x ← fa ρ
    let k ← D.truth x
    if k then .ok x else fb ρ) >>= D.truth) := by
  refine PW.imp (pw_or ha hb) fun σ H Q ⟨ρ, Hs, he, hr, hp⟩ => ⟨ρ, Hs, he, hr, ?_⟩
  simp only [tru_or] at hp
  refine Pst.bind (Rel2 := RB) hp fun k _ c Hi H1 l rc hp1 => ?_
  cases rc
  cases k with
  | false => exact iteF ⟨ρ, Hi, l.sub, hr.mono l.old, hp1⟩
  | true => exact iteT (Pst.now (d := true) hp1 l.sub rfl)

/-! ## places, slices -/
theorem atI_V {K : PySem.W.Frag} {H : Hp} {ds : List D} {vs : List V} {i : Int} {d : D} (r : Reps K H ds vs) (h : atI ds i = some d) : ∃ v, atI vs i = some v ∧ Rep K H d v := by
  unfold atI at h ⊢
  rw [← r.length]
  cases q : ixN ds.length i with
  | none => rw [q] at h; cases h
  | some j =>
    rw [q] at h
    exact r.get h
theorem ixP (hpl : plain b = true) : PlainIx b := by
  intro o i
  cases b <;> first | rfl | cases hpl
theorem se_ix (hpl : plain b = true) (ha : SE X W a fa) (hb : SE X W b fb) : SE X W (.Subscript a b pos) (fun ρ => do
    let x ← fa ρ
    let y ← fb ρ
    D.ix x y) := by
  refine PE.imp (pe_ix (ix_seq (X := X)) ha hb (ixP hpl)) fun σ H Q ⟨ρ, Hs, he, hr, hp⟩ => ⟨ρ, Hs, he, hr, hp.bind fun d _ v Hi H1 l rv hp1 => ⟨ρ, Hi, l.sub, hr.mono l.old, hp1.bind fun d2 _ v2 Hj H2 l2 rv2 hp2 => ?_⟩⟩
  have rv' := rv.mono l2.old
  cases d2 with
  | int i =>
    rw [rv2.intI]
    cases d with
    | lst xs =>
      cases q : atI xs i with
      | none => simp only [D.ix, q] at hp2; exact hp2.elim
      | some d =>
        simp only [D.ix, q] at hp2
        obtain ⟨p, vs, rfl, e1, r1⟩ := rv'.lstI
        obtain ⟨u, e2, r2⟩ := atI_V r1 q
        exact .inl ⟨p, vs, i, u, rfl, rfl, SqL.of (l2.sub _ _ e1), e2, hp2.now l2.sub r2⟩
    | tup xs =>
      cases q : atI xs i with
      | none => simp only [D.ix, q] at hp2; exact hp2.elim
      | some d =>
        simp only [D.ix, q] at hp2
        obtain ⟨p, vs, rfl, e1, r1⟩ := rv'.tupI
        obtain ⟨u, e2, r2⟩ := atI_V r1 q
        exact .inr (.inl ⟨p, vs, i, u, rfl, rfl, SqT.of (l2.sub _ _ e1), e2, hp2.now l2.sub r2⟩)
    | scr ns =>
      cases q : atI ns i with
      | none => simp only [D.ix, q] at hp2; exact hp2.elim
      | some n =>
        simp only [D.ix, q] at hp2
        obtain ⟨p, rfl, s1⟩ := (rv'.mono l2.sub).scrI
        refine .inl ⟨p, _, i, .int n, rfl, rfl, s1, ?_, hp2.now l2.sub (.int _)⟩
        unfold atI at q ⊢
        rw [List.length_map]
        cases z : ixN ns.length i with
        | none => rw [z] at q; cases q
        | some j =>
          rw [z] at q
          have q : ns[j]? = some n := q
          show (ns.map V.int)[j]? = some (.int n)
          rw [List.getElem?_map, q]
          rfl
    | str x =>
      have hp2 : PstD X.K X.mg Hj H2 (if x.length ≤ 16777216 then (match atI x.cps.toList i with | some c => .ok (.str ⟨#[c]⟩) | none => .stuck) else .stuck) Q _ := hp2
      by_cases hz : x.length ≤ 16777216
      · rw [if_pos hz] at hp2
        cases q : atI x.cps.toList i with
        | none => simp only [q] at hp2; exact hp2.elim
        | some c =>
          simp only [q] at hp2
          rw [rv'.strI]
          exact .inr (.inr ⟨x, i, c, rfl, rfl, by rw [size_eq]; exact hz, q, hp2.now l2.sub (.str _)⟩)
      · rw [if_neg hz] at hp2
        exact hp2.elim
    | _ => exact hp2.elim
  | _ => cases d <;> exact hp2.elim
def tDO (K : PySem.W.Frag) (mg : Str → Option Value) (W : WX) (f : Env → R (Option Int)) : TO := fun σ H Q =>
  ∃ (ρ : Env) (Hs : Hp), Ex Hs H ∧ ERel K Hs ρ σ ∧ Pst (fun _ o p => o = p) K mg Hs H (f ρ) Q (fun c d H' => W c d σ H')
abbrev SO (X : Cx) (W : WX) (e : Option Expr) (f : Env → R (Option Int)) : Prop := PO X e (tDO X.K X.mg W f)
theorem PO.imp {X : Cx} {e : Option Expr} {t u : TO} (h : PO X e t) (f : ∀ σ H Q, u σ H Q → t σ H Q) : PO X e u := by
  obtain ⟨run⟩ := h
  constructor
  intros
  apply run <;> first | assumption | exact f _ _ _ ‹_›
theorem so_none : SO X W none (fun _ => .ok none) := PO.imp po_none fun σ H Q ⟨ρ, Hs, he, hr, hp⟩ => hp.now he rfl
theorem so_some (ha : SE X W a fa) : SO X W (some a) (fun ρ => do
    let x ← fa ρ
    D.asI x) := by
  refine PO.imp (po_some ha) fun σ H Q ⟨ρ, Hs, he, hr, hp⟩ => ⟨ρ, Hs, he, hr, hp.bind fun d _ v Hi H1 l rv hp1 => ?_⟩
  cases d with
  | int i => exact ⟨i, rv.intI, Pst.now (d := some i) hp1 l.sub rfl⟩
  | _ => exact hp1.elim
theorem cutA_V {K : PySem.W.Frag} {H : Hp} {ds : List D} {vs : List V} (r : Reps K H ds vs) (lo hi : Option Int) : Reps K H (cutA ds lo hi) (cutV vs lo hi) := by
  unfold cutA cutV
  rw [← r.length]
  exact (r.dropN _).take _
theorem cutA_whole {α : Type} {xs : List α} {lo hi : Option Int} (h : HT.sIx xs.length 0 lo = 0 ∧ HT.sIx xs.length xs.length hi = xs.length) : cutA xs lo hi = xs := by
  unfold cutA
  rw [h.1, h.2, List.drop_zero, Nat.sub_zero, List.take_length]
theorem se_sl {lo hi : Option Expr} {p2 : Pos} {fl fh : Env → R (Option Int)} (ha : SE X W a fa) (hl : SO X W lo fl) (hh : SO X W hi fh) : SE X W (.Subscript a (.Slice lo hi none p2) pos) (fun ρ => do
    let x ← fa ρ
    let l ← fl ρ
    let h ← fh ρ
    D.sl x l h) := by
  refine PE.imp (pe_slice (sl_list.or (sl_tupA.or sl_str)) ha hl hh) fun σ H Q ⟨ρ, Hs, he, hr, hp⟩ => ⟨ρ, Hs, he, hr, hp.bind fun d _ v Hi H1 l rv hp1 => ⟨ρ, Hi, l.sub, hr.mono l.old, hp1.bind fun lo _ lo' Hj H2 l2 rl hp2 => ⟨ρ, Hj, l2.sub, (hr.mono l.old).mono l2.old, hp2.bind fun hi _ hi' Hk H3 l3 rh hp3 => ?_⟩⟩⟩
  subst rl
  subst rh
  have rv' := (rv.mono l2.old).mono l3.old
  have he3 := l3.sub
  cases d with
  | lst xs =>
    obtain ⟨p, vs, rfl, e1, r1⟩ := rv'.lstI
    exact .inl ⟨p, vs, rfl, SqL.of (he3 _ _ e1), fun q hn => hp3 _ _ _ (Le.new1 he3 hn) (mk_lst he3 (cutA_V r1 lo hi) hn)⟩
  | tup xs =>
    obtain ⟨p, vs, rfl, e1, r1⟩ := rv'.tupI
    refine .inr (.inl ⟨p, vs, rfl, SqT.of (he3 _ _ e1), fun hw => ?_, fun _ q hn => hp3 _ _ _ (Le.new1 he3 hn) (mk_tup he3 (cutA_V r1 lo hi) hn)⟩)
    rw [← r1.length] at hw
    have hp3 : PstD X.K X.mg Hk H3 (.ok (.tup (cutA xs lo hi))) Q _ := hp3
    rw [cutA_whole hw] at hp3
    exact hp3.now he3 (.tup e1 r1)
  | scr ns =>
    obtain ⟨p, rfl, s1⟩ := (rv'.mono he3).scrI
    refine .inl ⟨p, _, rfl, s1, fun q hn => hp3 _ _ _ (Le.new1 he3 hn) (mk_lst he3 ?_ hn)⟩
    have : cutV (ns.map V.int) lo hi = (cutA ns lo hi).map V.int := by
      unfold cutV cutA
      rw [List.length_map, List.map_take, List.map_drop]
    rw [this]
    exact Reps.ints
  | str x =>
    have hp3 : PstD X.K X.mg Hk H3 (if x.length ≤ 16777216 then .ok (.str (cutS x lo hi)) else .stuck) Q _ := hp3
    by_cases hz : x.length ≤ 16777216
    · rw [if_pos hz] at hp3
      rw [rv'.strI]
      exact .inr (.inr ⟨x, rfl, by rw [size_eq]; exact hz, hp3.now he3 (.str _)⟩)
    · rw [if_neg hz] at hp3
      exact hp3.elim
  | _ => exact hp3.elim

/-! ## a[::k], a.index(b) -/
theorem vals_pick {xs : List V} {us : List Value} (r : Vals xs us) : ∀ l : List Nat, Vals (l.filterMap (xs[·]?)) (l.filterMap (us[·]?))
  | [] => .nil
  | i :: l => by
    have t := vals_pick r l
    rw [List.filterMap_cons, List.filterMap_cons]
    cases h : xs[i]? with
    | none =>
      have : us[i]? = none := by
        rw [List.getElem?_eq_none_iff] at h ⊢
        rw [← r.length]
        exact h
      rw [this]
      exact t
    | some x =>
      obtain ⟨u, hu, ru⟩ := r.get h
      rw [hu]
      exact .cons ru t
theorem reps_pick {K : PySem.W.Frag} {H : Hp} {xs : List D} {us : List V} (r : Reps K H xs us) : ∀ l : List Nat, Reps K H (l.filterMap (xs[·]?)) (l.filterMap (us[·]?))
  | [] => .nil
  | i :: l => by
    have t := reps_pick r l
    rw [List.filterMap_cons, List.filterMap_cons]
    cases h : xs[i]? with
    | none =>
      have : us[i]? = none := by
        rw [List.getElem?_eq_none_iff] at h ⊢
        rw [← r.length]
        exact h
      rw [this]
      exact t
    | some x =>
      obtain ⟨u, hu, ru⟩ := r.get h
      rw [hu]
      exact .cons ru t
def tStep (K : PySem.W.Frag) (te tk : TE) : TE := fun σ H Q => te σ H fun x H1 => tPart tk σ H1 fun o H2 => ∃ a xs k, x = .ref a ∧ o = some k ∧ k ≠ 0 ∧ SqL K H2 a xs ∧ ∀ p, H2 p = none → Q (.ref p) (upd H2 p (.lst (pickS xs k)))
theorem pickS_len {α : Type} (xs : List α) (k : Int) : (pickS xs k).length ≤ xs.length := by
  unfold pickS
  refine Nat.le_trans (List.length_filterMap_le _ _) (PySem.sliceRange_length_le _ _ _ _ (fun hc => ?_) fun hc => ?_)
  · simp only [sliceBounds] at hc ⊢
    simp only [hc, if_true]
    constructor <;> simp
  · simp only [sliceBounds] at hc ⊢
    simp only [hc, if_false]
    constructor <;> simp
theorem pe_step {e ks : Expr} {te tk : TE} {p3 : Pos} (he : PE X e te) (hk : PE X ks tk) : PE X (.Subscript e (.Slice none none (some ks) p3) pos) (tStep X.K te tk) := by
  refine ⟨fun pins s σ H Q I h => ?_⟩
  refine Subscript_ (thn (he.run pins s σ H _ I h) fun v s1 ⟨x, H1, I1, r1, q1⟩ => ?_)
  refine wpAny_Slice (thn (po_none.run pins s1 σ H1 (fun o H2 => o = none ∧ H2 = H1) I1 ⟨rfl, rfl⟩) fun vl s2 ⟨l, H2, I2, pl, el, e2⟩ => ?_)
  subst el e2
  refine thn (po_none.run pins s2 σ H2 (fun o H3 => o = none ∧ H3 = H2) I2 ⟨rfl, rfl⟩) fun vu s3 ⟨u, H3, I3, pu, eu, e3⟩ => ?_
  subst eu e3
  refine thn ((po_some hk).run pins s3 σ H3 (fun o H4 => ∃ a xs k, x = .ref a ∧ o = some k ∧ k ≠ 0 ∧ SqL X.K H4 a xs ∧ ∀ p, H4 p = none → Q (.ref p) (upd H4 p (.lst (pickS xs k)))) I3 ?_) fun vs s4 ⟨o, H4, I4, ps, q4⟩ => ?_
  · exact q1
  · obtain ⟨a, xs, k, ex, eo, hk0, hx, q⟩ := q4
    subst ex eo
    cases r1
    have I5 : Inv X pins σ H4 { s4 with heap := s4.heap.push { cls := .type "slice", data := .fields #[vl, vu, vs] } } := I4.kept (t' := s4.toks) fun b ob q => Heap.get?_push_of_some _ q
    obtain ⟨its, r, ht, hz⟩ := I5.list hx
    have hlen := r.length
    show wpAny (model X.prog X.w) X.A (subscriptTail e (.Slice none none (some ks) p3) (.ref a) (.ref s4.heap.objs.size)) (EP X pins σ Q) X.xe { s4 with heap := s4.heap.push { cls := .type "slice", data := .fields #[vl, vu, vs] } }
    refine tail_any (ops := [.ref a, .ref s4.heap.objs.size]) ht.isList.typeIs (PySem.slot_list_getitem.lookup) ?_ (by with_unfolding_all rfl)
    refine wpAny_getItem_list_slice ht.isList (Heap.IsSliceOf.new _ vl vu vs) pl pu ps (by simpa using hk0) ?_ (by rw [List.size_toArray]; omega)
    refine ⟨.ref _, _, I5.laid (t' := s4.toks) (o := .lst (pickS xs k)) (fun b ob q => Heap.get?_push_of_some _ q) (Nat.le_refl _) ?_, rfl, q _ (I5.hok.fresh (Nat.le_refl _))⟩
    refine ⟨Nat.le_trans (pickS_len _ _) hz, pickS its k, 0, ?_, ?_⟩
    · unfold pickS
      rw [hlen]
      exact vals_pick r _
    · have : slicePick its.toArray none none (some k) = (pickS its k).toArray := by
        unfold slicePick pickS
        simp
      rw [this]
      exact Heap.get?_push_size _ rfl
theorem se_slk {p3 : Pos} {ks : Expr} {fk : Env → R D} (ha : SE X W a fa) (hk : SE X W ks fk) : SE X W (.Subscript a (.Slice none none (some ks) p3) pos) (fun ρ => do
    let x ← fa ρ
    let y ← fk ρ
    D.slk x y) := by
  refine PE.imp (pe_step ha hk) fun σ H Q ⟨ρ, Hs, he, hr, hp⟩ => ⟨ρ, Hs, he, hr, hp.bind fun d _ v Hi H1 l rv hp1 => ⟨ρ, Hi, l.sub, hr.mono l.old, hp1.bind fun d2 _ v2 Hj H2 l2 rv2 hp2 => ?_⟩⟩
  have rv' := rv.mono l2.old
  have he3 := l2.sub
  cases d2 with
  | int k =>
    rw [rv2.intI]
    cases d with
    | lst xs =>
      have hp2 : PstD X.K X.mg Hj H2 (if k = 0 then .stuck else .ok (.lst (pickS xs k))) Q _ := hp2
      by_cases hk0 : k = 0
      · rw [if_pos hk0] at hp2; exact hp2.elim
      · rw [if_neg hk0] at hp2
        obtain ⟨p, vs, rfl, e1, r1⟩ := rv'.lstI
        refine ⟨k, rfl, p, vs, k, rfl, rfl, hk0, SqL.of (he3 _ _ e1), fun q hn => hp2 _ _ _ (Le.new1 he3 hn) (mk_lst he3 ?_ hn)⟩
        unfold pickS
        rw [← r1.length]
        exact reps_pick r1 _
    | scr ns =>
      have hp2 : PstD X.K X.mg Hj H2 (if k = 0 then .stuck else .ok (.lst ((pickS ns k).map D.int))) Q _ := hp2
      by_cases hk0 : k = 0
      · rw [if_pos hk0] at hp2; exact hp2.elim
      · rw [if_neg hk0] at hp2
        obtain ⟨p, rfl, s1⟩ := (rv'.mono he3).scrI
        refine ⟨k, rfl, p, _, k, rfl, rfl, hk0, s1, fun q hn => hp2 _ _ _ (Le.new1 he3 hn) (mk_lst he3 ?_ hn)⟩
        have : pickS (ns.map V.int) k = (pickS ns k).map V.int := by
          unfold pickS
          rw [List.length_map, List.map_filterMap]
          congr 1
          funext i
          rw [List.getElem?_map]
        rw [this]
        exact Reps.ints
    | _ => exact hp2.elim
  | _ => cases d <;> exact hp2.elim
theorem se_idx {ap : Pos} {x : Str} {px : Pos} (ha : SE X W (.Name x px) fa) (hb : SE X W b fb) (hl : (ap.endLine == pos.line) = true) (hpl : plain b = true) : SE X W (.Call (.Attribute (.Name x px) "index" ap) [b] [] pos) (fun ρ => do
    let x ← fa ρ
    if x.isL then do
      let y ← fb ρ
      D.idx x y
    else .stuck) := by
  have hst : starEach [b] X.env = (false, eval b X.env) :: starEach [] X.env := star_cons hpl
  refine PE.imp (pe_bm PySem.F.plainAttrs_list PySem.F.slot_list_index PySem.F.type_list_index mt_index ha (pa_cons hb pa_nil hst) rfl (by rw [hst]; rfl) hl hst rfl) fun σ H Q ⟨ρ, Hs, he, hr, hp⟩ => ⟨ρ, Hs, he, hr, hp.bind fun d _ v Hi H1 l rv hp1 => ?_⟩
  cases d with
  | lst xs =>
    obtain ⟨p, vs, rfl, e1, r1⟩ := rv.lstI
    refine ⟨.inl ⟨rfl, vs, SqL.of (l.sub _ _ e1)⟩, ρ, Hi, l.sub, hr.mono l.old, hp1.bind fun y _ v2 Hj H2 l2 rv2 hp2 => ?_⟩
    have hp2 : PstD X.K X.mg Hj H2 (if y.flat && xs.all D.flat then (match xs.findIdx? fun x => PyData.eqv x.pd y.pd with
    | some j => .ok (.int (j : Nat))
    | none => .stuck) else .stuck) Q _ := hp2
    by_cases hz : (y.flat && xs.all D.flat) = true
    · rw [if_pos hz] at hp2
      rw [Bool.and_eq_true] at hz
      cases hf : xs.findIdx? fun x => PyData.eqv x.pd y.pd with
      | none => rw [hf] at hp2; exact hp2.elim
      | some j =>
        rw [hf] at hp2
        obtain ⟨hj, h1, h2⟩ := List.findIdx?_eq_some_iff_getElem.mp hf
        have r2 := r1.mono l2.old
        obtain ⟨z, hz1, hz2⟩ := r2.get (List.getElem?_eq_getElem hj)
        have hfl : (xs[j]).flat = true := List.all_eq_true.mp hz.2 _ (List.getElem_mem hj)
        refine ⟨p, vs, v2, j, z, rfl, rfl, SqL.of (l2.sub _ _ (l2.old _ _ e1)), flat_V rv2 hz.1, flat_all r2 hz.2, hz1, ?_, fun m z' hm hz' => ?_, hp2.now l2.sub (.int _)⟩
        · rw [flat_eqV hz2 rv2 hfl hz.1]
          exact h1
        · obtain ⟨d', hd1, hd2⟩ := r2.getV hz'
          have hml : m < xs.length := by omega
          rw [List.getElem?_eq_getElem hml] at hd1
          cases hd1
          rw [flat_eqV hd2 rv2 (List.all_eq_true.mp hz.2 _ (List.getElem_mem hml)) hz.1]
          simpa using h2 m hm
    · rw [if_neg hz] at hp2
      exact hp2.elim
  | _ => exact hp1.elim
/-! ## calls -/
theorem se_call {cal : Cal} {k : Nat} {p : Pos} (tk : Takes X W) (F : cal.Ok X.prog X.w X.K X.mg X.base k) (hr : Room k X.A) (hg : glOk X.env.scope cal.name = true) (hpl : ∀ x ∈ e :: es, plain x = true) (hs : SA X W (e :: es) fs) :
    SE X W (.Call (.Name cal.name p) (e :: es) [] pos) (fun ρ => do
    let xs ← fs ρ
    if xs.length = cal.ps.length then cal.g xs else .stuck) := by
  obtain ⟨g1, g2, g3⟩ := gl_of hg
  refine PE.imp (pe_callS F.ok hr g1 F.gl F.kp F.bd (fun σ => passAt tk σ) hs g2 (star_cons (hpl e (by simp))) (star_any fun x hx => hpl x (by simp [hx]))) fun σ H Q ⟨ρ, Hs, he, hr, hp⟩ => ⟨ρ, Hs, he, hr, hp.bind fun ds _ vs Hi H1 l rv hp1 => ?_⟩
  by_cases hn : ds.length = cal.ps.length
  · rw [if_pos hn] at hp1
    exact ⟨Hi, ds, l.sub, rv, hn, hp1⟩
  · rw [if_neg hn] at hp1
    exact hp1.elim
theorem bi_imp {g : List D → R D} {σ : L2.St} {H : Hp} {Q : VK} (h : tD X.K X.mg W (fun ρ => do
    let xs ← fs ρ
    g xs) σ H Q) : tCB (rL X.K X.mg g) (tDL X.K X.mg W fs) σ H Q := by
  obtain ⟨ρ, Hs, he, hr, hp⟩ := h
  exact ⟨ρ, Hs, he, hr, hp.bind fun ds _ vs Hi H1 l rv hp1 => ⟨Hi, ds, _, l.sub, rv, hp1⟩⟩
theorem se_bi {bi : Bi} {p : Pos} (hc : X.calm = true) (hu : X.A.units + 65 < cLine) (hg : glOk X.env.scope bi.name = true) (hm : X.mg bi.name = none) (hpl : ∀ x ∈ e :: es, plain x = true) (hs : SA X W (e :: es) fs) :
    SE X W (.Call (.Name bi.name p) (e :: es) [] pos) (fun ρ => do
    let xs ← fs ρ
    bi.f xs) := by
  obtain ⟨g1, g2, g3⟩ := gl_of hg
  have s1 := star_cons (env := X.env) (es := es) (hpl e (by simp))
  have s2 := star_any (pos := pos) (env := X.env) fun x hx => hpl x (List.mem_cons_of_mem e hx)
  refine PE.imp ?_ fun _ _ _ h => bi_imp h
  cases bi with
  | len => exact pe_callB cs_len g1 hm PySem.boot_len hs g3 g2 s1 s2
  | abs => exact pe_callB cs_abs g1 hm (by decide +kernel) hs g3 g2 s1 s2
  | max2 => exact pe_callB (cs_max2 hc) g1 hm (by decide +kernel) hs g3 g2 s1 s2
  | min2 => exact pe_callB (cs_min2 hc) g1 hm (by decide +kernel) hs g3 g2 s1 s2
  | minL => exact pe_callB (cs_minL hc hu) g1 hm (by decide +kernel) hs g3 g2 s1 s2
  | maxL => exact pe_callB (cs_maxL hc hu) g1 hm (by decide +kernel) hs g3 g2 s1 s2
  | list => exact pe_callTy cs_list g1 hm (by decide +kernel) hs g3 g2 s1 s2
  | tuple => exact pe_callTy cs_tuple g1 hm (by decide +kernel) hs g3 g2 s1 s2
  | all => exact pe_callB (cs_allL hc) g1 hm (by decide +kernel) hs g3 g2 s1 s2
  | any => exact pe_callB (cs_anyL hc) g1 hm (by decide +kernel) hs g3 g2 s1 s2
  | int => exact pe_callTy cs_int g1 hm (by decide +kernel) hs g3 g2 s1 s2
  | sorted => exact pe_callB (cs_sorted hu) g1 hm (by decide +kernel) hs g3 g2 s1 s2

/-! isinstance -/
def D.tyName : D → String
  | .non => "NoneType" | .bl _ => "bool" | .int _ => "int" | .str _ => "str" | .tup _ => "tuple" | .lst _ => "list" | .scr _ => "list" | .exv _ _ => "" | .dic => "dict"
def D.isEx : D → Bool
  | .exv _ _ => true
  | _ => false
theorem ty_of {K : PySem.W.Frag} {Hs H : Hp} {d : D} {v : V} (r : Rep K Hs d v) (he : Ex Hs H) (hx : d.isEx = false) : TyX K H v (.type d.tyName) := by
  cases r with
  | non => exact .base .non
  | bl b => exact .base (.bl b)
  | int i => exact .base (.int i)
  | str x => exact .base (.str x)
  | tup h r => exact .base (.tup (he _ _ h))
  | lst h r => exact .base (.lst (he _ _ h))
  | @scr a ns h =>
    have q : SqL K H a (ns.map V.int) := by
      rcases h with ⟨o, h⟩ | h
      · exact .inl (.inr ⟨o, he _ _ h⟩)
      · exact h H
    rcases q with (q | ⟨o, q⟩) | ⟨o, its, n, q, c, _⟩
    · exact .base (.lst q)
    · exact .base (.frz q)
    · exact .kList q c
  | dic h => exact .base (.dK (he _ _ h))
  | exv0 _ _ _ _ => cases hx
  | exv1 _ _ _ _ _ _ _ => cases hx
theorem kit_all (d : D) (t : Ty) (hx : d.isEx = false) : kitB d.tyName t.name = some (d.isTy t) := by
  cases d with
  | non => cases t <;> (show kitB "NoneType" _ = some false; decide +kernel)
  | bl b => cases t <;> first | (show kitB "bool" _ = some true; decide +kernel) | (show kitB "bool" _ = some false; decide +kernel)
  | int b => cases t <;> first | (show kitB "int" _ = some true; decide +kernel) | (show kitB "int" _ = some false; decide +kernel)
  | str b => cases t <;> first | (show kitB "str" _ = some true; decide +kernel) | (show kitB "str" _ = some false; decide +kernel)
  | tup b => cases t <;> first | (show kitB "tuple" _ = some true; decide +kernel) | (show kitB "tuple" _ = some false; decide +kernel)
  | lst b => cases t <;> first | (show kitB "list" _ = some true; decide +kernel) | (show kitB "list" _ = some false; decide +kernel)
  | scr b => cases t <;> first | (show kitB "list" _ = some true; decide +kernel) | (show kitB "list" _ = some false; decide +kernel)
  | dic => cases t <;> (show kitB "dict" _ = some false; decide +kernel)
  | exv c ys => cases hx
theorem kit_exc {K : PySem.W.Frag} {B C : Addr} (T : ExC K B C) (t : Ty) : PySem.W.kitOne K (.ref C) (.type t.name) = some false := by
  cases t
  · exact T.tI
  · exact T.tB
  · exact T.tS
  · exact T.tT
  · exact T.tL
theorem isi_wish {K : PySem.W.Frag} {Hi H : Hp} {d : D} {v : V} {t : Ty} {Q : VK} (r : Rep K Hi d v) (he : Ex Hi H) (q : Q (.bl (d.isTy t)) H) : rIsx K [v, .ty t.name] H Q ∨ rIsi K [v, .ty t.name] H Q := by
  by_cases hx : d.isEx = false
  · exact .inr ⟨v, .ty t.name, .type d.tyName, .type t.name, d.isTy t, rfl, .ty _, ty_of r he hx, kit_ty (kit_all d t hx), q⟩
  · cases r with
    | exv0 h1 h2 h3 h4 => exact .inl ⟨_, _, _, none, _, _, false, rfl, h3, he _ _ h4, (fun _ z => nomatch z), .ty _, kit_exc h3 t, q⟩
    | exv1 h1 h2 h3 h4 h5 h6 r => exact .inl ⟨_, _, _, some _, _, _, false, rfl, h3, he _ _ h5, (fun _ z => by cases z; exact ⟨_, he _ _ h6⟩), .ty _, kit_exc h3 t, q⟩
    | _ => exact absurd rfl hx
theorem boot_ty (t : Ty) : bootBuiltins (Str.ofString t.name) = some (.type t.name) := by
  cases t <;> decide +kernel
theorem se_isi {t : Ty} {p q : Pos} (hg : glOk X.env.scope "isinstance" = true) (hm : X.mg "isinstance" = none) (hg2 : glOk X.env.scope (Str.ofString t.name) = true) (hm2 : X.mg (Str.ofString t.name) = none) (hpl : plain a = true) (ha : SE X W a fa) :
    SE X W (.Call (.Name "isinstance" p) [a, .Name (Str.ofString t.name) q] [] pos) (fun ρ => do
    let x ← fa ρ
    .ok (.bl (x.isTy t))) := by
  obtain ⟨g1, g2, g3⟩ := gl_of hg
  obtain ⟨k1, k2, k3⟩ := gl_of hg2
  have hz : PE X (.Name (Str.ofString t.name) q) (tC (.ty t.name)) := pe_bltn k1 hm2 (boot_ty t) rfl k3 k2
  refine PE.imp (pe_callB call_isx2 g1 hm (by decide +kernel) (pa_cons ha (pa_cons hz pa_nil (star_cons rfl)) (star_cons hpl)) g3 g2 (star_cons hpl) (star_any fun x hx => by
    have e : x = .Name (Str.ofString t.name) q := by simpa using hx
    subst e
    rfl)) fun σ H Q ⟨ρ, Hs, he, hr, hp⟩ => ⟨ρ, Hs, he, hr, hp.bind fun d _ v Hi H1 l rv hp1 => ?_⟩
  exact isi_wish rv l.sub (Pst.now (d := D.bl _) hp1 l.sub (.bl _))

/-! min(xs, default=None) -/
theorem cs_minD (hc : X.calm = true) (hu : X.A.units + 65 < cLine) : CallRK X (.builtin "min") [("default" : Str)] (fun vs zs H Q => zs = [.non] ∧ rL X.K X.mg (f1 D.minD) vs H Q) := by
  intro pins s σ H xs zs us ws Q I r rz h
  obtain ⟨rfl, Hs, ds, E, he, rr, hp⟩ := h
  obtain ⟨d, v, rfl, rfl, rd, hp⟩ := one_in (f1_in _) rr hp
  obtain ⟨w, rfl, rw'⟩ := vals1 rz
  cases (show w = Value.none from rw')
  cases d with
  | lst xs =>
    cases q : asInts xs with
    | none => simp [D.minD, q] at hp; exact hp.elim
    | some l =>
      obtain ⟨p, vs, rfl, e1, r1⟩ := rd.lstI
      have e := asInts_some q
      rw [e] at r1
      have ev := r1.intsI
      subst ev
      rw [Vals.ref1 r]
      obtain ⟨its, rv, hl, hz⟩ := I.list (SqL.of (he _ _ e1))
      obtain ⟨as, q1⟩ := Dp.readsAll I _ _ _ (dp_ints (K := X.K) (H := H) l) rv
      refine PySem.W.min_list_default (as := as) (xs := l.map .int) (d := .none) (I.ok.hd hc) hl.isList (by simpa using q1) (alike_ints' l) (by rw [PySem.W.depth_ints]; omega) (fun h0 h' tk k => ?_) fun y ys i v h' tk bs e2 _ rv k => ?_
      · have : l = [] := by simpa using h0
        subst this
        have hq : PstD X.K X.mg Hs H (.ok .non) Q E := by simpa [D.minD, q] using hp
        exact ⟨.non, H, I.kept (t' := tk) k, rfl, hq.now he .non⟩
      · cases l with
        | nil => cases e2
        | cons n ns =>
          have hq : PstD X.K X.mg Hs H (.ok (.int (ns.foldl min n))) Q E := by simpa [D.minD, q] using hp
          rw [List.map_cons] at e2
          injection e2 with e3 e4
          subst e3
          subst e4
          rw [PySem.W.minD_ints] at rv
          obtain ⟨t, rfl⟩ := reads_int rv
          exact ⟨.int _, H, I.kept (t' := tk) k, ⟨t, rfl⟩, hq.now he (.int _)⟩
  | _ => exact hp.elim
theorem se_minD {p r p2 : Pos} {j : Nat} (hc : X.calm = true) (hu : X.A.units + 65 < cLine) (hg : glOk X.env.scope "min" = true) (hm : X.mg "min" = none) (hpl : plain a = true) (ha : SE X W a fa) :
    SE X W (.Call (.Name "min" p) [a] [⟨some "default", .Constant .none j p2, r⟩] pos) (fun ρ => do
    let x ← fa ρ
    D.minD x) := by
  obtain ⟨g1, g2, g3⟩ := gl_of hg
  refine PE.imp (pe_callBK (cs_minD hc hu) g1 hm (by decide +kernel) (pa_cons ha pa_nil (star_cons hpl)) (pk_cons pe_non pk_nil) g3 g2 (by rw [star_cons hpl]; rfl) (by rw [star_cons hpl]; rfl)) fun σ H Q ⟨ρ, Hs, he, hr, hp⟩ => ⟨ρ, Hs, he, hr, hp.bind fun d _ v Hi H1 l rv hp1 => ?_⟩
  exact ⟨rfl, Hi, [d], _, l.sub, .cons rv .nil, hp1⟩
end
end Py

namespace Py
open PySem PySem.Spec PyProof.Rows L2

/-! ## targets -/
def gNames : List Nat → TGs
  | [] => gNil
  | i :: is => gCons (gName i) (gNames is)
def gOf (K : PySem.W.Frag) : Tgt → TG
  | .nm i => gName i
  | .tp is => gTup K is.length (gNames is)
section
variable {X : Cx}
theorem loc_of {sc raw : Scope} {x : Str} (h : locOk sc raw x = true) (hs : X.env.scope = sc) (hf : ∀ x, raw.names.lookup x = some .cell → X.fn x = true) : Loc X.env.scope x ∧ (X.fn x = true ∨ X.env.scope.names.lookup x = some .local) := by
  unfold locOk at h
  subst hs
  split at h
  · have h := of_decide_eq_true h
    exact ⟨.inl h, .inr h⟩
  · have h := of_decide_eq_true h
    exact ⟨.inr h, .inl (hf x (by assumption))⟩
  · cases h
theorem pgs_of {N : List Str} {sc raw : Scope} (hN : X.N = N) (nd : N.Nodup) (hs : X.env.scope = sc) (hf : ∀ x, raw.names.lookup x = some .cell → X.fn x = true) : ∀ {is : List Nat} {es : List Expr}, chkNames N sc raw is es = true → PGs X es (gNames is) ∧ (assignEach es X.env).length = is.length ∧ (assignEach es X.env).findIdx? (·.1) = none
  | [], [], _ => ⟨pgs_nil, rfl, rfl⟩
  | [], _ :: _, h => by cases h
  | _ :: _, [], h => by cases h
  | i :: is, e :: es, h => by
    unfold chkNames at h
    rw [Bool.and_eq_true] at h
    cases q : xName e with
    | none => rw [q] at h; cases h.1
    | some x =>
      rw [q] at h
      obtain ⟨p, rfl⟩ := xName_s q
      obtain ⟨h1, h2⟩ := h
      simp only [Bool.and_eq_true, decide_eq_true_eq] at h1
      obtain ⟨h3, h4⟩ := loc_of (X := X) h1.2 hs hf
      obtain ⟨r1, r2, r3⟩ := pgs_of hN nd hs hf h2
      subst hN
      refine ⟨pgs_cons (pg_name nd h1.1 h3 h4) r1, ?_, ?_⟩
      · show (assignEach es X.env).length + 1 = is.length + 1
        rw [r2]
      · show ((false, assign (.Name x p) X.env) :: assignEach es X.env).findIdx? (·.1) = none
        rw [List.findIdx?_cons, r3]
        rfl
theorem pg_of {N : List Str} {sc raw : Scope} {t : Tgt} {e : Expr} (hc : X.calm = true) (hN : X.N = N) (nd : N.Nodup) (hs : X.env.scope = sc) (hf : ∀ x, raw.names.lookup x = some .cell → X.fn x = true) (h : chkTgt N sc raw t e = true) : PG X e (gOf X.K t) := by
  cases t with
  | nm i =>
    have h : (match xName e with | some x => decide (N[i]? = some x) && locOk sc raw x | none => false) = true := h
    cases q : xName e with
    | none => rw [q] at h; cases h
    | some x =>
      rw [q] at h
      obtain ⟨p, rfl⟩ := xName_s q
      have h : (decide (N[i]? = some x) && locOk sc raw x) = true := h
      simp only [Bool.and_eq_true, decide_eq_true_eq] at h
      obtain ⟨h3, h4⟩ := loc_of (X := X) h.2 hs hf
      subst hN
      exact pg_name nd h.1 h3 h4
  | tp is =>
    have h : (match xTup e with | some es => chkNames N sc raw is es | none => false) = true := h
    cases q : xTup e with
    | none => rw [q] at h; cases h
    | some es =>
      rw [q] at h
      obtain ⟨k, p, rfl⟩ := xTup_s q
      obtain ⟨r1, r2, r3⟩ := pgs_of hN nd hs hf h
      exact pg_tup hc r1 r2 r3
end
/-- what is known of all slots but those at is -/
def ERelX (K : PySem.W.Frag) (Hs : Hp) (is : List Nat) (ρ : Env) (σ : L2.St) : Prop := ρ.length ≤ σ.length ∧ ∀ (i : Nat) (d : D), ρ[i]? = some (some d) → i ∈ is ∨ ∃ v, σ[i]? = some (some v) ∧ Rep K Hs d v
section
variable {K : PySem.W.Frag} {Hs H : Hp} {ρ ρ' : Env} {σ : L2.St}
theorem ERelX.set {is : List Nat} {i : Nat} {d : D} {v : V} (h : ERelX K Hs (i :: is) ρ σ) (r : Rep K Hs d v) : ERelX K Hs is (ρ.set i (some d)) (σ.set i (some v)) := by
  refine ⟨by simpa using h.1, fun j e q => ?_⟩
  by_cases hj : j = i
  · subst hj
    have hl : j < ρ.length := by
      have := (List.getElem?_eq_some_iff.mp q).1
      simpa using this
    rw [List.getElem?_set_self hl] at q
    cases q
    exact .inr ⟨v, List.getElem?_set_self (Nat.lt_of_lt_of_le hl h.1), r⟩
  · rw [List.getElem?_set_ne (Ne.symm hj)] at q
    rcases h.2 j e q with z | ⟨v, a, b⟩
    · rcases List.mem_cons.mp z with z | z
      · exact absurd z hj
      · exact .inl z
    · exact .inr ⟨v, by rw [List.getElem?_set_ne (Ne.symm hj)]; exact a, b⟩
theorem ERelX.nil (h : ERelX K Hs [] ρ σ) : ERel K Hs ρ σ := ⟨h.1, fun i d q => (h.2 i d q).resolve_left (by simp)⟩
theorem names_run : ∀ {is : List Nat} {ds : List D} {vs : List V} {ρ : Env} {σ : L2.St} {Q : L2.St → Hp → Prop}, setAll is ds ρ = some ρ' → Reps K Hs ds vs → ERelX K Hs is ρ σ → (∀ σ', ERel K Hs ρ' σ' → (∃ us : List V, σ' = (is.zip us).foldl (fun s p => s.set p.1 (some p.2)) σ) → Q σ' H) → gNames is vs σ H Q
  | [], [], _, ρ, σ, Q, h, .nil, hr, k => by
    have e : ρ = ρ' := Option.some.inj h
    subst e
    exact ⟨rfl, k σ hr.nil ⟨[], rfl⟩⟩
  | i :: is, d :: ds, _, ρ, σ, Q, h, .cons (v := v) (vs := vs) r t, hr, k => by
    refine ⟨v, vs, rfl, ?_⟩
    show gNames is vs (σ.set i (some v)) H Q
    refine names_run (ρ := ρ.set i (some d)) h t (hr.set r) fun σ' h1 ⟨us, h2⟩ => k σ' h1 ⟨v :: us, h2⟩
  | [], _ :: _, _, _, _, _, h, _, _, _ => by cases h
  | _ :: _, [], _, _, _, _, h, _, _, _ => by cases h
theorem setAll_len : ∀ {is : List Nat} {ds : List D} {ρ : Env}, setAll is ds ρ = some ρ' → is.length = ds.length ∧ ρ'.length = ρ.length
  | [], [], ρ, h => by
    have e : ρ = ρ' := Option.some.inj h
    subst e
    exact ⟨rfl, rfl⟩
  | i :: is, d :: ds, ρ, h => by
    have := setAll_len (is := is) (ds := ds) (ρ := ρ.set i (some d)) h
    simp only [List.length_set] at this
    exact ⟨congrArg (· + 1) this.1, this.2⟩
  | [], _ :: _, _, h => by cases h
  | _ :: _, [], _, h => by cases h
theorem tgt_run {t : Tgt} {d : D} {v : V} {Q : L2.St → Hp → Prop} (h : t.bind d ρ = .ok ρ') (r : Rep K Hs d v) (he : Ex Hs H) (hr : ERelX K Hs t.ixs ρ σ) (k : ∀ σ', ERel K Hs ρ' σ' → (∃ us : List V, σ' = (t.ixs.zip us).foldl (fun s p => s.set p.1 (some p.2)) σ) → Q σ' H) : gOf K t v σ H Q := by
  cases t with
  | nm i =>
    have e : ρ.set i (some d) = ρ' := R.ok.inj h
    subst e
    exact k _ (hr.set r).nil ⟨[v], rfl⟩
  | tp is =>
    cases d with
    | tup ds =>
      have h : (match setAll is ds ρ with | some ρ' => R.ok ρ' | none => .stuck) = .ok ρ' := h
      cases q : setAll is ds ρ with
      | none => rw [q] at h; cases h
      | some ρ2 =>
        rw [q] at h
        cases h
        obtain ⟨p, vs, rfl, e1, r1⟩ := r.tupI
        exact ⟨p, vs, rfl, SqT.of (he _ _ e1), by rw [← r1.length, (setAll_len q).1], names_run q r1 hr k⟩
    | _ => cases h
end

/-! ## what is walked -/
structure Walk (K : PySem.W.Frag) (J : L2.It) (Hs : Hp) (ds : List D) : Prop where
  go : ∀ i H, Ex Hs H → i < ds.length → J.go i H
  yld : ∀ i Ht H x H' d, Ex Hs Ht → Ex Ht H → ds[i]? = some d → J.yld i H x H' → ∃ Hi, Le Ht H Hi H' ∧ Rep K Hi d x
  stop : ∀ i H, Ex Hs H → ds.length ≤ i → J.stop i H
section
variable {K : PySem.W.Frag} {Hs H : Hp}
theorem Walk.mono {J : L2.It} {ds : List D} {Ht : Hp} (w : Walk K J Hs ds) (e : Ex Hs Ht) : Walk K J Ht ds :=
  ⟨fun i H h => w.go i H (e.trans h), fun i Hu H x H' d h1 h2 => w.yld i Hu H x H' d (e.trans h1) h2, fun i H h => w.stop i H (e.trans h)⟩
theorem walk_lst {a : Addr} {vs : List V} {ds : List D} (h : Hs a = some (.lst vs)) (r : Reps K Hs ds vs) : Walk K (Itl K a) Hs ds := by
  refine ⟨fun i H e hi => ?_, fun i Ht H x H' d e1 e2 hd ⟨e, y⟩ => ?_, fun i H e hi => ⟨vs, SqL.of (e _ _ h), by rw [← r.length]; exact hi⟩⟩
  · have : i < vs.length := by rw [← r.length]; exact hi
    exact ⟨vs, vs[i], SqL.of (e _ _ h), List.getElem?_eq_getElem this⟩
  · subst e
    obtain ⟨v, q, rv⟩ := r.get hd
    have := y vs (SqL.of (e2 _ _ (e1 _ _ h)))
    rw [q] at this
    cases this
    exact ⟨Ht, Le.refl e2, rv.mono e1⟩
theorem walk_tup {a : Addr} {vs : List V} {ds : List D} (h : Hs a = some (.tup vs)) (r : Reps K Hs ds vs) : Walk K (Itt K a) Hs ds := by
  refine ⟨fun i H e hi => ?_, fun i Ht H x H' d e1 e2 hd ⟨e, y⟩ => ?_, fun i H e hi => ⟨vs, SqT.of (e _ _ h), by rw [← r.length]; exact hi⟩⟩
  · have : i < vs.length := by rw [← r.length]; exact hi
    exact ⟨vs, vs[i], SqT.of (e _ _ h), List.getElem?_eq_getElem this⟩
  · subst e
    obtain ⟨v, q, rv⟩ := r.get hd
    have := y vs (SqT.of (e2 _ _ (e1 _ _ h)))
    rw [q] at this
    cases this
    exact ⟨Ht, Le.refl e2, rv.mono e1⟩
theorem walk_scr {a : Addr} {ns : List Int} (h : ∀ H, Ex Hs H → SqL K H a (ns.map V.int)) : Walk K (Itl K a) Hs (ns.map D.int) := by
  refine ⟨fun i H e hi => ?_, fun i Ht H x H' d e1 e2 hd ⟨e, y⟩ => ?_, fun i H e hi => ⟨_, h H e, by simpa using hi⟩⟩
  · have hi' : i < (ns.map V.int).length := by simpa using hi
    exact ⟨_, (ns.map V.int)[i], h H e, List.getElem?_eq_getElem hi'⟩
  · subst e
    have := y _ (h _ (e1.trans e2))
    rw [List.getElem?_map] at this hd
    cases q : ns[i]? with
    | none => rw [q] at hd; cases hd
    | some n =>
      rw [q] at hd this
      cases hd
      cases this
      exact ⟨Ht, Le.refl e2, .int _⟩
theorem walk_str (x : Str) : Walk K (Its x) Hs (x.cps.toList.map fun c => D.str ⟨#[c]⟩) := by
  refine ⟨fun i H e hi => show i < x.cps.size by simpa using hi, fun i Ht H y H' d e1 e2 hd ⟨e, c, h1, h2⟩ => ?_, fun i H e hi => show x.cps.size ≤ i by simpa using hi⟩
  subst e
  subst h2
  rw [List.getElem?_map, Array.getElem?_toList, h1] at hd
  cases hd
  exact ⟨Ht, Le.refl e2, .str _⟩
theorem walk_rng (lo : Int) (n : Nat) : Walk K (Itr lo n) Hs ((List.range n).map fun i => D.int (lo + (i : Nat))) := by
  refine ⟨fun i H e hi => show i < n by simpa using hi, fun i Ht H y H' d e1 e2 hd ⟨e, h2⟩ => ?_, fun i H e hi => show n ≤ i by simpa using hi⟩
  subst e
  subst h2
  rw [List.getElem?_map] at hd
  cases q : (List.range n)[i]? with
  | none => rw [q] at hd; cases hd
  | some j =>
    rw [q] at hd
    cases hd
    obtain ⟨h1, h2⟩ := List.getElem?_eq_some_iff.mp q
    rw [List.getElem_range] at h2
    subst h2
    exact ⟨Ht, Le.refl e2, .int _⟩
theorem walk_rngC (lo c : Int) (n : Nat) : Walk K (Itc lo c n) Hs ((List.range n).map fun i => D.int (lo + (i : Nat) * c)) := by
  refine ⟨fun i H e hi => show i < n by simpa using hi, fun i Ht H y H' d e1 e2 hd ⟨e, h2⟩ => ?_, fun i H e hi => show n ≤ i by simpa using hi⟩
  subst e
  subst h2
  rw [List.getElem?_map] at hd
  cases q : (List.range n)[i]? with
  | none => rw [q] at hd; cases hd
  | some j =>
    rw [q] at hd
    cases hd
    obtain ⟨h1, h2⟩ := List.getElem?_eq_some_iff.mp q
    rw [List.getElem_range] at h2
    subst h2
    exact ⟨Ht, Le.refl e2, .int _⟩
theorem walk_zip {a b : Addr} {vs ws : List V} {ds es : List D} (h : Hs a = some (.lst vs)) (r : Reps K Hs ds vs) (h2 : Hs b = some (.lst ws)) (r2 : Reps K Hs es ws) : Walk K (Itz K a b) Hs (ds.zipWith (fun x y => D.tup [x, y]) es) := by
  refine ⟨fun i H e hi => ?_, fun i Ht H x H' d e1 e2 hd ⟨T, x1, x2, hx, hn, hH, y1, y2⟩ => ?_, fun i H e hi => ⟨vs, ws, SqL.of (e _ _ h), SqL.of (e _ _ h2), ?_⟩⟩
  · rw [List.length_zipWith] at hi
    have l1 : i < vs.length := by rw [← r.length]; omega
    have l2 : i < ws.length := by rw [← r2.length]; omega
    exact ⟨vs, ws, vs[i], ws[i], SqL.of (e _ _ h), SqL.of (e _ _ h2), List.getElem?_eq_getElem l1, List.getElem?_eq_getElem l2⟩
  · subst hx
    subst hH
    rw [List.getElem?_zipWith] at hd
    cases q1 : ds[i]? with
    | none => rw [q1] at hd; cases hd
    | some d1 =>
      cases q2 : es[i]? with
      | none => rw [q1, q2] at hd; cases hd
      | some d2 =>
        rw [q1, q2] at hd
        cases hd
        obtain ⟨v1, p1, rv1⟩ := r.get q1
        obtain ⟨v2, p2, rv2⟩ := r2.get q2
        have z1 := y1 vs (SqL.of (e2 _ _ (e1 _ _ h)))
        have z2 := y2 ws (SqL.of (e2 _ _ (e1 _ _ h2)))
        rw [p1] at z1
        rw [p2] at z2
        cases z1
        cases z2
        exact ⟨_, Le.new1 e2 hn, mk_tup e2 (.cons (rv1.mono e1) (.cons (rv2.mono e1) .nil)) hn⟩
  · rw [List.length_zipWith] at hi
    rw [← r.length, ← r2.length]
    omega
end
def iD (K : PySem.W.Frag) (mg : Str → Option Value) (W : WX) (f : Env → R (List D)) : TI := fun σ H R =>
  ∃ (ρ : Env) (Hs : Hp), Ex Hs H ∧ ERel K Hs ρ σ ∧ Pst (fun Hi ds J => Walk K J Hi ds) K mg Hs H (f ρ) R (fun c d H' => W c d σ H')
abbrev SI (X : Cx) (W : WX) (tg e : Expr) (f : Env → R (List D)) : Prop := PI X tg e (iD X.K X.mg W f)
section
variable {X : Cx} {W : WX} {e a b tg : Expr} {es : List Expr} {pos : Pos} {fa fb : Env → R D} {fs : Env → R (List D)}
theorem PI.imp {t u : TI} (h : PI X tg e t) (f : ∀ σ H Q, u σ H Q → t σ H Q) : PI X tg e u := ⟨fun pins s σ H Q I q => h.run pins s σ H Q I (f σ H Q q)⟩
theorem si_val (ha : SE X W a fa) : SI X W tg a (fun ρ => do
    let x ← fa ρ
    D.items x) := by
  refine ⟨fun pins s σ H Q I h => ?_⟩
  obtain ⟨ρ, Hs, he, hr, hp⟩ := h
  cases q : fa ρ with
  | stuck => simp only [q] at hp; exact hp.elim
  | exc x =>
    exact (pi_list (tg := tg) ha).run pins s σ H Q I ⟨ρ, Hs, he, hr, by simp only [q] at hp ⊢; exact hp⟩
  | ok d =>
    cases d with
    | lst xs =>
      refine (pi_list (tg := tg) ha).run pins s σ H Q I ⟨ρ, Hs, he, hr, hp.bind fun d e v Hi H1 l rv hp1 => ?_⟩
      rw [q] at e
      cases e
      obtain ⟨p, vs, rfl, e1, r1⟩ := rv.lstI
      exact ⟨p, rfl, ⟨vs, SqL.of (l.sub _ _ e1)⟩, Pst.now (d := xs) hp1 l.sub (walk_lst e1 r1)⟩
    | tup xs =>
      refine (pi_tup (tg := tg) ha).run pins s σ H Q I ⟨ρ, Hs, he, hr, hp.bind fun d e v Hi H1 l rv hp1 => ?_⟩
      rw [q] at e
      cases e
      obtain ⟨p, vs, rfl, e1, r1⟩ := rv.tupI
      exact ⟨p, rfl, ⟨vs, SqT.of (l.sub _ _ e1)⟩, Pst.now (d := xs) hp1 l.sub (walk_tup e1 r1)⟩
    | scr ns =>
      refine (pi_list (tg := tg) ha).run pins s σ H Q I ⟨ρ, Hs, he, hr, hp.bind fun d e v Hi H1 l rv hp1 => ?_⟩
      rw [q] at e
      cases e
      obtain ⟨p, rfl, s1⟩ := (rv.mono l.sub).scrI
      refine ⟨p, rfl, ⟨_, s1⟩, Pst.now (d := ns.map D.int) hp1 l.sub (walk_scr fun H' e' => ?_)⟩
      obtain ⟨p', ep, s2⟩ := (rv.mono e').scrI
      cases ep
      exact s2
    | str x =>
      refine (pi_str (tg := tg) ha).run pins s σ H Q I ⟨ρ, Hs, he, hr, hp.bind fun d e v Hi H1 l rv hp1 => ?_⟩
      rw [q] at e
      cases e
      exact ⟨x, rv.strI, Pst.now (d := x.cps.toList.map fun c => D.str ⟨#[c]⟩) hp1 l.sub (walk_str x)⟩
    | _ => simp only [q] at hp; exact hp.elim
theorem rng_items {lo hi : Int} {l : List D} (h : rangeD lo hi = .ok l) : (-(2 ^ 62) ≤ lo ∧ lo < 2 ^ 62 ∧ -(2 ^ 62) ≤ hi ∧ hi < 2 ^ 62) ∧ l = (List.range (hi - lo).toNat).map fun i => D.int (lo + (i : Nat)) := by
  unfold rangeD at h
  split at h
  · cases h
    exact ⟨by omega, rfl⟩
  · cases h
theorem rangeOf_cases (ds : List D) : (∃ n, ds = [.int n]) ∨ (∃ a b, ds = [.int a, .int b]) ∨ D.rangeOf ds = .stuck := by
  unfold D.rangeOf
  split
  · exact .inl ⟨_, rfl⟩
  · exact .inr (.inl ⟨_, _, rfl⟩)
  · exact .inr (.inr rfl)
theorem rangeD_cases (lo hi : Int) : (∃ l, rangeD lo hi = .ok l) ∨ rangeD lo hi = .stuck := by
  unfold rangeD
  split
  · exact .inl ⟨_, rfl⟩
  · exact .inr rfl
theorem si_range1 {p : Pos} (hg : glOk X.env.scope "range" = true) (hm : X.mg "range" = none) (hpl : plain a = true) (hs : SA X W [a] fs) (hl : ∀ ρ ds, fs ρ = .ok ds → ds.length = 1) : SI X W tg (.Call (.Name "range" p) [a] [] pos) (fun ρ => do
    let xs ← fs ρ
    D.rangeOf xs) := by
  obtain ⟨g1, g2, g3⟩ := gl_of hg
  refine PI.imp (pi_range1 g1 hm hs (star_cons hpl)) fun σ H Q ⟨ρ, Hs, he, hr, hp⟩ => ⟨ρ, Hs, he, hr, hp.bind fun ds eds vs Hi H1 l rv hp1 => ?_⟩
  rcases rangeOf_cases ds with ⟨n, rfl⟩ | ⟨a, b, rfl⟩ | e
  · cases rv with
    | cons r1 t =>
      cases t
      have hp1 : Pst _ X.K X.mg Hi H1 (rangeD 0 n) Q _ := hp1
      rcases rangeD_cases 0 n with ⟨l2, q⟩ | q
      · rw [q] at hp1
        obtain ⟨⟨b1, b2, b3, b4⟩, rfl⟩ := rng_items q
        refine ⟨n, by rw [r1.intI], b3, b4, hp1.now l.sub ?_⟩
        have := walk_rng (K := X.K) (Hs := Hi) 0 n.toNat
        simpa using this
      · rw [q] at hp1
        exact hp1.elim
  · exact absurd (hl ρ _ eds) (by simp)
  · rw [e] at hp1
    exact hp1.elim
theorem si_range2 {p : Pos} (hg : glOk X.env.scope "range" = true) (hm : X.mg "range" = none) (hpl : plain a = true) (hpl2 : plain b = true) (hs : SA X W [a, b] fs) (hl : ∀ ρ ds, fs ρ = .ok ds → ds.length = 2) : SI X W tg (.Call (.Name "range" p) [a, b] [] pos) (fun ρ => do
    let xs ← fs ρ
    D.rangeOf xs) := by
  obtain ⟨g1, g2, g3⟩ := gl_of hg
  refine PI.imp (pi_range2 g1 hm hs (by rw [star_cons hpl, star_cons hpl2]; rfl) (by rw [star_cons hpl2]; rfl)) fun σ H Q ⟨ρ, Hs, he, hr, hp⟩ => ⟨ρ, Hs, he, hr, hp.bind fun ds eds vs Hi H1 l rv hp1 => ?_⟩
  rcases rangeOf_cases ds with ⟨n, rfl⟩ | ⟨a, b, rfl⟩ | e
  · exact absurd (hl ρ _ eds) (by simp)
  · cases rv with
    | cons r1 t =>
      cases t with
      | cons r2 t =>
        cases t
        have hp1 : Pst _ X.K X.mg Hi H1 (rangeD a b) Q _ := hp1
        rcases rangeD_cases a b with ⟨l2, q⟩ | q
        · rw [q] at hp1
          obtain ⟨bb, rfl⟩ := rng_items q
          exact ⟨a, b, by rw [r1.intI, r2.intI], bb, hp1.now l.sub (walk_rng _ _)⟩
        · rw [q] at hp1
          exact hp1.elim
  · rw [e] at hp1
    exact hp1.elim
theorem range3_cases (ds : List D) : (∃ (i j c : Int) (n : Nat), ds = [.int i, .int j, .int c] ∧ RgC i j c n ∧ D.range3 ds = .ok ((List.range n).map fun k => .int (i + (k : Nat) * c))) ∨ D.range3 ds = .stuck := by
  unfold D.range3
  split
  · rename_i i j c
    by_cases h : c ≠ 0 ∧ c.natAbs < 1073741824 ∧ Builtin.Range.small i j c = true ∧ 0 ≤ Builtin.Range.rangeSize i j c
    · exact .inl ⟨i, j, c, (Builtin.Range.rangeSize i j c).toNat, rfl, ⟨h.1, h.2.1, h.2.2.1, (Int.toNat_of_nonneg h.2.2.2).symm⟩, by rw [if_pos h]⟩
    · exact .inr (by rw [if_neg h])
  · exact .inr rfl
theorem si_range3 {c : Expr} {p : Pos} (hg : glOk X.env.scope "range" = true) (hm : X.mg "range" = none) (hpl : ∀ x ∈ [a, b, c], plain x = true) (hs : SA X W [a, b, c] fs) : SI X W tg (.Call (.Name "range" p) [a, b, c] [] pos) (fun ρ => do
    let xs ← fs ρ
    D.range3 xs) := by
  obtain ⟨g1, g2, g3⟩ := gl_of hg
  refine PI.imp (pi_range3 g1 hm hs (star_cons (hpl a (by simp))) (star_any fun x hx => hpl x (List.mem_cons_of_mem a hx))) fun σ H Q ⟨ρ, Hs, he, hr, hp⟩ => ⟨ρ, Hs, he, hr, hp.bind fun ds eds vs Hi H1 l rv hp1 => ?_⟩
  rcases range3_cases ds with ⟨i, j, k, n, rfl, h1, h2⟩ | e
  · rw [h2] at hp1
    cases rv with
    | cons r1 t =>
      cases t with
      | cons r2 t =>
        cases t with
        | cons r3 t =>
          cases t
          exact ⟨i, j, k, n, by rw [r1.intI, r2.intI, r3.intI], h1, hp1.now l.sub (walk_rngC _ _ _)⟩
  · rw [e] at hp1
    exact hp1.elim
theorem si_zip {p : Pos} {ks : List Expr} {kk : Nat} {tp : Pos} (hg : glOk X.env.scope "zip" = true) (hm : X.mg "zip" = none) (hpl : plain a = true) (hpl2 : plain b = true) (ha : SE X W a fa) (hb : SE X W b fb) : SI X W (.Tuple ks kk tp) (.Call (.Name "zip" p) [a, b] [] pos) (fun ρ => do
    let x ← fa ρ
    let y ← fb ρ
    D.zipOf x y) := by
  obtain ⟨g1, g2, g3⟩ := gl_of hg
  refine PI.imp (pi_zip g1 hm (pa_cons ha (pa_cons hb pa_nil (star_cons hpl2)) (star_cons hpl)) (star_cons hpl) (star_any fun x hx => by
    have e : x = b := by simpa using hx
    rw [e]; exact hpl2)) fun σ H Q ⟨ρ, Hs, he, hr, hp⟩ => ⟨ρ, Hs, he, hr, hp.bind fun d _ v Hi H1 l rv hp1 => ⟨ρ, Hi, l.sub, hr.mono l.old, hp1.bind fun d2 _ v2 Hj H2 l2 rv2 hp2 => ?_⟩⟩
  cases d with
  | lst xs =>
    cases d2 with
    | lst ys =>
      obtain ⟨p1, vs, rfl, e1, r1⟩ := (rv.mono l2.old).lstI
      obtain ⟨p2, ws, rfl, e2, r2⟩ := rv2.lstI
      exact ⟨p1, p2, vs, ws, rfl, SqL.of (l2.sub _ _ e1), SqL.of (l2.sub _ _ e2), hp2.now l2.sub (walk_zip e1 r1 e2 r2)⟩
    | _ => exact hp2.elim
  | _ => exact hp2.elim
/-- list(range(..)) -/
theorem rgV_rep {K : PySem.W.Frag} {H : Hp} (lo hi : Int) : Reps K H ((List.range (hi - lo).toNat).map fun i => D.int (lo + (i : Nat))) (rgV lo hi) := by
  unfold rgV
  have : ∀ l : List Nat, Reps K H (l.map fun i => D.int (lo + (i : Nat))) (l.map fun i => V.int (lo + (i : Nat))) := fun l => by
    induction l with
    | nil => exact .nil
    | cons a l ih => exact .cons (.int _) ih
  exact this _
theorem se_lrange1 {p p2 q2 : Pos} (hc : X.calm = true) (hgl : glOk X.env.scope "list" = true) (hml : X.mg "list" = none) (hg : glOk X.env.scope "range" = true) (hm : X.mg "range" = none) (hpl : plain a = true) (ha : SE X W a fa) :
    SE X W (.Call (.Name "list" p2) [.Call (.Name "range" p) [a] [] q2] [] pos) (fun ρ => do
    let x ← fa ρ
    let l ← D.rangeOf [x]
    if l.length ≤ 16777216 then .ok (.lst l) else .stuck) := by
  obtain ⟨g1, g2, g3⟩ := gl_of hg
  obtain ⟨k1, k2, k3⟩ := gl_of hgl
  refine PE.imp (pe_listRg hc k1 hml (prg_1 g1 hm ha (star_cons hpl))) fun σ H Q ⟨ρ, Hs, he, hr, hp⟩ => ⟨ρ, Hs, he, hr, hp.bind fun d _ v Hi H1 l rv hp1 => ?_⟩
  cases d with
  | int n =>
    have hp1 : PstD X.K X.mg Hi H1 (rangeD 0 n >>= fun l => if l.length ≤ 16777216 then .ok (.lst l) else .stuck) Q _ := hp1
    rcases rangeD_cases 0 n with ⟨l2, q⟩ | q
    · rw [q] at hp1
      obtain ⟨⟨b1, b2, b3, b4⟩, rfl⟩ := rng_items q
      simp only [R.bind_ok] at hp1
      split at hp1
      · refine ⟨n, rv.intI, ⟨b1, b2, b3, b4, ?_⟩, fun t hn => hp1 _ _ _ (Le.new1 l.sub hn) (mk_lst l.sub (rgV_rep 0 n) hn)⟩
        have : ((List.range (n - 0).toNat).map fun i => D.int (0 + (i : Nat))).length ≤ 16777216 := by assumption
        simpa using this
      · exact hp1.elim
    · rw [q] at hp1
      exact hp1.elim
  | _ => exact hp1.elim
theorem se_lrange2 {p p2 q2 : Pos} (hc : X.calm = true) (hgl : glOk X.env.scope "list" = true) (hml : X.mg "list" = none) (hg : glOk X.env.scope "range" = true) (hm : X.mg "range" = none) (hpl : plain a = true) (hpl2 : plain b = true) (ha : SE X W a fa) (hb : SE X W b fb) :
    SE X W (.Call (.Name "list" p2) [.Call (.Name "range" p) [a, b] [] q2] [] pos) (fun ρ => do
    let x ← fa ρ
    let y ← fb ρ
    let l ← D.rangeOf [x, y]
    if l.length ≤ 16777216 then .ok (.lst l) else .stuck) := by
  obtain ⟨g1, g2, g3⟩ := gl_of hg
  obtain ⟨k1, k2, k3⟩ := gl_of hgl
  refine PE.imp (pe_listRg hc k1 hml (prg_2 g1 hm ha hb (star_cons hpl) (star_cons hpl2) (star_any fun x hx => by
    have e : x = b := by simpa using hx
    rw [e]; exact hpl2))) fun σ H Q ⟨ρ, Hs, he, hr, hp⟩ => ⟨ρ, Hs, he, hr, hp.bind fun d _ v Hi H1 l rv hp1 => ⟨ρ, Hi, l.sub, hr.mono l.old, hp1.bind fun d2 _ v2 Hj H2 l2 rv2 hp2 => ?_⟩⟩
  cases d with
  | int m =>
    cases d2 with
    | int n =>
      have hp2 : PstD X.K X.mg Hj H2 (rangeD m n >>= fun l => if l.length ≤ 16777216 then .ok (.lst l) else .stuck) Q _ := hp2
      rcases rangeD_cases m n with ⟨l3, q⟩ | q
      · rw [q] at hp2
        obtain ⟨⟨b1, b2, b3, b4⟩, rfl⟩ := rng_items q
        simp only [R.bind_ok] at hp2
        split at hp2
        · refine ⟨m, n, rv.intI, rv2.intI, ⟨b1, b2, b3, b4, ?_⟩, fun t hn => hp2 _ _ _ (Le.new1 l2.sub hn) (mk_lst l2.sub (rgV_rep m n) hn)⟩
          have : ((List.range (n - m).toNat).map fun i => D.int (m + (i : Nat))).length ≤ 16777216 := by assumption
          simpa using this
        · exact hp2.elim
      · rw [q] at hp2
        exact hp2.elim
    | _ => exact hp2.elim
  | _ => cases d2 <;> exact hp2.elim
end
end Py

namespace Py
open PySem PySem.Spec PyProof.Rows L2

/-! ## slots forgotten -/
theorem wipe_get : ∀ (vs : List Nat) (σ : L2.St) (j : Nat), (wipe σ vs)[j]? = if j ∈ vs then (σ[j]?).map (fun _ => none) else σ[j]?
  | [], σ, j => by simp [wipe]
  | v :: vs, σ, j => by
    unfold wipe
    by_cases h : v = j
    · subst h
      rw [if_pos (by simp)]
      by_cases hl : v < (wipe σ vs).length
      · rw [List.getElem?_set_self hl]
        rw [wipe_length] at hl
        rw [List.getElem?_eq_getElem hl]
        rfl
      · rw [List.getElem?_eq_none (by simpa using hl)]
        rw [wipe_length] at hl
        rw [List.getElem?_eq_none (by omega)]
        rfl
    · rw [List.getElem?_set_ne h, wipe_get vs σ j]
      by_cases h2 : j ∈ vs
      · rw [if_pos h2, if_pos (by simp [h2])]
      · rw [if_neg h2, if_neg (by simp [h2, Ne.symm h])]
theorem wipe_set {σ : L2.St} {vs : List Nat} {i : Nat} {x : Option V} (h : i ∈ vs) : wipe (σ.set i x) vs = wipe σ vs := by
  apply List.ext_getElem?
  intro j
  rw [wipe_get, wipe_get]
  by_cases hj : j ∈ vs
  · rw [if_pos hj, if_pos hj]
    by_cases e : i = j
    · subst e
      by_cases hl : i < σ.length
      · rw [List.getElem?_set_self hl, List.getElem?_eq_getElem hl]
        rfl
      · rw [List.getElem?_eq_none (by simpa using hl), List.getElem?_eq_none (by omega)]
    · rw [List.getElem?_set_ne e]
  · rw [if_neg hj, if_neg hj, List.getElem?_set_ne (fun (e : i = j) => hj (e ▸ h))]
theorem wipe_wipe {σ : L2.St} {vs : List Nat} : wipe (wipe σ vs) vs = wipe σ vs := by
  apply List.ext_getElem?
  intro j
  rw [wipe_get]
  by_cases hj : j ∈ vs
  · rw [if_pos hj, wipe_get, if_pos hj]
    cases σ[j]? <;> rfl
  · rw [if_neg hj]
theorem wipe_fold {vs : List Nat} : ∀ (ps : List (Nat × V)) (σ : L2.St), (∀ p ∈ ps, p.1 ∈ vs) → wipe (ps.foldl (fun s p => s.set p.1 (some p.2)) σ) vs = wipe σ vs
  | [], _, _ => rfl
  | p :: ps, σ, h => by
    rw [List.foldl_cons, wipe_fold ps _ fun q hq => h q (by simp [hq]), wipe_set (h p (by simp))]
theorem erel_wipe {K : PySem.W.Frag} {Hs : Hp} {ρ : Env} {σ : L2.St} {vs : List Nat} (h : ERel K Hs ρ σ) : ERelX K Hs vs ρ (wipe σ vs) := by
  refine ⟨by rw [wipe_length]; exact h.1, fun i d q => ?_⟩
  by_cases hi : i ∈ vs
  · exact .inl hi
  · obtain ⟨v, a, b⟩ := h.2 i d q
    exact .inr ⟨v, by rw [wipe_get, if_neg hi]; exact a, b⟩

/-! ## a list comprehension -/
theorem bind_some {α β : Type} {r : R α} {f : α → R β} {b : β} (h : (r >>= f) = .ok b) : ∃ a, r = .ok a ∧ f a = .ok b := by
  cases r with
  | ok a => exact ⟨a, rfl, h⟩
  | exc x => cases h
  | stuck => cases h
def lcF (ft : Env → R Bool) (fe : Env → R D) (t : Tgt) (ρ : Env) (x : D) : R (Option D) := do
  let ρ' ← t.bind x ρ
  let k ← ft ρ'
  if k then do
    let y ← fe ρ'
    .ok (some y)
  else .ok none
theorem lcGo_nox {f : D → R (Option D)} {x : XD} : ∀ {xs : List D}, lcGo f xs ≠ .exc x
  | [], h => by cases h
  | y :: ys, h => by
    have h : ((f y).nox >>= fun o => lcGo f ys >>= fun l => match o with
      | some d => R.ok (d :: l)
      | none => R.ok l) = .exc x := h
    cases q : f y with
    | ok o =>
      rw [q, R.nox_ok, R.bind_ok] at h
      cases q2 : lcGo f ys with
      | ok l => rw [q2, R.bind_ok] at h; cases o <;> cases h
      | exc z => exact lcGo_nox q2
      | stuck => rw [q2] at h; cases h
    | exc z => rw [q] at h; cases h
    | stuck => rw [q] at h; cases h
theorem lcGo_cons {f : D → R (Option D)} {x : D} {xs : List D} {acc : List D} (g : List D → R D) : (lcGo f (x :: xs) >>= fun l => g (acc ++ l)) = ((f x).nox >>= fun o => match o with
    | some y => lcGo f xs >>= fun l => g ((acc ++ [y]) ++ l)
    | none => lcGo f xs >>= fun l => g (acc ++ l)) := by
  show ((do
    let o ← (f x).nox
    let l ← lcGo f xs
    match o with
    | some d => .ok (d :: l)
    | none => .ok l) >>= _) = _
  rw [R.bind_assoc]
  congr 1
  funext o
  rw [R.bind_assoc]
  cases o with
  | some y => simp
  | none => simp
abbrev WN : WX := fun _ _ _ _ => False
section
variable {X : Cx} {W : WX} {tg iter elt : Expr} {ifs : List Expr} {raw : Scope} {pos : Pos} {fi : Env → R (List D)} {ft : Env → R Bool} {fe : Env → R D} {t : Tgt}
theorem lc_imp {σ : L2.St} {H : Hp} {Q : VK} (nd : t.ixs.Nodup) (h : tD X.K X.mg W (fun ρ => do
    let xs ← fi ρ
    if xs.length ≤ 16777215 then do
      let l ← lcGo (lcF ft fe t ρ) xs
      .ok (.lst l)
    else .stuck) σ H Q) : tLc (iD X.K X.mg W fi) (gOf X.K t) (tDB X.K X.mg WN ft) (tD X.K X.mg WN fe) t.ixs σ H Q := by
  obtain ⟨ρ, Hs, he, hr, hp⟩ := h
  refine ⟨ρ, Hs, he, hr, Pst.bind (Rel2 := Rep X.K) hp fun ds _ J Hs1 H1 l1 wk hp1 => ?_⟩
  intro DD hD
  by_cases hz : ds.length ≤ 16777215
  · rw [if_pos hz] at hp1
    have hr1 := hr.mono l1.old
    refine ⟨fun i m H' => m = ds.length - i ∧ i ≤ ds.length ∧ ∃ Hi acc vacc, Le Hs1 H1 Hi H' ∧ Hi DD = none ∧ H' DD = some (.lst vacc) ∧ Reps X.K Hi acc vacc ∧ acc.length ≤ i ∧
      PstD X.K X.mg Hs1 H1 (lcGo (lcF ft fe t ρ) (ds.drop i) >>= fun l => .ok (.lst (acc ++ l))) Q (fun c d H' => W c d σ H'),
      ⟨ds.length, by simp, Nat.zero_le _, Hs1, [], [], Le.new0 l1.sub hD, fresh_s l1.sub hD, upd_same, .nil, Nat.le_refl _, by simpa using hp1⟩, ?_⟩
    rintro i m H' ⟨rfl, hi, Hi, acc, vacc, le, hDi, hDl, ra, hacc, hrest⟩
    by_cases hlt : i < ds.length
    · refine .inr ⟨wk.go i H' (le.old.trans le.sub) hlt, fun H'' => ∃ m', m' < ds.length - i ∧ (m' = ds.length - (i + 1) ∧ i + 1 ≤ ds.length ∧ ∃ Hi acc vacc, Le Hs1 H1 Hi H'' ∧ Hi DD = none ∧ H'' DD = some (.lst vacc) ∧ Reps X.K Hi acc vacc ∧ acc.length ≤ i + 1 ∧
        PstD X.K X.mg Hs1 H1 (lcGo (lcF ft fe t ρ) (ds.drop (i + 1)) >>= fun l => .ok (.lst (acc ++ l))) Q (fun c d H' => W c d σ H')), fun H'' h => h, fun x H2 hy => ?_⟩
      have hd : ds[i]? = some ds[i] := List.getElem?_eq_getElem hlt
      obtain ⟨Hj, l2, rx⟩ := wk.yld i Hi H' x H2 _ le.old le.sub hd hy
      rw [List.drop_eq_getElem_cons hlt] at hrest
      rw [lcGo_cons (fun l => .ok (.lst l))] at hrest
      have hDj : Hj DD = none := by
        cases z : Hj DD with
        | none => rfl
        | some o =>
          rcases l2.new DD o z with q | q
          · rw [hDi] at q; cases q
          · rw [hDl] at q; cases q
      cases q0 : lcF ft fe t ρ ds[i] with
      | stuck => rw [q0] at hrest; exact hrest.elim
      | exc x => rw [q0] at hrest; exact hrest.elim
      | ok o =>
        rw [q0] at hrest
        simp only [R.nox_ok, R.bind_ok] at hrest
        obtain ⟨ρ', q1, q2⟩ := bind_some q0
        obtain ⟨k, q3, q4⟩ := bind_some q2
        refine tgt_run (ρ := ρ) q1 rx l2.sub ((erel_wipe ((hr1.mono le.old).mono l2.old))) fun σ' hr' ⟨us, hus⟩ => ?_
        refine ⟨?_, ρ', Hj, l2.sub, hr', ?_⟩
        · rw [hus, wipe_fold _ _ fun p hp => (List.of_mem_zip hp).1, wipe_wipe]
        · rw [q3]
          intro b Hk H3 l3 hb
          subst hb
          have hDk : Hk DD = none := by
            cases z : Hk DD with
            | none => rfl
            | some o =>
              rcases l3.new DD o z with q | q
              · rw [hDj] at q; cases q
              · rw [l2.ex DD _ hDl] at q; cases q
          cases k with
          | true =>
            have q4 : (do
              let y ← fe ρ'
              R.ok (some y)) = .ok o := q4
            obtain ⟨y, q5, q6⟩ := bind_some q4
            cases q6
            refine iteT ⟨ρ', Hk, l3.sub, hr'.mono l3.old, ?_⟩
            rw [q5]
            intro v Hm H4 l4 rv
            have hD4 : H4 DD = some (.lst vacc) := l4.ex _ _ (l3.ex _ _ (l2.ex _ _ hDl))
            have hDm : Hm DD = none := by
              cases z : Hm DD with
              | none => rfl
              | some o =>
                rcases l4.new DD o z with q | q
                · rw [hDk] at q; cases q
                · rw [l3.ex DD _ (l2.ex DD _ hDl)] at q; cases q
            have lall : Le Hs1 H1 Hm H4 := ((le.trans l2).trans l3).trans l4
            have hlen : vacc.length < sizeLine := by
              rw [size_eq, ← ra.length]
              omega
            refine ⟨vacc, hD4, hlen, ds.length - (i + 1), by omega, rfl, by omega, Hm, acc ++ [y], vacc ++ [v], ⟨lall.old, fun a o h => ?_, fun a o h => ?_, lall.new⟩, hDm, upd_same, (((ra.mono l2.old).mono l3.old).mono l4.old).append (.cons rv .nil), by simp; omega, hrest⟩
            · rw [upd_ne (ne_of_none h hD)]
              exact lall.ex a o h
            · rw [upd_ne (ne_of_none h hDm)]
              exact lall.sub a o h
          | false =>
            have q4 : R.ok none = R.ok o := q4
            cases q4
            have lall : Le Hs1 H1 Hk H3 := (le.trans l2).trans l3
            exact iteF ⟨ds.length - (i + 1), by omega, rfl, by omega, Hk, acc, vacc, lall, hDk, l3.ex _ _ (l2.ex _ _ hDl), (ra.mono l2.old).mono l3.old, by omega, hrest⟩
    · refine .inl ⟨wk.stop i H' (le.old.trans le.sub) (by omega), ?_⟩
      have e : ds.drop i = [] := List.drop_eq_nil_of_le (by omega)
      rw [e] at hrest
      have hrest : PstD X.K X.mg Hs1 H1 (.ok (.lst (acc ++ []))) Q _ := hrest
      rw [List.append_nil] at hrest
      have ns : Hs1 DD = none := fresh_s l1.sub hD
      refine hrest (.ref DD) (upd Hi DD (.lst vacc)) H' ⟨fun a o h => ?_, le.ex, fun a o h => ?_, fun a o h => ?_⟩ (.lst upd_same (ra.mono (Ex.new hDi)))
      · rw [upd_ne (ne_of_none h ns)]
        exact le.old a o h
      · by_cases e : a = DD
        · subst e
          rw [upd_same] at h
          cases h
          exact hDl
        · rw [upd_ne e] at h
          exact le.sub a o h
      · by_cases e : a = DD
        · subst e
          exact .inr hD
        · rw [upd_ne e] at h
          exact le.new a o h
  · rw [if_neg hz] at hp1
    exact hp1.elim
/-- what is wanted of a new list that nothing knows -/
def FreshL (K : PySem.W.Frag) (Hs1 H1 : Hp) (Q : VK) (l : List D) : Prop := ∀ p vs Hi H', Le Hs1 H1 Hi H' → Hi p = none → H1 p = none → H' p = some (.lst vs) → Reps K Hi l vs → Q (.ref p) H'
def okL (G : List D → Prop) : R (List D) → Prop
  | .ok l => G l
  | _ => False
theorem lc_impF {σ : L2.St} {H : Hp} {Q : VK} {ρ : Env} {Hs : Hp} (nd : t.ixs.Nodup) (he : Ex Hs H) (hr : ERel X.K Hs ρ σ)
    (hp : Pst (fun Hi ds J => Walk X.K J Hi ds) X.K X.mg Hs H (fi ρ) (fun J H1 => ∃ ds Hs1, fi ρ = .ok ds ∧ Le Hs H Hs1 H1 ∧ Walk X.K J Hs1 ds ∧ ds.length ≤ 16777215 ∧ okL (FreshL X.K Hs1 H1 Q) (lcGo (lcF ft fe t ρ) ds)) (fun c d H' => W c d σ H')) :
    tLc (iD X.K X.mg W fi) (gOf X.K t) (tDB X.K X.mg WN ft) (tD X.K X.mg WN fe) t.ixs σ H Q := by
  refine ⟨ρ, Hs, he, hr, hp.imp fun J H1 ⟨ds, Hs1, _, l1, wk, hz, hp1⟩ => ?_⟩
  intro DD hD
  have hr1 := hr.mono l1.old
  refine ⟨fun i m H' => m = ds.length - i ∧ i ≤ ds.length ∧ ∃ Hi acc vacc, Le Hs1 H1 Hi H' ∧ Hi DD = none ∧ H' DD = some (.lst vacc) ∧ Reps X.K Hi acc vacc ∧ acc.length ≤ i ∧
    okL (FreshL X.K Hs1 H1 Q) (lcGo (lcF ft fe t ρ) (ds.drop i) >>= fun l => .ok (acc ++ l)),
    ⟨ds.length, by simp, Nat.zero_le _, Hs1, [], [], Le.new0 l1.sub hD, fresh_s l1.sub hD, upd_same, .nil, Nat.le_refl _, by
      rw [List.drop_zero]
      cases z : lcGo (lcF ft fe t ρ) ds with
      | ok l => rw [z] at hp1; exact hp1
      | exc x => rw [z] at hp1; exact hp1.elim
      | stuck => rw [z] at hp1; exact hp1.elim⟩, ?_⟩
  rintro i m H' ⟨rfl, hi, Hi, acc, vacc, le, hDi, hDl, ra, hacc, hrest⟩
  by_cases hlt : i < ds.length
  · refine .inr ⟨wk.go i H' (le.old.trans le.sub) hlt, fun H'' => ∃ m', m' < ds.length - i ∧ (m' = ds.length - (i + 1) ∧ i + 1 ≤ ds.length ∧ ∃ Hi acc vacc, Le Hs1 H1 Hi H'' ∧ Hi DD = none ∧ H'' DD = some (.lst vacc) ∧ Reps X.K Hi acc vacc ∧ acc.length ≤ i + 1 ∧
      okL (FreshL X.K Hs1 H1 Q) (lcGo (lcF ft fe t ρ) (ds.drop (i + 1)) >>= fun l => .ok (acc ++ l))), fun H'' h => h, fun x H2 hy => ?_⟩
    have hd : ds[i]? = some ds[i] := List.getElem?_eq_getElem hlt
    obtain ⟨Hj, l2, rx⟩ := wk.yld i Hi H' x H2 _ le.old le.sub hd hy
    rw [List.drop_eq_getElem_cons hlt] at hrest
    have hrest : okL (FreshL X.K Hs1 H1 Q) (((lcF ft fe t ρ ds[i]).nox >>= fun o => lcGo (lcF ft fe t ρ) (ds.drop (i + 1)) >>= fun l => match o with
      | some d => R.ok (d :: l)
      | none => R.ok l) >>= fun l => R.ok (acc ++ l)) := hrest
    have hDj : Hj DD = none := by
      cases z : Hj DD with
      | none => rfl
      | some o =>
        rcases l2.new DD o z with q | q
        · rw [hDi] at q; cases q
        · rw [hDl] at q; cases q
    cases q0 : lcF ft fe t ρ ds[i] with
    | stuck => rw [q0] at hrest; exact hrest.elim
    | exc x => rw [q0] at hrest; exact hrest.elim
    | ok o =>
      rw [q0] at hrest
      simp only [R.nox_ok, R.bind_ok, R.bind_assoc] at hrest
      obtain ⟨ρ', q1, q2⟩ := bind_some q0
      obtain ⟨k, q3, q4⟩ := bind_some q2
      refine tgt_run (ρ := ρ) q1 rx l2.sub ((erel_wipe ((hr1.mono le.old).mono l2.old))) fun σ' hr' ⟨us, hus⟩ => ?_
      refine ⟨?_, ρ', Hj, l2.sub, hr', ?_⟩
      · rw [hus, wipe_fold _ _ fun p hp => (List.of_mem_zip hp).1, wipe_wipe]
      · rw [q3]
        intro b Hk H3 l3 hb
        subst hb
        have hDk : Hk DD = none := by
          cases z : Hk DD with
          | none => rfl
          | some o =>
            rcases l3.new DD o z with q | q
            · rw [hDj] at q; cases q
            · rw [l2.ex DD _ hDl] at q; cases q
        cases k with
        | true =>
          have q4 : (do
            let y ← fe ρ'
            R.ok (some y)) = .ok o := q4
          obtain ⟨y, q5, q6⟩ := bind_some q4
          cases q6
          refine iteT ⟨ρ', Hk, l3.sub, hr'.mono l3.old, ?_⟩
          rw [q5]
          intro v Hm H4 l4 rv
          have hD4 : H4 DD = some (.lst vacc) := l4.ex _ _ (l3.ex _ _ (l2.ex _ _ hDl))
          have hDm : Hm DD = none := by
            cases z : Hm DD with
            | none => rfl
            | some o =>
              rcases l4.new DD o z with q | q
              · rw [hDk] at q; cases q
              · rw [l3.ex DD _ (l2.ex DD _ hDl)] at q; cases q
          have lall : Le Hs1 H1 Hm H4 := ((le.trans l2).trans l3).trans l4
          have hlen : vacc.length < sizeLine := by
            rw [size_eq, ← ra.length]
            omega
          refine ⟨vacc, hD4, hlen, ds.length - (i + 1), by omega, rfl, by omega, Hm, acc ++ [y], vacc ++ [v], ⟨lall.old, fun a o h => ?_, fun a o h => ?_, lall.new⟩, hDm, upd_same, (((ra.mono l2.old).mono l3.old).mono l4.old).append (.cons rv .nil), by simp; omega, ?_⟩
          · rw [upd_ne (ne_of_none h hD)]
            exact lall.ex a o h
          · rw [upd_ne (ne_of_none h hDm)]
            exact lall.sub a o h
          · simpa using hrest
        | false =>
          have q4 : R.ok none = R.ok o := q4
          cases q4
          have lall : Le Hs1 H1 Hk H3 := (le.trans l2).trans l3
          exact iteF ⟨ds.length - (i + 1), by omega, rfl, by omega, Hk, acc, vacc, lall, hDk, l3.ex _ _ (l2.ex _ _ hDl), (ra.mono l2.old).mono l3.old, by omega, by simpa using hrest⟩
  · refine .inl ⟨wk.stop i H' (le.old.trans le.sub) (by omega), ?_⟩
    have e : ds.drop i = [] := List.drop_eq_nil_of_le (by omega)
    rw [e] at hrest
    have hrest : FreshL X.K Hs1 H1 Q (acc ++ []) := hrest
    rw [List.append_nil] at hrest
    exact hrest DD vacc Hi H' le hDi hD hDl ra
theorem folded_ok {iter : Expr} {env : PySem.Env} (h : plain iter = true) : ∀ x, foldedSetIterable iter env x = pure x := by
  intro x
  cases iter <;> first | rfl | cases h
end
/-! ## sorted(set(..)), the set of tuples of ints, whatever their signs -/
abbrev tkey (q : Addr × List Int) : PyData := .tuple (q.2.map .int)
section
variable {P : Program} {w : World} {A : Around} {s : Shared} {E : Value → Shared → Prop}
theorem each_refs : ∀ L1 : List (Addr × List Int), PySem.W.EachIs (fun (v : Value) (q : Addr × List Int) => v = Value.ref q.1) (L1.map fun q => Value.ref q.1) L1
  | [] => .nil
  | q :: L1 => .cons rfl (each_refs L1)
theorem refs_each : ∀ {vs : List Value} {L1 : List (Addr × List Int)}, PySem.W.EachIs (fun (v : Value) (q : Addr × List Int) => v = Value.ref q.1) vs L1 → vs = L1.map fun q => Value.ref q.1
  | _, _, .nil => rfl
  | _, _, .cons e t => by rw [e, refs_each t]; rfl
theorem reads_ints {h : Heap} : ∀ {k : List Int} {vs : List Value}, IntsAre vs k → ReadsAll h vs (k.map .int) []
  | _, _, .nil => .nil
  | _, _, .cons i t r => .cons (as := []) (bs := []) (.int i t) (reads_ints r)
theorem reads_t {h : Heap} {k : List Int} {b : Addr} (x : IsT P w h k b) : Reads h (.ref b) (.tuple (k.map .int)) [] := by
  obtain ⟨o, items, n, ho, hc, hd, hi⟩ := x
  exact .tuple ho hc hd (reads_ints (ints_of_items hi))
theorem each_readsT {h : Heap} {a : Addr} : ∀ {L1 : List (Addr × List Int)}, (∀ q ∈ L1, IsT P w h q.2 q.1) → PySem.W.EachIs (fun (v : Value) (q : Addr × List Int) => ∃ as, Reads h v (tkey q) as ∧ a ∉ as) (L1.map fun q => Value.ref q.1) L1
  | [], _ => .nil
  | q :: L1, hq => .cons ⟨[], reads_t (hq q (by simp)), by simp⟩ (each_readsT fun r hr => hq r (by simp [hr]))
theorem sorted_setD {a : Addr} {L : List (Addr × List Int)} {es : Array (Int × Value)} {ep : Nat} {t : SetTable} {Q : Value → Shared → Prop} (R : SetTR P w s.heap a L es ep t) (hh : A.handled = none)
    (hu : A.units + 65 < cLine) (hal : PySem.W.AllAlike (L.map tkey)) (hk : PySem.W.Sortable (L.map tkey)) (hdp : ∀ q ∈ L, (tkey q).depth ≤ 10)
    (hQ : ∀ s' p (out : Array Value) (c : Nat) (L1 : List (Addr × List Int)), (∀ b o, s.heap.get? b = some o → s'.heap.get? b = some o) → s'.gens = s.gens → s'.os = s.os → s.heap.objs.size ≤ p →
      s'.heap.get? p = some (seqObj "list" out c) → L1.Perm L → out.toList = (L1.mergeSort (PySem.W.dataLe false tkey)).map (fun q => Value.ref q.1) → Q (.ref p) s') :
    wpAny (model P w) A (call (.builtin "sorted") [.ref a]) Q E s := by
  obtain ⟨o, ho, hex, hd⟩ := R.ob
  have hsz := R.size
  have hfew := R.few
  refine Calls.call_function_entry kind_sorted plain_sorted entry_sorted (args_sorted1 _) ?_
  unfold Builtin.«sorted»
  refine wpAny_bind (m := checkCount "sorted" 1 1 _) (wpAny_pure ?_)
  refine wpAny_bind (collect_set (A := A.in1) hh ⟨o, ho, hex.1, hd⟩ R.fits (by unfold scanBound; omega) R.tab.ris R.led fun s1 vs k1 hz g1 o1 pm => ?_)
  have hes : es.toList.map (·.2) = L.map fun q => Value.ref q.1 := by
    rw [R.rows]
    unfold rowsOf
    rw [List.map_map] <;> rfl
  rw [hes] at pm
  have ord : ∀ vs : List Value, (∀ v ∈ vs, ∃ q ∈ L, v = Value.ref q.1) → ∃ L1 : List (Addr × List Int), vs = L1.map (fun q => Value.ref q.1) ∧ ∀ q ∈ L1, q ∈ L := by
    intro vs
    induction vs with
    | nil => intro _; exact ⟨[], rfl, fun q hq => (by cases hq)⟩
    | cons v vs ih =>
      intro hv
      obtain ⟨q, hq, e⟩ := hv v List.mem_cons_self
      obtain ⟨L1, e1, hs⟩ := ih fun u hu => hv u (List.mem_cons_of_mem _ hu)
      refine ⟨q :: L1, by rw [List.map_cons, e, e1], fun r hr => ?_⟩
      rcases List.mem_cons.mp hr with z | z
      · rw [z]; exact hq
      · exact hs r z
  have one : ∀ q ∈ L, ∀ r ∈ L, q.1 = r.1 → q = r := fun q hq r hr e => by
    have a1 := R.tup q hq
    have a2 := R.tup r hr
    rw [e] at a1
    exact Prod.ext e (a1.inj a2)
  have perm_of : ∀ L1 : List (Addr × List Int), (∀ q ∈ L1, q ∈ L) → (L1.map (fun q => Value.ref q.1)).Perm (L.map fun q => Value.ref q.1) → L1.Perm L := by
    intro L1 hs pm1
    have nL : L.Nodup := nodup_of_map R.nd
    have nref : (L.map fun q => Value.ref q.1).Nodup := by
      refine List.pairwise_map.mpr (List.Pairwise.imp_of_mem (fun {q r} hq hr hne e => ?_) nL)
      injection e with e
      exact hne (one q hq r hr e)
    have n1 : L1.Nodup := nodup_of_map (pm1.nodup_iff.mpr nref)
    refine (List.perm_ext_iff_of_nodup n1 nL).mpr fun q => ⟨hs q, fun hq => ?_⟩
    have hm : Value.ref q.1 ∈ L1.map (fun q => Value.ref q.1) := pm1.mem_iff.mpr (List.mem_map.mpr ⟨q, hq, rfl⟩)
    obtain ⟨r, hr, e⟩ := List.mem_map.mp hm
    injection e with e
    rw [← one r (hs r hr) q hq e]
    exact hr
  obtain ⟨L1, e1, s1'⟩ := ord vs fun v hv => by
    obtain ⟨q, hq, e⟩ := List.mem_map.mp (pm.mem_iff.mp hv)
    exact ⟨q, hq, e.symm⟩
  have pL : L1.Perm L := perm_of L1 s1' (by rw [← e1]; exact pm)
  have hvl : vs.length < 64 := by rw [pm.length_eq, List.length_map]; exact hfew
  refine wpAny_bind (wpAny_newList ?_ (by rw [sizeLine_eq]; omega))
  have hoL : (s1.heap.push (seqObj "list" vs.toArray 0)).get? s1.heap.objs.size = some (seqObj "list" vs.toArray 0) := Heap.get?_push_size _ rfl
  have tk : ∀ q ∈ L1, IsT P w (s1.heap.push (seqObj "list" vs.toArray 0)) q.2 q.1 := fun q hq => isT_keep (R.tup q (s1' q hq)) fun b u e => Heap.get?_push_of_some _ (k1 b u e)
  have er := each_readsT (a := s1.heap.objs.size) tk
  have ei := each_refs L1
  rw [← e1] at er ei
  have pmK : (L1.map tkey).Perm (L.map tkey) := pL.map _
  have hal1 : PySem.W.AllAlike (L1.map tkey) := fun d hd d' hd' => hal d (pmK.mem_iff.mp hd) d' (pmK.mem_iff.mp hd')
  have hk1 : PySem.W.Sortable (L1.map tkey) := hk.imp (fun z d hd => z d (pmK.mem_iff.mp hd)) fun z d hd => z d (pmK.mem_iff.mp hd)
  refine wpAny_bind (wpAny_holding (PySem.W.list_sort_data (s := { s1 with heap := s1.heap.push (seqObj "list" vs.toArray 0) }) hoL ei er hal1 hk1 (by rw [sizeLine_eq, pL.length_eq]; omega) (fun b hb => ?_) fun out a1 a2 => ?_))
  · have := hdp b (s1' b hb)
    have e : (A.in1).units = A.units + 1 := rfl
    omega
  · obtain ⟨c, hc⟩ := sortedHeap_at (vs := vs) (out := out.toArray) hoL
    refine wpAny_pure ⟨_, rfl, hQ _ s1.heap.objs.size out.toArray c L1 (fun b u e => ?_) g1 o1 hz hc pL (refs_each a2)⟩
    have q := k1 b u e
    have hlt := Heap.lt_size q
    show (sortedHeap (s1.heap.push (seqObj "list" vs.toArray 0)) s1.heap.objs.size vs out.toArray).get? b = some u
    rw [sortedHeap_old (Nat.ne_of_lt hlt) (by rw [size_push']; exact Nat.lt_succ_of_lt hlt)]
    exact Heap.get?_push_of_some _ q
theorem tkey_le : PySem.W.dataLe false tkey = fun p q => decide (p.2 ≤ q.2) := PySem.W.dataLe_rows (fun q : Addr × List Int => q.2)
theorem alike_ii : ∀ a b : List Int, PySem.W.alikeAll (a.map .int) (b.map .int) = true
  | [], [] => rfl
  | [], _ :: _ => rfl
  | _ :: _, [] => rfl
  | x :: a, y :: b => by
    show (PySem.W.alike (.int x) (.int y) && PySem.W.alikeAll (a.map .int) (b.map .int)) = true
    rw [alike_ii a b]
    rfl
theorem depth_ints : ∀ a : List Int, PyData.depthAll (a.map .int) = 0 := PySem.W.depth_ints
theorem tkey_depth (q : Addr × List Int) : (tkey q).depth ≤ 10 := by
  show PyData.depthAll (q.2.map .int) + 1 ≤ 10
  rw [depth_ints]
  omega
end
def rSortedD (K : PySem.W.Frag) (P : Program) (w : World) : List V → Hp → VK → Prop := fun vs H Q => ∃ (a : Addr) (L : List (Addr × List Int)), vs = [V.ref a] ∧ H a = some (SetTO P w a L) ∧ (∀ p ∈ L, SqT K H p.1 (p.2.map V.int)) ∧ (∀ p ∈ L, p.2 ≠ []) ∧
  ∀ (L1 : List (Addr × List Int)) (p : Addr), L1.Perm L → (L1.map (·.2)).Nodup → H p = none → Q (.ref p) (upd H p (.lst ((L1.mergeSort fun p q => decide (p.2 ≤ q.2)).map fun q => V.ref q.1)))
section
variable {X : Cx}
theorem cr_sortedD (hc : X.calm = true) (hu : X.A.units + 65 < cLine) : CallR X (.builtin "sorted") (rSortedD X.K X.prog X.w) := by
  intro pins s σ H vs us Q I r h
  obtain ⟨a, L, rfl, ha, hk, hne, q⟩ := h
  have R0 : SetT0 X.prog X.w s.heap a L := (I.hok a _ ha).1
  obtain ⟨es, ep, t, R⟩ := R0.full fun p hp => I.isT (hk p hp)
  rw [Vals.ref1 r]
  refine sorted_setD R (I.ok.hd hc) hu (fun d hd d' hd' => ?_) (.inl fun d hd => ?_) (fun q _ => tkey_depth q) fun s' p out c L1 k g o hp hg pm hout => ?_
  · obtain ⟨x, _, rfl⟩ := List.mem_map.mp hd
    obtain ⟨y, _, rfl⟩ := List.mem_map.mp hd'
    exact alike_ii x.2 y.2
  · obtain ⟨x, hx, rfl⟩ := List.mem_map.mp hd
    cases e : x.2 with
    | nil => exact absurd e (hne x hx)
    | cons n ns => exact ⟨.int n, ns.map .int, by show PyData.tuple (x.2.map .int) = _; rw [e]; rfl⟩
  · rw [tkey_le] at hout
    have pm2 : (L1.mergeSort fun p q => decide (p.2 ≤ q.2)).Perm L := (List.mergeSort_perm _ _).trans pm
    have hfew : (L1.mergeSort fun p q => decide (p.2 ≤ q.2)).length < 64 := by rw [pm2.length_eq]; exact R.few
    have hlen : ((L1.mergeSort fun p q => decide (p.2 ≤ q.2)).map fun q => V.ref q.1).length ≤ sizeLine := by rw [List.length_map, sizeLine_eq]; omega
    have hn : H p = none := I.hok.fresh hp
    have hv : Vals ((L1.mergeSort fun p q => decide (p.2 ≤ q.2)).map fun q => V.ref q.1) out.toList := by rw [hout]; exact vals_of_refs _
    have J : Inv X pins σ (upd H p (.lst ((L1.mergeSort fun p q => decide (p.2 ≤ q.2)).map fun q => V.ref q.1))) { s with heap := s'.heap, gens := s'.gens, drawn := s'.drawn, toks := s'.toks } :=
      I.call (ch := []) (Un.laid k hp hn) (I.hok.laid k hp ⟨hlen, out.toList, c, hv, hg⟩) (by rw [g]; exact I.bare) (fun _ z => nomatch z)
    have e : s' = { s with heap := s'.heap, gens := s'.gens, drawn := s'.drawn, toks := s'.toks } := by
      cases s'
      cases s
      cases o
      rfl
    rw [e]
    exact ⟨.ref p, _, J, rfl, q L1 p pm ((pm.map (·.2)).nodup_iff.mpr R.nd) hn⟩
end
theorem keysOf_some : ∀ {ds : List D} {ks : List (List Int)}, keysOf ds = some ks → ds = ks.map ktup
  | [], ks, h => by cases h; rfl
  | d :: ds, ks, h => by
    unfold keysOf at h
    cases e : tupI d with
    | none => rw [e] at h; cases h
    | some k =>
      rw [e] at h
      cases e2 : keysOf ds with
      | none => rw [e2] at h; cases h
      | some ks2 =>
        rw [e2] at h
        cases h
        rw [List.map_cons, ← keysOf_some e2]
        congr 1
        cases d with
        | tup xs => exact congrArg D.tup (asInts_some e)
        | _ => cases e
theorem keysOf_map : ∀ ks : List (List Int), keysOf (ks.map ktup) = some ks
  | [] => rfl
  | k :: ks => by
    rw [List.map_cons, keysOf, keysOf_map ks]
    show ((asInts (k.map D.int)).bind _) = _
    rw [asInts_map]
    rfl
/-- the items' addresses, with what they hold -/
theorem reps_keys {K : PySem.W.Frag} {H : Hp} : ∀ {ks : List (List Int)} {vs : List V}, Reps K H (ks.map ktup) vs → ∃ L : List (Addr × List Int), vs = L.map (fun p => V.ref p.1) ∧ L.map (·.2) = ks ∧ ∀ p ∈ L, H p.1 = some (.tup (p.2.map V.int))
  | [], _, .nil => ⟨[], rfl, rfl, fun p hp => by cases hp⟩
  | k :: ks, _, .cons r t => by
    obtain ⟨L, e1, e2, e3⟩ := reps_keys t
    obtain ⟨a, vs, rfl, h1, h2⟩ := Rep.tupI r
    have h3 := h2.intsI
    subst h3
    refine ⟨(a, k) :: L, by rw [e1]; rfl, by rw [List.map_cons, e2], fun p hp => ?_⟩
    rcases List.mem_cons.mp hp with rfl | hp
    · exact h1
    · exact e3 p hp
theorem reps_of_keys {K : PySem.W.Frag} {H : Hp} : ∀ {L : List (Addr × List Int)}, (∀ p ∈ L, H p.1 = some (.tup (p.2.map V.int))) → Reps K H ((L.map (·.2)).map ktup) (L.map fun p => V.ref p.1)
  | [], _ => .nil
  | p :: L, h => .cons (.tup (h p (by simp)) Reps.ints) (reps_of_keys fun q hq => h q (by simp [hq]))
theorem sortK_of {ks : List (List Int)} {L L1 : List (Addr × List Int)} (h1 : ∀ p ∈ L, p.2 ∈ ks) (h2 : ∀ k ∈ ks, k ∈ L.map (·.2)) (pm : L1.Perm L) (nd : (L1.map (·.2)).Nodup) : (L1.mergeSort fun p q => decide (p.2 ≤ q.2)).map (·.2) = sortK ks := by
  rw [List.map_mergeSort (r := fun p q : Addr × List Int => decide (p.2 ≤ q.2)) (s := fun a b => decide (a ≤ b)) (f := fun p : Addr × List Int => p.2) (fun a _ b _ => rfl)]
  unfold sortK
  have anti : ∀ x y : List Int, decide (x ≤ y) = true → decide (y ≤ x) = true → x = y := fun x y h h' => List.le_antisymm (of_decide_eq_true h) (of_decide_eq_true h')
  have trans : ∀ a b c : List Int, decide (a ≤ b) = true → decide (b ≤ c) = true → decide (a ≤ c) = true := fun a b c h h' => decide_eq_true (List.le_trans (of_decide_eq_true h) (of_decide_eq_true h'))
  have total : ∀ a b : List Int, (decide (a ≤ b) || decide (b ≤ a)) = true := fun a b => by
    rcases List.le_total a b with h | h
    · rw [decide_eq_true h, Bool.true_or]
    · rw [decide_eq_true h, Bool.or_true]
  have pp : (L1.map (·.2)).Perm (dd ks) := by
    refine (List.perm_ext_iff_of_nodup nd (nodup_dd ks)).mpr fun k => ?_
    rw [mem_dd]
    constructor
    · intro hk
      obtain ⟨p, hp, rfl⟩ := List.mem_map.mp hk
      exact h1 p (pm.mem_iff.mp hp)
    · intro hk
      exact (pm.map (·.2)).mem_iff.mpr (h2 k hk)
  have p2 : ((L1.map (·.2)).mergeSort fun a b => decide (a ≤ b)).Perm ((dd ks).mergeSort fun a b => decide (a ≤ b)) := (List.mergeSort_perm _ _).trans (pp.trans (List.mergeSort_perm _ _).symm)
  exact p2.eq_of_pairwise (fun a b _ _ h h' => anti a b h h') (List.pairwise_mergeSort trans total _) (List.pairwise_mergeSort trans total _)

theorem sset_cases (d : D) : (∃ ks : List (List Int), d = .lst (ks.map ktup) ∧ ks.length < 64 ∧ (∀ k ∈ ks, k ≠ []) ∧ D.sset d = .ok (.lst ((sortK ks).map ktup))) ∨ D.sset d = .stuck := by
  unfold D.sset
  split
  · rename_i xs
    cases e : keysOf xs with
    | none => exact .inr rfl
    | some ks =>
      by_cases h : (decide (ks.length < 64) && ks.all (fun k => !k.isEmpty)) = true
      · have h' := h
        simp only [Bool.and_eq_true, decide_eq_true_eq, List.all_eq_true, Bool.not_eq_true'] at h'
        refine .inl ⟨ks, by rw [keysOf_some e], h'.1, fun k hk e => ?_, by simp only [if_pos h]⟩
        have := h'.2 k hk
        rw [e] at this
        cases this
      · exact .inr (by simp only [if_neg h])
  · exact .inr rfl
section
variable {X : Cx} {W : WX} {a : Expr} {fa : Env → R D}
theorem se_sset {p p2 q2 pos : Pos} (hc : X.calm = true) (hu : X.A.units + 65 < cLine) (hgs : glOk X.env.scope "sorted" = true) (hms : X.mg "sorted" = none) (hg : glOk X.env.scope "set" = true) (hm : X.mg "set" = none) (hpl : plain a = true) (ha : SE X W a fa) :
    SE X W (.Call (.Name "sorted" p) [.Call (.Name "set" p2) [a] [] q2] [] pos) (fun ρ => do
    let x ← fa ρ
    D.sset x) := by
  obtain ⟨g1, g2, g3⟩ := gl_of hgs
  obtain ⟨k1, k2, k3⟩ := gl_of hg
  have hset : PE X (.Call (.Name "set" p2) [a] [] q2) _ := pe_callTy (cr_setOfT hc (by omega)) k1 hm (by decide +kernel) (pa_cons ha pa_nil (star_cons hpl)) k3 k2 (star_cons hpl) rfl
  refine PE.imp (pe_callB (cr_sortedD hc hu) g1 hms (by decide +kernel) (pa_cons hset pa_nil (star_cons rfl)) g3 g2 (star_cons rfl) rfl) fun σ H Q ⟨ρ, Hs, he, hr, hp⟩ => ⟨ρ, Hs, he, hr, hp.bind fun d _ v Hi H1 l rv hp1 => ?_⟩
  rcases sset_cases d with ⟨ks, rfl, h1, h2, h3⟩ | h
  · rw [h3] at hp1
    obtain ⟨b, vs, rfl, q1, q2⟩ := rv.lstI
    obtain ⟨L, e1, e2, e3⟩ := reps_keys q2
    subst e1
    refine ⟨b, L, rfl, SqL.of (l.sub _ _ q1), fun p hp => SqT.of (l.sub _ _ (e3 p hp)), by rw [← List.length_map (f := (·.2)), e2]; exact h1, fun c L' hn m1 m2 => ?_⟩
    have ne : ∀ p ∈ L', H1 p.1 = some (.tup (p.2.map V.int)) := fun p hp => l.sub _ _ (e3 p (m1 p hp))
    have ne2 : ∀ p ∈ L', p.1 ≠ c := fun p hp e => by
      have := ne p hp
      rw [e, hn] at this
      cases this
    refine ⟨c, L', rfl, upd_same, fun p hp => SqT.of (by rw [upd_ne (ne2 p hp)]; exact ne p hp), fun p hp => h2 p.2 (by rw [← e2]; exact List.mem_map.mpr ⟨p, m1 p hp, rfl⟩), fun L1 pp pm nd hn2 => ?_⟩
    have hs := sortK_of (ks := ks) (L := L') (L1 := L1) (fun p hp => by rw [← e2]; exact List.mem_map.mpr ⟨p, m1 p hp, rfl⟩) (fun k hk => by
      rw [← e2] at hk
      obtain ⟨p, hp, rfl⟩ := List.mem_map.mp hk
      exact m2 p hp) pm nd
    have hin : ∀ q ∈ (L1.mergeSort fun p q => decide (p.2 ≤ q.2)), Hi q.1 = some (.tup (q.2.map V.int)) := fun q hq => e3 q (m1 q (pm.mem_iff.mp ((List.mergeSort_perm _ _).mem_iff.mp hq)))
    have rr := reps_of_keys (K := X.K) hin
    rw [hs] at rr
    have l0 : Le Hi H1 Hi (upd H1 c (SetTO X.prog X.w c L')) := Le.new0 l.sub hn
    exact hp1 _ _ _ (l0.trans (Le.new1 l0.sub hn2)) (mk_lst l0.sub rr hn2)
  · rw [h] at hp1
    exact hp1.elim
/-! ## {}, and how many there are -/
theorem se_dic0 {pos0 : Pos} : SE X W (.Dict [] [] pos0) (fun _ => .ok .dic) :=
  PE.imp pe_dnewK fun σ H Q ⟨ρ, Hs, he, hr, hp⟩ => fun p hn => hp _ _ _ (Le.new1 he hn) (.dic upd_same)
theorem ints_vals : ∀ {ns : List Int} {us : List Value}, Vals (ns.map V.int) us → PyProof.Rows.IntsAre us ns
  | [], _, .nil => .nil
  | n :: ns, _, .cons r t => by
    obtain ⟨k, rfl⟩ := r
    exact .cons n k (ints_vals t)
theorem range_vals (ns : List Int) : (List.range ns.length).map (fun i => ns.getD i 0) = ns := by
  apply List.ext_getElem (by simp)
  intro i h1 h2
  simp [h2]
theorem met_is (ns : List Int) : PyProof.Rows.firstMet (fun i => ns.getD i 0) ns.length = metI ns := by
  unfold PyProof.Rows.firstMet metI
  rw [range_vals]
  rfl
theorem metI_le (ns : List Int) : (metI ns).length ≤ ns.length := by
  rw [← met_is]
  exact PyProof.Rows.firstMet_length_le _ _
theorem se_lset {p p2 q2 pos : Pos} (hc : X.calm = true) (hgs : glOk X.env.scope "len" = true) (hms : X.mg "len" = none) (hg : glOk X.env.scope "set" = true) (hm : X.mg "set" = none) (hpl : plain a = true) (ha : SE X W a fa) :
    SE X W (.Call (.Name "len" p) [.Call (.Name "set" p2) [a] [] q2] [] pos) (fun ρ => do
    let x ← fa ρ
    D.lset x) := by
  obtain ⟨g1, g2, g3⟩ := gl_of hgs
  obtain ⟨k1, k2, k3⟩ := gl_of hg
  refine ⟨fun pins s σ H Q I h => ?_⟩
  obtain ⟨ρ, Hs, he, hr, hp⟩ := h
  refine Call_ (ld_blt I g1 hms PySem.boot_len ?_)
  refine PyProof.Rows.callWith_builtin1 (PyProof.Rows.args_cons ?_ rfl) rfl rfl
  refine Call_ (ld_blt I k1 hm PyProof.Rows.boot_set ?_)
  have na : starEach [a] X.env = (false, eval a X.env) :: starEach [] X.env := star_cons hpl
  refine PyProof.Rows.callWith_type1 (PyProof.Rows.args_cons (thn (ha.run pins s σ H (fun v H1 => ∃ ns : List Int, ∃ l : Addr, v = V.ref l ∧ SqL X.K H1 l (ns.map V.int) ∧ ns.length ≤ 4000 ∧ Q (.int (metI ns).length) H1) I ⟨ρ, Hs, he, hr, hp.bind fun d _ v Hi H1 l rv hp1 => ?_⟩) fun v s1 ⟨x, H1, I1, r1, q1⟩ => PyProof.Rows.args_nil ?_) na) na rfl
  · cases d with
    | lst xs =>
      cases hi : asInts xs with
      | none => simp [D.lset, hi] at hp1; exact hp1.elim
      | some ns =>
        by_cases hz : ns.length ≤ 4000
        · have hq : PstD X.K X.mg Hi H1 (.ok (.int (metI ns).length)) Q (fun c d H' => W c d σ H') := by simpa [D.lset, hi, hz] using hp1
          have ex := asInts_some hi
          subst ex
          obtain ⟨b, vs, rfl, e1, e2⟩ := rv.lstI
          have ev := e2.intsI
          subst ev
          exact ⟨ns, b, rfl, SqL.of (l.sub _ _ e1), hz, hq.now l.sub (.int _)⟩
        · simp [D.lset, hi, hz] at hp1
          exact hp1.elim
    | _ => exact hp1.elim
  · obtain ⟨ns, b, rfl, hq, hl, q1⟩ := q1
    cases r1
    obtain ⟨its, r, pl, hz⟩ := I1.list hq
    have hlen : its.toArray.size = ns.length := by rw [List.size_toArray, ← r.length, List.length_map]
    refine call_set_list (I1.ok.hd hc) pl.isList (by simpa using ints_vals r) (by rw [hlen]; unfold scanBound; omega) fun h' tk hS hk => ?_
    refine PyProof.Rows.args_nil ?_
    rw [hlen, met_is] at hS
    have hle := metI_le ns
    obtain ⟨o, es, ep, t, ho, hex, hd, _, _, _, hf, hn⟩ := hS
    have I2 : Inv X pins σ H1 { s1 with heap := h', toks := tk } := I1.kept fun b o e => hk b o (Heap.lt_size e) e
    exact call_len_set ho hex hd hf (by rw [hn] <;> omega) ⟨.int (metI ns).length, H1, I2.tok _, ⟨_, by rw [hn]⟩, q1⟩
end
end Py

namespace Py
open PySem PySem.Spec PyProof.Rows L2

theorem XOk.blk {X : Cx} {C : Cfg} {cs : List Cal} {k : Nat} {s : Shared} {H : Hp} {scope : Scope} {env : PySem.Env} {fp : List Addr} (h : XOk X C cs k) : XOk (X.blk s H scope env fp) C cs k :=
  ⟨h.calm, h.names, h.nd, h.room, h.fns, h.cn, h.free, h.glob, h.exs⟩
theorem XOk.units {X : Cx} {C : Cfg} {cs : List Cal} {k : Nat} (h : XOk X C cs k) : X.A.units + 65 < cLine := by
  have := h.room.un
  omega
section
variable {C : Cfg} {cs : List Cal} {kk : Nat}
def EOk (C : Cfg) (cs : List Cal) (kk : Nat) (a : E) : Prop := ∀ (X : Cx) (W : WX) (e : Expr), XOk X C cs kk → Takes X W → chk C X.env.scope a e = true →
  SE X W e (ev (fnsOf cs) a) ∧ SB X W e (fun ρ => ev (fnsOf cs) a ρ >>= D.truth)
structure EsOk (C : Cfg) (cs : List Cal) (kk : Nat) (es : Es) : Prop where
  args : ∀ (X : Cx) (W : WX) (xs : List Expr), XOk X C cs kk → Takes X W → chks C X.env.scope es xs = true → SA X W xs (evs (fnsOf cs) es) ∧ (∀ x ∈ xs, plain x = true) ∧ xs.length = es.len ∧
    (es.len ≠ 0 → ∀ pos, SE X W (.BoolOp .And xs pos) (evAnd (fnsOf cs) es) ∧ SE X W (.BoolOp .Or xs pos) (evOr (fnsOf cs) es) ∧ SW X W (.BoolOp .And xs pos) (fun ρ => evAnd (fnsOf cs) es ρ >>= D.truth) ∧ SW X W (.BoolOp .Or xs pos) (fun ρ => evOr (fnsOf cs) es ρ >>= D.truth))
  part : ∀ (X : Cx) (W : WX) (o : Option Expr), XOk X C cs kk → Takes X W → chkPart C X.env.scope es o = true → SO X W o (evPart (fnsOf cs) es)
  tests : ∀ (X : Cx) (W : WX) (xs : List Expr), XOk X C cs kk → Takes X W → chkTests C X.env.scope es xs = true → PTs X xs (tDB X.K X.mg W (evTests (fnsOf cs) es))
def ItOk (C : Cfg) (cs : List Cal) (kk : Nat) (it : It) : Prop := ∀ (X : Cx) (W : WX) (tg e : Expr), XOk X C cs kk → Takes X W → chkIt C X.env.scope it e = true → (∀ a b, it = .zip a b → ∃ ks k p, tg = .Tuple ks k p) → SI X W tg e (evIt (fnsOf cs) it) ∧ plain e = true
theorem evs_len {Φ : Fns} : ∀ {es : Es} {ρ : Env} {ds : List D}, evs Φ es ρ = .ok ds → ds.length = es.len
  | .nil, ρ, ds, h => by
    rw [evs] at h
    cases h
    rfl
  | .cons e es, ρ, ds, h => by
    rw [evs] at h
    obtain ⟨x, h1, h⟩ := bind_some h
    obtain ⟨xs, h2, h⟩ := bind_some h
    cases h
    show xs.length + 1 = es.len + 1
    rw [evs_len h2]
theorem sb_plain {X : Cx} {W : WX} {e : Expr} {f : Env → R D} (h : SE X W e f) (he : ∀ whole, isTrue e X.env whole = (do let v ← whole; standAt e.pos; holding [v] (truthy v))) : SE X W e f ∧ SB X W e (fun ρ => f ρ >>= D.truth) := ⟨h, sb_of h he⟩
theorem glob_free {X : Cx} (h : XOk X C cs kk) {x : Str} (hx : C.bl.contains x = true) : X.mg x = none := h.free x (List.contains_iff_mem.mp hx)

theorem ok_var (i : Nat) : EOk C cs kk (.var i) := fun X W e hX tk h => by
  rw [chk] at h
  cases q : xName e with
  | none => rw [q] at h; cases h
  | some x =>
    rw [q] at h
    obtain ⟨p, rfl⟩ := xName_s q
    simp only [Bool.and_eq_true, decide_eq_true_eq] at h
    refine sb_plain ?_ fun _ => rfl
    have := se_var (W := W) (pos := p) (show X.N[i]? = some x by rw [hX.names]; exact h.1) h.2
    refine PE.imp this fun σ H Q hh => ?_
    obtain ⟨ρ, Hs, he, hr, hp⟩ := hh
    rw [ev] at hp
    exact ⟨ρ, Hs, he, hr, hp⟩
theorem ok_cst (c : Cst) : EOk C cs kk (.cst c) := fun X W e hX tk h => by
  rw [chk] at h
  cases q : xConst e with
  | none => rw [q] at h; cases h
  | some x =>
    rw [q] at h
    obtain ⟨j, p, rfl⟩ := xConst_s q
    refine sb_plain ?_ fun _ => rfl
    have e : ev (fnsOf cs) (.cst c) = fun _ => .ok c.d := by funext ρ; rw [ev]
    rw [e]
    exact se_cst h
theorem ok_glo (x : Str) (c : Cst) : EOk C cs kk (.glo x c) := fun X W e hX tk h => by
  rw [chk] at h
  cases q : xName e with
  | none => rw [q] at h; cases h
  | some y =>
    rw [q] at h
    obtain ⟨p, rfl⟩ := xName_s q
    simp only [Bool.and_eq_true, decide_eq_true_eq] at h
    obtain ⟨⟨rfl, h2⟩, h3⟩ := h
    obtain ⟨u, hm, r⟩ := hX.glob (x, c) (List.contains_iff_mem.mp h3)
    refine sb_plain ?_ fun _ => rfl
    have e : ev (fnsOf cs) (.glo x c) = fun _ => .ok c.d := by funext ρ; rw [ev]
    rw [e]
    exact se_glo h2 hm r
theorem ok_bin (o : Bop) {a b : E} (ha : EOk C cs kk a) (hb : EOk C cs kk b) : EOk C cs kk (.bin o a b) := fun X W e hX tk h => by
  rw [chk] at h
  cases q : xBin e with
  | none => rw [q] at h; cases h
  | some t =>
    obtain ⟨x, p, y⟩ := t
    rw [q] at h
    obtain ⟨pos, rfl⟩ := xBin_s q
    simp only [Bool.and_eq_true, decide_eq_true_eq] at h
    obtain ⟨⟨rfl, h2⟩, h3⟩ := h
    refine sb_plain ?_ fun _ => rfl
    have e : ev (fnsOf cs) (.bin o a b) = fun ρ => (do
      let x ← ev (fnsOf cs) a ρ
      let y ← ev (fnsOf cs) b ρ
      o.f x y) := by funext ρ; rw [ev]
    rw [e]
    exact se_bin (ha X W x hX tk h2).1 (hb X W y hX tk h3).1
theorem ok_neg {a : E} (ha : EOk C cs kk a) : EOk C cs kk (.neg a) := fun X W e hX tk h => by
  rw [chk] at h
  cases q : xUn e with
  | none => rw [q] at h; cases h
  | some t =>
    obtain ⟨o, x⟩ := t
    rw [q] at h
    obtain ⟨pos, rfl⟩ := xUn_s q
    simp only [Bool.and_eq_true, decide_eq_true_eq] at h
    obtain ⟨rfl, h2⟩ := h
    refine sb_plain ?_ fun _ => rfl
    have e : ev (fnsOf cs) (.neg a) = fun ρ => (do
      let x ← ev (fnsOf cs) a ρ
      D.negI x) := by funext ρ; rw [ev]
    rw [e]
    exact se_neg (ha X W x hX tk h2).1
theorem ok_cmp (o : Cop) {a b : E} (ha : EOk C cs kk a) (hb : EOk C cs kk b) : EOk C cs kk (.cmp o a b) := fun X W e hX tk h => by
  rw [chk] at h
  cases q : xCmp e with
  | none => rw [q] at h; cases h
  | some t =>
    obtain ⟨x, p, y⟩ := t
    rw [q] at h
    obtain ⟨pos, rfl⟩ := xCmp_s q
    simp only [Bool.and_eq_true, decide_eq_true_eq] at h
    obtain ⟨⟨⟨rfl, h1⟩, h2⟩, h3⟩ := h
    have e : ev (fnsOf cs) (.cmp o a b) = fun ρ => (do
      let x ← ev (fnsOf cs) a ρ
      let y ← ev (fnsOf cs) b ρ
      o.f x y) := by funext ρ; rw [ev]
    rw [e]
    exact ⟨se_cmp hX.units h1 (ha X W x hX tk h2).1 (hb X W y hX tk h3).1, sb_cmp hX.units h1 (ha X W x hX tk h2).1 (hb X W y hX tk h3).1⟩
theorem ok_isn (no : Bool) {a : E} (ha : EOk C cs kk a) : EOk C cs kk (.isn no a) := fun X W e hX tk h => by
  rw [chk] at h
  cases q : xCmp e with
  | none => rw [q] at h; cases h
  | some t =>
    obtain ⟨x, p, y⟩ := t
    rw [q] at h
    obtain ⟨pos, rfl⟩ := xCmp_s q
    simp only [Bool.and_eq_true, decide_eq_true_eq] at h
    obtain ⟨⟨rfl, h1⟩, h2⟩ := h
    cases q2 : xConst y with
    | none => rw [q2] at h1; cases h1
    | some c =>
      rw [q2] at h1
      obtain ⟨j, p2, rfl⟩ := xConst_s q2
      cases c with
      | none =>
        have e : ev (fnsOf cs) (.isn no a) = fun ρ => (do
          let x ← ev (fnsOf cs) a ρ
          .ok (.bl (if no then !x.isNon else x.isNon))) := by funext ρ; rw [ev]
        rw [e]
        exact ⟨se_isn (ha X W x hX tk h2).1, sb_isn (ha X W x hX tk h2).1⟩
      | _ => cases h1
theorem ok_isb (no : Bool) {a : E} (b : Bool) (ha : EOk C cs kk a) : EOk C cs kk (.isb no a b) := fun X W e hX tk h => by
  rw [chk] at h
  cases q : xCmp e with
  | none => rw [q] at h; cases h
  | some t =>
    obtain ⟨x, p, y⟩ := t
    rw [q] at h
    obtain ⟨pos, rfl⟩ := xCmp_s q
    simp only [Bool.and_eq_true, decide_eq_true_eq] at h
    obtain ⟨⟨rfl, h1⟩, h2⟩ := h
    cases q2 : xConst y with
    | none => rw [q2] at h1; cases h1
    | some c =>
      rw [q2] at h1
      obtain ⟨j, p2, rfl⟩ := xConst_s q2
      cases c with
      | bool c =>
        have h1 : (b == c) = true := h1
        have h1 := beq_iff_eq.mp h1
        subst h1
        have e : ev (fnsOf cs) (.isb no a b) = fun ρ => (do
          let x ← ev (fnsOf cs) a ρ
          D.isb no b x) := by funext ρ; rw [ev]
        rw [e]
        exact ⟨se_isb (ha X W x hX tk h2).1, sb_isb (ha X W x hX tk h2).1⟩
      | _ => cases h1
theorem ok_chain (o1 o2 : Cop) {a b c : E} (ha : EOk C cs kk a) (hb : EOk C cs kk b) (hc : EOk C cs kk c) : EOk C cs kk (.chain o1 o2 a b c) := fun X W e hX tk h => by
  rw [chk] at h
  cases q : xChain e with
  | none => rw [q] at h; cases h
  | some t =>
    obtain ⟨x, p1, p2, y, z⟩ := t
    rw [q] at h
    obtain ⟨pos, rfl⟩ := xChain_s q
    simp only [Bool.and_eq_true, decide_eq_true_eq] at h
    obtain ⟨⟨⟨⟨⟨⟨rfl, rfl⟩, h1⟩, h2⟩, h3⟩, h4⟩, h5⟩ := h
    have e : ev (fnsOf cs) (.chain o1 o2 a b c) = fun ρ => (do
      let x ← ev (fnsOf cs) a ρ
      let y ← ev (fnsOf cs) b ρ
      let r ← o1.f x y
      let k ← D.asB r
      if k then do
        let z ← ev (fnsOf cs) c ρ
        o2.f y z
      else .ok (.bl false)) := by funext ρ; rw [ev]
    rw [e]
    exact ⟨se_chain hX.units h2 (ha X W x hX tk h3).1 (hb X W y hX tk h4).1 (hc X W z hX tk h5).1, sb_chain hX.units h2 (ha X W x hX tk h3).1 (hb X W y hX tk h4).1 (hc X W z hX tk h5).1⟩
theorem ok_and {es : Es} (hs : EsOk C cs kk es) : EOk C cs kk (.and es) := fun X W e hX tk h => by
  rw [chk] at h
  cases q : xBool e with
  | none => rw [q] at h; cases h
  | some t =>
    obtain ⟨o, xs⟩ := t
    rw [q] at h
    obtain ⟨pos, rfl⟩ := xBool_s q
    simp only [Bool.and_eq_true, decide_eq_true_eq] at h
    obtain ⟨⟨rfl, h1⟩, h2⟩ := h
    have e : ev (fnsOf cs) (.and es) = evAnd (fnsOf cs) es := by funext ρ; rw [ev]
    rw [e]
    obtain ⟨_, _, _, q⟩ := hs.args X W xs hX tk h2
    obtain ⟨q1, q2, q3, q4⟩ := q h1 pos
    exact ⟨q1, q3.pt⟩
theorem ok_or {es : Es} (hs : EsOk C cs kk es) : EOk C cs kk (.or es) := fun X W e hX tk h => by
  rw [chk] at h
  cases q : xBool e with
  | none => rw [q] at h; cases h
  | some t =>
    obtain ⟨o, xs⟩ := t
    rw [q] at h
    obtain ⟨pos, rfl⟩ := xBool_s q
    simp only [Bool.and_eq_true, decide_eq_true_eq] at h
    obtain ⟨⟨rfl, h1⟩, h2⟩ := h
    have e : ev (fnsOf cs) (.or es) = evOr (fnsOf cs) es := by funext ρ; rw [ev]
    rw [e]
    obtain ⟨_, _, _, q⟩ := hs.args X W xs hX tk h2
    obtain ⟨q1, q2, q3, q4⟩ := q h1 pos
    exact ⟨q2, q4.pt⟩
theorem ok_not {a : E} (ha : EOk C cs kk a) : EOk C cs kk (.not a) := fun X W e hX tk h => by
  rw [chk] at h
  cases q : xUn e with
  | none => rw [q] at h; cases h
  | some t =>
    obtain ⟨o, x⟩ := t
    rw [q] at h
    obtain ⟨pos, rfl⟩ := xUn_s q
    simp only [Bool.and_eq_true, decide_eq_true_eq] at h
    obtain ⟨rfl, h2⟩ := h
    have e : ev (fnsOf cs) (.not a) = fun ρ => (do
      let x ← ev (fnsOf cs) a ρ
      let k ← D.truth x
      .ok (.bl (!k))) := by funext ρ; rw [ev]
    rw [e]
    exact ⟨se_not (ha X W x hX tk h2).1, sb_not (ha X W x hX tk h2).2⟩
theorem ok_tup {es : Es} (hs : EsOk C cs kk es) : EOk C cs kk (.tup es) := fun X W e hX tk h => by
  rw [chk] at h
  cases q : xTup e with
  | none => rw [q] at h; cases h
  | some xs =>
    rw [q] at h
    obtain ⟨k, pos, rfl⟩ := xTup_s q
    simp only [Bool.and_eq_true, decide_eq_true_eq] at h
    refine sb_plain ?_ fun _ => rfl
    have e : ev (fnsOf cs) (.tup es) = fun ρ => (do
      let xs ← evs (fnsOf cs) es ρ
      .ok (.tup xs)) := by funext ρ; rw [ev]
    rw [e]
    exact se_tup (hs.args X W xs hX tk h.2).1 fun ρ ds q => by rw [evs_len q]; exact h.1
theorem ok_lst {es : Es} (hs : EsOk C cs kk es) : EOk C cs kk (.lst es) := fun X W e hX tk h => by
  rw [chk] at h
  cases q : xLst e with
  | none => rw [q] at h; cases h
  | some xs =>
    rw [q] at h
    obtain ⟨pos, rfl⟩ := xLst_s q
    simp only [Bool.and_eq_true, decide_eq_true_eq] at h
    refine sb_plain ?_ fun _ => rfl
    have e : ev (fnsOf cs) (.lst es) = fun ρ => (do
      let xs ← evs (fnsOf cs) es ρ
      .ok (.lst xs)) := by funext ρ; rw [ev]
    rw [e]
    exact se_lst (hs.args X W xs hX tk h.2).1 fun ρ ds q => by rw [evs_len q]; exact h.1
theorem ok_ix {a b : E} (ha : EOk C cs kk a) (hb : EOk C cs kk b) : EOk C cs kk (.ix a b) := fun X W e hX tk h => by
  rw [chk] at h
  cases q : xSub e with
  | none => rw [q] at h; cases h
  | some t =>
    obtain ⟨x, y⟩ := t
    rw [q] at h
    obtain ⟨pos, rfl⟩ := xSub_s q
    simp only [Bool.and_eq_true] at h
    refine sb_plain ?_ fun _ => rfl
    have e : ev (fnsOf cs) (.ix a b) = fun ρ => (do
      let x ← ev (fnsOf cs) a ρ
      let y ← ev (fnsOf cs) b ρ
      D.ix x y) := by funext ρ; rw [ev]
    rw [e]
    exact se_ix h.1.1 (ha X W x hX tk h.1.2).1 (hb X W y hX tk h.2).1
theorem ok_sl {a : E} {lo hi : Es} (ha : EOk C cs kk a) (hl : EsOk C cs kk lo) (hh : EsOk C cs kk hi) : EOk C cs kk (.sl a lo hi) := fun X W e hX tk h => by
  rw [chk] at h
  cases q : xSub e with
  | none => rw [q] at h; cases h
  | some t =>
    obtain ⟨x, y⟩ := t
    rw [q] at h
    obtain ⟨pos, rfl⟩ := xSub_s q
    cases q2 : xSlice y with
    | none => simp only [q2] at h; cases h
    | some t =>
      obtain ⟨l, u⟩ := t
      simp only [q2, Bool.and_eq_true] at h
      obtain ⟨p2, rfl⟩ := xSlice_s q2
      refine sb_plain ?_ fun _ => rfl
      have e : ev (fnsOf cs) (.sl a lo hi) = fun ρ => (do
        let x ← ev (fnsOf cs) a ρ
        let l ← evPart (fnsOf cs) lo ρ
        let h ← evPart (fnsOf cs) hi ρ
        D.sl x l h) := by funext ρ; rw [ev]
      rw [e]
      exact se_sl (ha X W x hX tk h.1.1).1 (hl.part X W l hX tk h.1.2) (hh.part X W u hX tk h.2)
theorem ok_call (k : Nat) {es : Es} (hs : EsOk C cs kk es) : EOk C cs kk (.call k es) := fun X W e hX tk h => by
  rw [chk] at h
  cases q : xCall e with
  | none => rw [q] at h; cases h
  | some t =>
    obtain ⟨x, xs⟩ := t
    rw [q] at h
    obtain ⟨p, pos, rfl⟩ := xCall_s q
    simp only [Bool.and_eq_true, decide_eq_true_eq] at h
    obtain ⟨⟨⟨h1, h2⟩, h3⟩, h4⟩ := h
    rw [hX.cn, List.getElem?_map] at h1
    cases q2 : cs[k]? with
    | none => rw [q2] at h1; cases h1
    | some cal =>
      rw [q2] at h1
      have h1 : some (cal.name, cal.ps.length) = some (x, es.len) := h1
      simp only [Option.some.injEq, Prod.mk.injEq] at h1
      obtain ⟨rfl, h5⟩ := h1
      obtain ⟨a1, a2, a3, _⟩ := hs.args X W xs hX tk h4
      refine sb_plain ?_ fun _ => rfl
      have e : ev (fnsOf cs) (.call k es) = fun ρ => (do
        let xs ← evs (fnsOf cs) es ρ
        if xs.length = cal.ps.length then cal.g xs else .stuck) := by
        funext ρ
        rw [ev]
        congr 1
        funext ds
        show (match (fnsOf cs)[k]? with | some (n, g) => if ds.length = n then g ds else .stuck | none => .stuck) = _
        unfold fnsOf
        rw [List.getElem?_map, q2]
        rfl
      rw [e]
      cases xs with
      | nil => exact absurd a3.symm h2
      | cons y ys => exact se_call tk (hX.fns cal (List.mem_of_getElem? q2)) hX.room h3 a2 a1
theorem ok_bi (b : Bi) {es : Es} (hs : EsOk C cs kk es) : EOk C cs kk (.bi b es) := fun X W e hX tk h => by
  rw [chk] at h
  cases q : xCall e with
  | none => rw [q] at h; cases h
  | some t =>
    obtain ⟨x, xs⟩ := t
    rw [q] at h
    obtain ⟨p, pos, rfl⟩ := xCall_s q
    simp only [Bool.and_eq_true, decide_eq_true_eq] at h
    obtain ⟨⟨⟨⟨rfl, h1⟩, h2⟩, h3⟩, h4⟩ := h
    obtain ⟨a1, a2, a3, _⟩ := hs.args X W xs hX tk h4
    refine sb_plain ?_ fun _ => rfl
    have e : ev (fnsOf cs) (.bi b es) = fun ρ => (do
      let xs ← evs (fnsOf cs) es ρ
      b.f xs) := by funext ρ; rw [ev]
    rw [e]
    cases xs with
    | nil => exact absurd a3.symm h2
    | cons y ys => exact se_bi hX.calm hX.units h3 (glob_free hX h1) a2 a1
theorem ok_isi {a : E} (t : Ty) (ha : EOk C cs kk a) : EOk C cs kk (.isi a t) := fun X W e hX tk h => by
  rw [chk] at h
  cases q : xCall e with
  | none => rw [q] at h; cases h
  | some u =>
    obtain ⟨x, xs⟩ := u
    rw [q] at h
    obtain ⟨p, pos, rfl⟩ := xCall_s q
    simp only [Bool.and_eq_true, decide_eq_true_eq] at h
    obtain ⟨⟨⟨rfl, h1⟩, h2⟩, h3⟩ := h
    match xs, h3 with
    | [y, z], h3 =>
      simp only [Bool.and_eq_true] at h3
      obtain ⟨⟨h4, h5⟩, h6⟩ := h3
      cases q2 : xName z with
      | none => rw [q2] at h4; cases h4
      | some n =>
        rw [q2] at h4
        obtain ⟨p2, rfl⟩ := xName_s q2
        simp only [Bool.and_eq_true, decide_eq_true_eq] at h4
        obtain ⟨⟨rfl, h7⟩, h8⟩ := h4
        refine sb_plain ?_ fun _ => rfl
        have e : ev (fnsOf cs) (.isi a t) = fun ρ => (do
          let x ← ev (fnsOf cs) a ρ
          .ok (.bl (x.isTy t))) := by funext ρ; rw [ev]
        rw [e]
        exact se_isi h2 (glob_free hX h1) h8 (glob_free hX h7) h5 (ha X W y hX tk h6).1
    | [], h3 => cases h3
    | [_], h3 => cases h3
    | _ :: _ :: _ :: _, h3 => cases h3
def isxB (c k : Str) : Bool := if c = "ValueError" ∨ c = "PurseError" then true else decide (k = c)
theorem isx_ok {c k : Str} {ys : List D} {r : D} (h : D.isx c (.exv k ys) = .ok r) : r = .bl (isxB c k) := by
  have h : (if c = "ValueError" ∨ c = "PurseError" then R.ok (D.bl true) else if (exFld c).isSome then .ok (.bl (decide (k = c))) else .stuck) = .ok r := h
  unfold isxB
  split at h
  · rw [if_pos (by assumption)]; cases h; rfl
  · rw [if_neg (by assumption)]
    split at h
    · cases h; rfl
    · cases h
theorem se_isx {X : Cx} {W : WX} {a z : Expr} {fa : Env → R D} {p pos : Pos} {u : V} {uu : Value} {c : Str} (hg : glOk X.env.scope "isinstance" = true) (hm : X.mg "isinstance" = none) (hcv : ClsV u uu) (hz : PE X z (tC u)) (hzs : starEach [z] X.env = (false, eval z X.env) :: starEach [] X.env) (hpl : plain a = true) (hpz : plain z = true) (ha : SE X W a fa)
    (hN : PySem.W.kitOne X.K (.type "NoneType") uu = some false) (hE : ∀ k C' fo', exFld k = some fo' → PySem.W.nsIn X.K mainGlobals k = some (some (.ref C')) → PySem.W.kitOne X.K (.ref C') uu = some (isxB c k)) :
    SE X W (.Call (.Name "isinstance" p) [a, z] [] pos) (fun ρ => do
    let x ← fa ρ
    D.isx c x) := by
  obtain ⟨g1, g2, g3⟩ := gl_of hg
  refine PE.imp (pe_callB call_isx2 g1 hm (by decide +kernel) (pa_cons ha (pa_cons hz pa_nil hzs) (star_cons hpl)) g3 g2 (star_cons hpl) (star_any fun x hx => by
    have e : x = z := by simpa using hx
    subst e
    exact hpz)) fun σ H Q ⟨ρ, Hs, he, hr, hp⟩ => ⟨ρ, Hs, he, hr, hp.bind fun d _ v Hi H1 l rv hp1 => ?_⟩
  cases rv with
  | non =>
    have hp1 : PstD X.K X.mg Hi H1 (if exName c then .ok (.bl false) else .stuck) Q _ := hp1
    split at hp1
    · exact .inr ⟨.non, u, .type "NoneType", uu, false, rfl, hcv, .base .non, hN, Pst.now (d := D.bl false) hp1 l.sub (.bl _)⟩
    · exact hp1.elim
  | @exv0 a B C k h1 h2 h3 h4 =>
    cases hr1 : D.isx c (.exv k []) with
    | ok r =>
      rw [hr1] at hp1
      have e := isx_ok hr1
      subst e
      exact .inl ⟨_, _, _, none, _, _, _, rfl, h3, l.sub _ _ h4, (fun _ z => nomatch z), hcv, hE _ _ _ h1 h2, hp1.now l.sub (.bl _)⟩
    | exc x => rw [hr1] at hp1; unfold D.isx at hr1; simp only at hr1; split at hr1 <;> first | cases hr1 | (split at hr1 <;> cases hr1)
    | stuck => rw [hr1] at hp1; exact hp1.elim
  | @exv1 a B C dd k f y v h1 h2 h3 h4 h5 h6 r =>
    cases hr1 : D.isx c (.exv k [y]) with
    | ok r =>
      rw [hr1] at hp1
      have e := isx_ok hr1
      subst e
      exact .inl ⟨_, _, _, some _, _, _, _, rfl, h3, l.sub _ _ h5, (fun _ z => by cases z; exact ⟨_, l.sub _ _ h6⟩), hcv, hE _ _ _ h1 h2, hp1.now l.sub (.bl _)⟩
    | exc x => rw [hr1] at hp1; unfold D.isx at hr1; simp only at hr1; split at hr1 <;> first | cases hr1 | (split at hr1 <;> cases hr1)
    | stuck => rw [hr1] at hp1; exact hp1.elim
  | _ => exact hp1.elim
theorem ex_same {P : Program} {w : World} {K : PySem.W.Frag} {mg : Str → Option Value} {base : Heap} {B C : Addr} {k : Str} {fo : Option Str} (T : ExAll P w K mg base B) (h : exFld k = some fo) (hn : PySem.W.nsIn K mainGlobals k = some (some (.ref C))) : ExC K B C := by
  obtain ⟨C', h1, h2, h3, _⟩ := T.one k fo h
  rw [hn] at h1
  cases h1
  exact h3
theorem pe_own {X : Cx} {x : Str} {C : Addr} {pos : Pos} (h : glOk X.env.scope x = true) (hm : X.mg x = some (.ref C)) : PE X (.Name x pos) (tC (.ref C)) := by
  obtain ⟨h1, h2, _⟩ := gl_of h
  exact pe_glob h1 hm rfl h2
theorem ok_isx {a : E} (c : Str) (ha : EOk C cs kk a) : EOk C cs kk (.isx a c) := fun X W e hX tk h => by
  rw [chk] at h
  cases q : xCall e with
  | none => rw [q] at h; cases h
  | some u =>
    obtain ⟨x, xs⟩ := u
    rw [q] at h
    obtain ⟨p, pos, rfl⟩ := xCall_s q
    simp only [Bool.and_eq_true, decide_eq_true_eq] at h
    obtain ⟨⟨⟨⟨⟨rfl, h1⟩, h2⟩, hex⟩, hnm⟩, h3⟩ := h
    match xs, h3 with
    | [y, z], h3 =>
      simp only [Bool.and_eq_true] at h3
      obtain ⟨⟨h4, h5⟩, h6⟩ := h3
      cases q2 : xName z with
      | none => rw [q2] at h4; cases h4
      | some n =>
        rw [q2] at h4
        obtain ⟨p2, rfl⟩ := xName_s q2
        simp only [Bool.and_eq_true, decide_eq_true_eq] at h4
        obtain ⟨⟨rfl, h7⟩, h8⟩ := h4
        refine sb_plain ?_ fun _ => rfl
        have e : ev (fnsOf cs) (.isx a n) = fun ρ => (do
          let x ← ev (fnsOf cs) a ρ
          D.isx n x) := by funext ρ; rw [ev]
        rw [e]
        obtain ⟨⟨B, T⟩, _⟩ := hX.exs hex
        by_cases hv : n = "ValueError"
        · subst hv
          have h9 : C.bl.contains ("ValueError" : Str) = true := by simpa using h8
          obtain ⟨k1, k2, k3⟩ := gl_of h7
          exact se_isx h2 (glob_free hX h1) (.ty "ValueError") (pe_bltn k1 (glob_free hX h9) (by decide +kernel) rfl k3 k2) rfl h5 rfl (ha X W y hX tk h6).1 (kit_ty (by decide +kernel)) fun k C' fo' hk hn => by
            rw [(ex_same T hk hn).tV]; rfl
        · by_cases hp : n = "PurseError"
          · subst hp
            exact se_isx h2 (glob_free hX h1) (.own B) (pe_own h7 T.mP) rfl h5 rfl (ha X W y hX tk h6).1 T.nonP fun k C' fo' hk hn => by
              rw [(ex_same T hk hn).tP]; rfl
          · have hf : (exFld n).isSome = true := by
              unfold exName at hnm
              simpa [hv, hp] using hnm
            obtain ⟨fo, hf⟩ := Option.isSome_iff_exists.mp hf
            obtain ⟨Cn, c1, c2, c3, _⟩ := T.one n fo hf
            exact se_isx h2 (glob_free hX h1) (.own Cn) (pe_own h7 c2) rfl h5 rfl (ha X W y hX tk h6).1 (T.non _ _ _ hf c1) fun k C' fo' hk hn => by
              rw [T.two _ _ _ _ _ _ hk hf hn c1]
              unfold isxB
              rw [if_neg (by simp [hv, hp])]
    | [], h3 => cases h3
    | [_], h3 => cases h3
    | _ :: _ :: _ :: _, h3 => cases h3
theorem pa_own {X : Cx} {base : Heap} {B : Addr} (T : ExAll X.prog X.w X.K X.mg base B) : ∀ {cs : List Str} {es : List Expr}, chkOwn X.env.scope cs es = true → ∃ As : List Addr, As.length = cs.length ∧ PA X es (fun σ H Q => Q (As.map V.ref) H) ∧ Paired ClsV (As.map V.ref) (As.map Value.ref) ∧
    ∀ k C fo, exFld k = some fo → PySem.W.nsIn X.K mainGlobals k = some (some (.ref C)) → PySem.W.kitAny X.K (.ref C) (As.map Value.ref) = some (cs.any fun c => decide (k = c))
  | [], es, h => by
    have e : es = [] := by simpa [chkOwn] using h
    subst e
    exact ⟨[], rfl, pa_nil, .nil, fun _ _ _ _ _ => kitAny_nil⟩
  | c :: cs, [], h => by cases h
  | c :: cs, e :: es, h => by
    rw [chkOwn] at h
    simp only [Bool.and_eq_true] at h
    cases q : xName e with
    | none => rw [q] at h; cases h.1
    | some n =>
      rw [q] at h
      obtain ⟨p, rfl⟩ := xName_s q
      obtain ⟨h1, h2⟩ := h
      simp only [Bool.and_eq_true, decide_eq_true_eq] at h1
      obtain ⟨⟨rfl, h3⟩, h4⟩ := h1
      obtain ⟨fo, hf⟩ := Option.isSome_iff_exists.mp h4
      obtain ⟨Cn, c1, c2, c3, _⟩ := T.one n fo hf
      obtain ⟨As, i0, i1, i2, i3⟩ := pa_own T h2
      refine ⟨Cn :: As, by simp [i0], pa_cons (pe_own h3 c2) i1 (star_cons rfl), .cons (.own Cn) i2, fun k C fo' hk hn => ?_⟩
      have e1 := T.two _ _ _ _ _ _ hk hf hn c1
      refine kitAny_cons e1 (fun hb => ?_) fun hb => ?_
      · rw [i3 k C fo' hk hn, List.any_cons, hb, Bool.false_or]
      · rw [List.any_cons, hb, Bool.true_or]
theorem ok_isxs {a : E} (ks : List Str) (ha : EOk C cs kk a) : EOk C cs kk (.isxs a ks) := fun X W e hX tk h => by
  rw [chk] at h
  cases q : xCall e with
  | none => rw [q] at h; cases h
  | some u =>
    obtain ⟨x, xs⟩ := u
    rw [q] at h
    obtain ⟨p, pos, rfl⟩ := xCall_s q
    simp only [Bool.and_eq_true, decide_eq_true_eq] at h
    obtain ⟨⟨⟨⟨⟨rfl, h1⟩, h2⟩, hex⟩, hlen⟩, h3⟩ := h
    match xs, h3 with
    | [y, z], h3 =>
      simp only [Bool.and_eq_true] at h3
      obtain ⟨⟨h4, h5⟩, h6⟩ := h3
      cases q2 : xTup z with
      | none => rw [q2] at h4; cases h4
      | some ns =>
        rw [q2] at h4
        obtain ⟨k0, p2, rfl⟩ := xTup_s q2
        refine sb_plain ?_ fun _ => rfl
        have e : ev (fnsOf cs) (.isxs a ks) = fun ρ => (do
          let x ← ev (fnsOf cs) a ρ
          D.isxs ks x) := by funext ρ; rw [ev]
        rw [e]
        obtain ⟨⟨B, T⟩, _⟩ := hX.exs hex
        obtain ⟨As, i0, i1, i2, i3⟩ := pa_own T h4
        obtain ⟨g1, g2, g3⟩ := gl_of h2
        refine PE.imp (pe_callB call_isxT g1 (glob_free hX h1) (by decide +kernel) (pa_cons (ha X W y hX tk h6).1 (pa_cons (pe_tup i1) pa_nil (star_cons rfl)) (star_cons h5)) g3 g2 (star_cons h5) (star_any fun x hx => by
          have e : x = .Tuple ns k0 p2 := by simpa using hx
          subst e
          rfl)) fun σ H Q ⟨ρ, Hs, he, hr, hp⟩ => ⟨ρ, Hs, he, hr, hp.bind fun d _ v Hi H1 l rv hp1 => ⟨?_, fun tp hn => ?_⟩⟩
        · rw [List.length_map, size_eq, i0]; omega
        · have l0 := Le.new0 (o := .tup (As.map V.ref)) l.sub hn
          have hp2 := Pst.step (Rel := Rep X.K) l0 hp1
          cases rv with
          | @exv0 a B C k h1 h2 h3 h4 =>
            have hp2 : PstD X.K X.mg Hi (upd H1 tp (.tup (As.map V.ref))) (if (ks.all fun c => (exFld c).isSome) then .ok (.bl (ks.any fun c => decide (k = c))) else .stuck) Q _ := hp2
            split at hp2
            · exact ⟨_, _, _, _, none, _, _, _, rfl, h3, l0.sub _ _ h4, (fun _ z => nomatch z), upd_same, i2, i3 _ _ _ h1 h2, Pst.now (d := D.bl _) hp2 l0.sub (.bl _)⟩
            · exact hp2.elim
          | @exv1 a B C dd k f y v h1 h2 h3 h4 h5 h6 r =>
            have hp2 : PstD X.K X.mg Hi (upd H1 tp (.tup (As.map V.ref))) (if (ks.all fun c => (exFld c).isSome) then .ok (.bl (ks.any fun c => decide (k = c))) else .stuck) Q _ := hp2
            split at hp2
            · exact ⟨_, _, _, _, some _, _, _, _, rfl, h3, l0.sub _ _ h5, (fun _ z => by cases z; exact ⟨_, l0.sub _ _ h6⟩), upd_same, i2, i3 _ _ _ h1 h2, Pst.now (d := D.bl _) hp2 l0.sub (.bl _)⟩
            · exact hp2.elim
          | _ => exact hp2.elim
    | [], h3 => cases h3
    | [_], h3 => cases h3
    | _ :: _ :: _ :: _, h3 => cases h3
theorem ok_fld {a : E} (f : Str) (ha : EOk C cs kk a) : EOk C cs kk (.fld a f) := fun X W e hX tk h => by
  rw [chk] at h
  cases q : xAttr e with
  | none => rw [q] at h; cases h
  | some u =>
    obtain ⟨o, g⟩ := u
    rw [q] at h
    obtain ⟨p, rfl⟩ := xAttr_s q
    simp only [Bool.and_eq_true, decide_eq_true_eq] at h
    obtain ⟨⟨rfl, h1⟩, h2⟩ := h
    cases z : xName o with
    | none => rw [z] at h1; cases h1
    | some x =>
      obtain ⟨px, rfl⟩ := xName_s z
      refine sb_plain ?_ fun _ => rfl
      have e : ev (fnsOf cs) (.fld a g) = fun ρ => (do
        let x ← ev (fnsOf cs) a ρ
        D.fld g x) := by funext ρ; rw [ev]
      rw [e]
      refine PE.imp (pe_xk (ha X W (.Name x px) hX tk h2).1 rfl) fun σ H Q ⟨ρ, Hs, he, hr, hp⟩ => ⟨ρ, Hs, he, hr, hp.bind fun d _ v Hi H1 l rv hp1 => ?_⟩
      cases rv with
      | exv1 h1 h2 h3 h4 h5 h6 r =>
        have hp1 : PstD X.K X.mg Hi H1 (if _ then _ else _) Q _ := hp1
        split at hp1
        · rename_i hf
          rw [h1] at hf
          cases hf
          exact ⟨_, _, _, _, _, rfl, h3, h4, l.sub _ _ h5, l.sub _ _ h6, hp1.now l.sub r⟩
        · exact hp1.elim
      | _ => exact hp1.elim
theorem ok_minD {a : E} (ha : EOk C cs kk a) : EOk C cs kk (.minD a) := fun X W e hX tk h => by
  rw [chk] at h
  cases q : xCallK e with
  | none => rw [q] at h; cases h
  | some u =>
    obtain ⟨x, xs, n, d⟩ := u
    rw [q] at h
    obtain ⟨p, pos, r, rfl⟩ := xCallK_s q
    simp only [Bool.and_eq_true, decide_eq_true_eq] at h
    obtain ⟨⟨⟨⟨⟨rfl, h1⟩, h2⟩, rfl⟩, h4⟩, h3⟩ := h
    cases q2 : xConst d with
    | none => rw [q2] at h4; cases h4
    | some c =>
      rw [q2] at h4
      obtain ⟨j, p2, rfl⟩ := xConst_s q2
      cases c with
      | none =>
        match xs, h3 with
        | [y], h3 =>
          simp only [Bool.and_eq_true] at h3
          refine sb_plain ?_ fun _ => rfl
          have e : ev (fnsOf cs) (.minD a) = fun ρ => (do
            let x ← ev (fnsOf cs) a ρ
            D.minD x) := by funext ρ; rw [ev]
          rw [e]
          exact se_minD hX.calm hX.units h2 (glob_free hX h1) h3.1 (ha X W y hX tk h3.2).1
        | [], h3 => cases h3
        | _ :: _ :: _, h3 => cases h3
      | _ => cases h4
theorem ok_lrange1 {a : E} (ha : EOk C cs kk a) : EOk C cs kk (.lrange1 a) := fun X W e hX tk h => by
  rw [chk] at h
  cases q : xCall e with
  | none => rw [q] at h; cases h
  | some u =>
    obtain ⟨x, xs⟩ := u
    rw [q] at h
    obtain ⟨p, pos, rfl⟩ := xCall_s q
    simp only [Bool.and_eq_true, decide_eq_true_eq] at h
    obtain ⟨⟨⟨rfl, h1⟩, h2⟩, h3⟩ := h
    match xs, h3 with
    | [y], h3 =>
      cases q2 : xCall y with
      | none => simp only [q2] at h3; cases h3
      | some u =>
        obtain ⟨x2, ys⟩ := u
        simp only [q2, Bool.and_eq_true, decide_eq_true_eq] at h3
        obtain ⟨p2, pos2, rfl⟩ := xCall_s q2
        obtain ⟨⟨⟨rfl, h4⟩, h5⟩, h6⟩ := h3
        match ys, h6 with
        | [z], h6 =>
          simp only [Bool.and_eq_true] at h6
          refine sb_plain ?_ fun _ => rfl
          have e : ev (fnsOf cs) (.lrange1 a) = fun ρ => (do
            let x ← ev (fnsOf cs) a ρ
            let l ← D.rangeOf [x]
            if l.length ≤ 16777216 then .ok (.lst l) else .stuck) := by funext ρ; rw [ev]
          rw [e]
          exact se_lrange1 hX.calm h2 (glob_free hX h1) h5 (glob_free hX h4) h6.1 (ha X W z hX tk h6.2).1
        | [], h6 => cases h6
        | _ :: _ :: _, h6 => cases h6
    | [], h3 => cases h3
    | _ :: _ :: _, h3 => cases h3
theorem ok_slk {a k : E} (ha : EOk C cs kk a) (hk : EOk C cs kk k) : EOk C cs kk (.slk a k) := fun X W e hX tk h => by
  rw [chk] at h
  cases q : xStep e with
  | none => rw [q] at h; cases h
  | some u =>
    obtain ⟨x, y⟩ := u
    rw [q] at h
    obtain ⟨p, pos, rfl⟩ := xStep_s q
    simp only [Bool.and_eq_true] at h
    refine sb_plain ?_ fun _ => rfl
    have e : ev (fnsOf cs) (.slk a k) = fun ρ => (do
      let x ← ev (fnsOf cs) a ρ
      let y ← ev (fnsOf cs) k ρ
      D.slk x y) := by funext ρ; rw [ev]
    rw [e]
    exact se_slk (ha X W x hX tk h.1).1 (hk X W y hX tk h.2).1
theorem ok_idx {a b : E} (ha : EOk C cs kk a) (hb : EOk C cs kk b) : EOk C cs kk (.idx a b) := fun X W e hX tk h => by
  rw [chk] at h
  cases q : xMeth e with
  | none => rw [q] at h; cases h
  | some u =>
    obtain ⟨o, n, xs, l⟩ := u
    rw [q] at h
    obtain ⟨ap, cp, rfl, hl⟩ := xMeth_s q
    simp only [Bool.and_eq_true, decide_eq_true_eq] at h
    obtain ⟨⟨⟨⟨rfl, h1⟩, h2⟩, h3⟩, h4⟩ := h
    cases z : xName o with
    | none => rw [z] at h2; cases h2
    | some x =>
      obtain ⟨px, rfl⟩ := xName_s z
      match xs, h4 with
      | [], h4 => cases h4
      | _ :: _ :: _, h4 => cases h4
      | [y], h4 =>
        simp only [Bool.and_eq_true] at h4
        refine sb_plain ?_ fun _ => rfl
        have e : ev (fnsOf cs) (.idx a b) = fun ρ => (do
          let x ← ev (fnsOf cs) a ρ
          if x.isL then do
            let y ← ev (fnsOf cs) b ρ
            D.idx x y
          else .stuck) := by funext ρ; rw [ev]
        rw [e]
        exact se_idx (ha X W (.Name x px) hX tk h3).1 (hb X W y hX tk h4.2).1 (by rw [← hl]; exact h1) h4.1
theorem ok_dic0 : EOk C cs kk .dic0 := fun X W e hX tk h => by
  rw [chk] at h
  obtain ⟨p, rfl⟩ := xDic_s h
  refine sb_plain ?_ fun _ => rfl
  have e : ev (fnsOf cs) .dic0 = fun _ => .ok .dic := by funext ρ; rw [ev]
  rw [e]
  exact se_dic0
theorem ok_lset {a : E} (ha : EOk C cs kk a) : EOk C cs kk (.lset a) := fun X W e hX tk h => by
  rw [chk] at h
  cases q : xCall e with
  | none => rw [q] at h; cases h
  | some u =>
    obtain ⟨x, xs⟩ := u
    rw [q] at h
    obtain ⟨p, pos, rfl⟩ := xCall_s q
    simp only [Bool.and_eq_true, decide_eq_true_eq] at h
    obtain ⟨⟨⟨rfl, h1⟩, h2⟩, h3⟩ := h
    match xs, h3 with
    | [y], h3 =>
      cases q2 : xCall y with
      | none => simp only [q2] at h3; cases h3
      | some u =>
        obtain ⟨x2, ys⟩ := u
        simp only [q2, Bool.and_eq_true, decide_eq_true_eq] at h3
        obtain ⟨p2, pos2, rfl⟩ := xCall_s q2
        obtain ⟨⟨⟨rfl, h4⟩, h5⟩, h6⟩ := h3
        match ys, h6 with
        | [z], h6 =>
          simp only [Bool.and_eq_true] at h6
          refine sb_plain ?_ fun _ => rfl
          have e : ev (fnsOf cs) (.lset a) = fun ρ => (do
            let x ← ev (fnsOf cs) a ρ
            D.lset x) := by funext ρ; rw [ev]
          rw [e]
          exact se_lset hX.calm h2 (glob_free hX h1) h5 (glob_free hX h4) h6.1 (ha X W z hX tk h6.2).1
        | [], h6 => cases h6
        | _ :: _ :: _, h6 => cases h6
    | [], h3 => cases h3
    | _ :: _ :: _, h3 => cases h3
theorem ok_sset {a : E} (ha : EOk C cs kk a) : EOk C cs kk (.sset a) := fun X W e hX tk h => by
  rw [chk] at h
  cases q : xCall e with
  | none => rw [q] at h; cases h
  | some u =>
    obtain ⟨x, xs⟩ := u
    rw [q] at h
    obtain ⟨p, pos, rfl⟩ := xCall_s q
    simp only [Bool.and_eq_true, decide_eq_true_eq] at h
    obtain ⟨⟨⟨rfl, h1⟩, h2⟩, h3⟩ := h
    match xs, h3 with
    | [y], h3 =>
      cases q2 : xCall y with
      | none => simp only [q2] at h3; cases h3
      | some u =>
        obtain ⟨x2, ys⟩ := u
        simp only [q2, Bool.and_eq_true, decide_eq_true_eq] at h3
        obtain ⟨p2, pos2, rfl⟩ := xCall_s q2
        obtain ⟨⟨⟨rfl, h4⟩, h5⟩, h6⟩ := h3
        match ys, h6 with
        | [z], h6 =>
          simp only [Bool.and_eq_true] at h6
          refine sb_plain ?_ fun _ => rfl
          have e : ev (fnsOf cs) (.sset a) = fun ρ => (do
            let x ← ev (fnsOf cs) a ρ
            D.sset x) := by funext ρ; rw [ev]
          rw [e]
          exact se_sset hX.calm hX.units h2 (glob_free hX h1) h5 (glob_free hX h4) h6.1 (ha X W z hX tk h6.2).1
        | [], h6 => cases h6
        | _ :: _ :: _, h6 => cases h6
    | [], h3 => cases h3
    | _ :: _ :: _, h3 => cases h3
theorem ok_lrange2 {a b : E} (ha : EOk C cs kk a) (hb : EOk C cs kk b) : EOk C cs kk (.lrange2 a b) := fun X W e hX tk h => by
  rw [chk] at h
  cases q : xCall e with
  | none => rw [q] at h; cases h
  | some u =>
    obtain ⟨x, xs⟩ := u
    rw [q] at h
    obtain ⟨p, pos, rfl⟩ := xCall_s q
    simp only [Bool.and_eq_true, decide_eq_true_eq] at h
    obtain ⟨⟨⟨rfl, h1⟩, h2⟩, h3⟩ := h
    match xs, h3 with
    | [y], h3 =>
      cases q2 : xCall y with
      | none => simp only [q2] at h3; cases h3
      | some u =>
        obtain ⟨x2, ys⟩ := u
        simp only [q2, Bool.and_eq_true, decide_eq_true_eq] at h3
        obtain ⟨p2, pos2, rfl⟩ := xCall_s q2
        obtain ⟨⟨⟨rfl, h4⟩, h5⟩, h6⟩ := h3
        match ys, h6 with
        | [z, z2], h6 =>
          simp only [Bool.and_eq_true] at h6
          obtain ⟨⟨⟨h7, h8⟩, h9⟩, h10⟩ := h6
          refine sb_plain ?_ fun _ => rfl
          have e : ev (fnsOf cs) (.lrange2 a b) = fun ρ => (do
            let x ← ev (fnsOf cs) a ρ
            let y ← ev (fnsOf cs) b ρ
            let l ← D.rangeOf [x, y]
            if l.length ≤ 16777216 then .ok (.lst l) else .stuck) := by funext ρ; rw [ev]
          rw [e]
          exact se_lrange2 hX.calm h2 (glob_free hX h1) h5 (glob_free hX h4) h7 h8 (ha X W z hX tk h9).1 (hb X W z2 hX tk h10).1
        | [], h6 => cases h6
        | [_], h6 => cases h6
        | _ :: _ :: _ :: _, h6 => cases h6
    | [], h3 => cases h3
    | _ :: _ :: _, h3 => cases h3
theorem blk_fn {X : Cx} {s : Shared} {H : Hp} {raw : Scope} {env : PySem.Env} {fp : List Addr} : ∀ x, raw.names.lookup x = some .cell → (X.blk s H raw env fp).fn x = true := fun x h => by
  show (raw.names.lookup x == some .cell) = true
  rw [h]
  rfl
theorem ok_lc (t : Tgt) {it : It} {ifs : Es} {el : E} (hi : ItOk C cs kk it) (hf : EsOk C cs kk ifs) (he : EOk C cs kk el) : EOk C cs kk (.lc t it ifs el) := fun X W e hX tk h => by
  rw [chk] at h
  cases q : xLc e with
  | none => rw [q] at h; cases h
  | some u =>
    obtain ⟨x, tg, i, fs, raw⟩ := u
    rw [q] at h
    obtain ⟨pos, rfl⟩ := xLc_s q
    simp only [Bool.and_eq_true, decide_eq_true_eq] at h
    obtain ⟨⟨⟨⟨⟨⟨⟨h1, h2⟩, h3⟩, h4⟩, h5⟩, h6⟩, h7⟩, h8⟩ := h
    refine sb_plain ?_ fun _ => rfl
    have e : ev (fnsOf cs) (.lc t it ifs el) = fun ρ => (do
      let xs ← evIt (fnsOf cs) it ρ
      if xs.length ≤ 16777215 then do
        let l ← lcGo (lcF (evTests (fnsOf cs) ifs) (ev (fnsOf cs) el) t ρ) xs
        .ok (.lst l)
      else .stuck) := by
      funext ρ
      rw [ev]
      rfl
    rw [e]
    obtain ⟨i1, i2⟩ := hi X W tg i hX tk h2 fun a b z => by
      subst z
      cases t with
      | nm i => cases h3
      | tp is =>
        have h4 : (match xTup tg with | some es => chkNames C.N (relS raw X.env.scope) raw is es | none => false) = true := h4
        cases q3 : xTup tg with
        | none => rw [q3] at h4; cases h4
        | some ks =>
          obtain ⟨k, p, rfl⟩ := xTup_s q3
          exact ⟨_, _, _, rfl⟩
    refine PE.imp (pe_lc (own := ownOf C.N t) (g := gOf X.K t) (tt := tDB X.K X.mg WN (evTests (fnsOf cs) ifs)) (te := tD X.K X.mg WN (ev (fnsOf cs) el)) hX.calm (by rw [hX.names]; exact hX.nd) i1 (blkOk_by (by rw [hX.names]; exact h1)) (fun s H C' cl fp => ?_) (fun s H C' cl fp => ?_) (fun s H C' cl fp => ?_) (folded_ok i2)) fun σ H Q hh => ?_
    · exact pg_of (X := X.blk s H raw (compEnvC raw cl C' X.env) fp) hX.calm (by exact hX.names) hX.nd rfl blk_fn h4
    · exact hf.tests (X.blk s H raw (compEnvC raw cl C' X.env) fp) WN fs hX.blk takes0 h5
    · exact (he (X.blk s H raw (compEnvC raw cl C' X.env) fp) WN x hX.blk takes0 h6).1
    · rw [h7]
      exact lc_imp h8 hh
theorem oks_nil : EsOk C cs kk .nil where
  args := fun X W xs hX tk h => by
    rw [chks] at h
    have e : xs = [] := by simpa using h
    subst e
    refine ⟨?_, by simp, rfl, fun h => absurd rfl h⟩
    have e : evs (fnsOf cs) .nil = fun _ => .ok [] := by funext ρ; rw [evs]
    rw [e]
    exact sa_nil
  part := fun X W o hX tk h => by
    rw [chkPart] at h
    have e : o = none := by simpa using h
    subst e
    have e : evPart (fnsOf cs) .nil = fun _ => .ok none := by funext ρ; rw [evPart]
    rw [e]
    exact so_none
  tests := fun X W xs hX tk h => by
    rw [chkTests] at h
    have e : xs = [] := by simpa using h
    subst e
    have e : evTests (fnsOf cs) .nil = fun _ => .ok true := by funext ρ; rw [evTests]
    rw [e]
    exact ⟨fun pins s σ H Q I ⟨ρ, Hs, he, hr, hp⟩ => pts_nil.run pins s σ H Q I (Pst.now (d := true) hp he rfl)⟩
theorem oks_cons {a : E} {as : Es} (ha : EOk C cs kk a) (hs : EsOk C cs kk as) : EsOk C cs kk (.cons a as) where
  args := fun X W xs hX tk h => by
    cases xs with
    | nil => rw [chks] at h; cases h
    | cons x xs =>
      rw [chks] at h
      simp only [Bool.and_eq_true] at h
      obtain ⟨⟨h1, h2⟩, h3⟩ := h
      obtain ⟨a1, a2⟩ := ha X W x hX tk h2
      obtain ⟨b1, b2, b3, b4⟩ := hs.args X W xs hX tk h3
      have e : evs (fnsOf cs) (.cons a as) = fun ρ => (do
        let x ← ev (fnsOf cs) a ρ
        let xs ← evs (fnsOf cs) as ρ
        .ok (x :: xs)) := by funext ρ; rw [evs]
      refine ⟨by rw [e]; exact sa_cons h1 a1 b1, fun y hy => ?_, congrArg (· + 1) b3, fun _ pos => ?_⟩
      · rcases List.mem_cons.mp hy with rfl | hy
        · exact h1
        · exact b2 y hy
      · cases as with
        | nil =>
          have e0 : xs = [] := List.eq_nil_of_length_eq_zero b3
          subst e0
          have e1 : evAnd (fnsOf cs) (.cons a .nil) = ev (fnsOf cs) a := by funext ρ; rw [evAnd]
          have e2 : evOr (fnsOf cs) (.cons a .nil) = ev (fnsOf cs) a := by funext ρ; rw [evOr]
          rw [e1, e2]
          exact ⟨se_and1 a1, se_or1 a1, sw_and1 a2, sw_or1 a2⟩
        | cons a' as' =>
          cases xs with
          | nil => cases b3
          | cons y ys =>
            obtain ⟨c1, c2, c3, c4⟩ := b4 (by show as'.len + 1 ≠ 0; omega) pos
            have e1 : evAnd (fnsOf cs) (.cons a (.cons a' as')) = fun ρ => (do
              let x ← ev (fnsOf cs) a ρ
              let k ← D.truth x
              if k then evAnd (fnsOf cs) (.cons a' as') ρ else .ok x) := by funext ρ; rw [evAnd]
            have e2 : evOr (fnsOf cs) (.cons a (.cons a' as')) = fun ρ => (do
              let x ← ev (fnsOf cs) a ρ
              let k ← D.truth x
              if k then .ok x else evOr (fnsOf cs) (.cons a' as') ρ) := by funext ρ; rw [evOr]
            rw [e1, e2]
            exact ⟨se_and a1 c1, se_or a1 c2, sw_and a2 c3, sw_or a2 c4⟩
  part := fun X W o hX tk h => by
    cases as with
    | cons _ _ => simp [chkPart] at h
    | nil =>
      cases o with
      | none => simp [chkPart] at h
      | some x =>
        have h : chk C X.env.scope a x = true := by simpa [chkPart] using h
        have e : evPart (fnsOf cs) (.cons a .nil) = fun ρ => (do
          let x ← ev (fnsOf cs) a ρ
          D.asI x) := by funext ρ; rw [evPart]
        rw [e]
        exact so_some (ha X W x hX tk h).1
  tests := fun X W xs hX tk h => by
    match as, xs, h with
    | .nil, [x], h =>
      have h : chk C X.env.scope a x = true := by simpa [chkTests] using h
      have e : evTests (fnsOf cs) (.cons a .nil) = fun ρ => ev (fnsOf cs) a ρ >>= D.truth := by funext ρ; rw [evTests]
      rw [e]
      exact pts_one (ha X W x hX tk h).2
    | .nil, [], h => simp [chkTests] at h
    | .nil, _ :: _ :: _, h => simp [chkTests] at h
    | .cons _ _, _, h => simp [chkTests] at h
theorem oki_val {a : E} (ha : EOk C cs kk a) : ItOk C cs kk (.val a) := fun X W tg e hX tk h hz => by
  rw [chkIt] at h
  simp only [Bool.and_eq_true] at h
  refine ⟨?_, h.1⟩
  have e : evIt (fnsOf cs) (.val a) = fun ρ => (do
    let x ← ev (fnsOf cs) a ρ
    D.items x) := by funext ρ; rw [evIt]
  rw [e]
  exact si_val (ha X W _ hX tk h.2).1
theorem oki_range {es : Es} (hs : EsOk C cs kk es) : ItOk C cs kk (.range es) := fun X W tg e hX tk h hz => by
  rw [chkIt] at h
  cases q : xCall e with
  | none => rw [q] at h; cases h
  | some u =>
    obtain ⟨x, xs⟩ := u
    rw [q] at h
    obtain ⟨p, pos, rfl⟩ := xCall_s q
    simp only [Bool.and_eq_true, decide_eq_true_eq] at h
    obtain ⟨⟨⟨⟨rfl, h1⟩, h2⟩, h3⟩, h4⟩ := h
    refine ⟨?_, rfl⟩
    obtain ⟨a1, a2, a3, _⟩ := hs.args X W xs hX tk h4
    have e : evIt (fnsOf cs) (.range es) = fun ρ => (do
      let xs ← evs (fnsOf cs) es ρ
      D.rangeOf xs) := by funext ρ; rw [evIt]
    rw [e]
    match xs, a1, a2, a3 with
    | [y], a1, a2, a3 => exact si_range1 h2 (glob_free hX h1) (a2 y (by simp)) a1 fun ρ ds q => by rw [evs_len q, ← a3]; rfl
    | [y, z], a1, a2, a3 => exact si_range2 h2 (glob_free hX h1) (a2 y (by simp)) (a2 z (by simp)) a1 fun ρ ds q => by rw [evs_len q, ← a3]; rfl
    | [], a1, a2, a3 => rcases h3 with h3 | h3 <;> (rw [← a3] at h3; cases h3)
    | _ :: _ :: _ :: _, a1, a2, a3 => rcases h3 with h3 | h3 <;> (rw [← a3] at h3; simp at h3)
theorem oki_range3 {es : Es} (hs : EsOk C cs kk es) : ItOk C cs kk (.range3 es) := fun X W tg e hX tk h hz => by
  rw [chkIt] at h
  cases q : xCall e with
  | none => rw [q] at h; cases h
  | some u =>
    obtain ⟨x, xs⟩ := u
    rw [q] at h
    obtain ⟨p, pos, rfl⟩ := xCall_s q
    simp only [Bool.and_eq_true, decide_eq_true_eq] at h
    obtain ⟨⟨⟨⟨rfl, h1⟩, h2⟩, h3⟩, h4⟩ := h
    refine ⟨?_, rfl⟩
    obtain ⟨a1, a2, a3, _⟩ := hs.args X W xs hX tk h4
    have e : evIt (fnsOf cs) (.range3 es) = fun ρ => (do
      let xs ← evs (fnsOf cs) es ρ
      D.range3 xs) := by funext ρ; rw [evIt]
    rw [e]
    match xs, a1, a2, a3 with
    | [y, z, u], a1, a2, a3 => exact si_range3 h2 (glob_free hX h1) a2 a1
    | [], a1, a2, a3 => rw [← a3] at h3; cases h3
    | [_], a1, a2, a3 => rw [← a3] at h3; cases h3
    | [_, _], a1, a2, a3 => rw [← a3] at h3; cases h3
    | _ :: _ :: _ :: _ :: _, a1, a2, a3 => rw [← a3] at h3; simp at h3
theorem oki_zip {a b : E} (ha : EOk C cs kk a) (hb : EOk C cs kk b) : ItOk C cs kk (.zip a b) := fun X W tg e hX tk h hz => by
  rw [chkIt] at h
  obtain ⟨ks, k, tp, rfl⟩ := hz a b rfl
  cases q : xCall e with
  | none => rw [q] at h; cases h
  | some u =>
    obtain ⟨x, xs⟩ := u
    rw [q] at h
    obtain ⟨p, pos, rfl⟩ := xCall_s q
    simp only [Bool.and_eq_true, decide_eq_true_eq] at h
    obtain ⟨⟨⟨rfl, h1⟩, h2⟩, h3⟩ := h
    refine ⟨?_, rfl⟩
    have e : evIt (fnsOf cs) (.zip a b) = fun ρ => (do
      let x ← ev (fnsOf cs) a ρ
      let y ← ev (fnsOf cs) b ρ
      D.zipOf x y) := by funext ρ; rw [evIt]
    rw [e]
    match xs, h3 with
    | [y, z], h3 =>
      simp only [Bool.and_eq_true] at h3
      obtain ⟨⟨⟨h4, h5⟩, h6⟩, h7⟩ := h3
      exact si_zip h2 (glob_free hX h1) h4 h5 (ha X W y hX tk h6).1 (hb X W z hX tk h7).1
    | [], h3 => cases h3
    | [_], h3 => cases h3
    | _ :: _ :: _ :: _, h3 => cases h3
mutual
theorem ok_E : ∀ a : E, EOk C cs kk a
  | .var i => ok_var i
  | .cst c => ok_cst c
  | .glo x c => ok_glo x c
  | .bin o a b => ok_bin o (ok_E a) (ok_E b)
  | .neg a => ok_neg (ok_E a)
  | .cmp o a b => ok_cmp o (ok_E a) (ok_E b)
  | .isn no a => ok_isn no (ok_E a)
  | .isb no a b => ok_isb no b (ok_E a)
  | .chain o1 o2 a b c => ok_chain o1 o2 (ok_E a) (ok_E b) (ok_E c)
  | .and es => ok_and (ok_Es es)
  | .or es => ok_or (ok_Es es)
  | .not a => ok_not (ok_E a)
  | .tup es => ok_tup (ok_Es es)
  | .lst es => ok_lst (ok_Es es)
  | .ix a b => ok_ix (ok_E a) (ok_E b)
  | .sl a lo hi => ok_sl (ok_E a) (ok_Es lo) (ok_Es hi)
  | .call k es => ok_call k (ok_Es es)
  | .bi b es => ok_bi b (ok_Es es)
  | .isi a t => ok_isi t (ok_E a)
  | .minD a => ok_minD (ok_E a)
  | .lrange1 a => ok_lrange1 (ok_E a)
  | .lrange2 a b => ok_lrange2 (ok_E a) (ok_E b)
  | .sset a => ok_sset (ok_E a)
  | .slk a k => ok_slk (ok_E a) (ok_E k)
  | .idx a b => ok_idx (ok_E a) (ok_E b)
  | .lc t it ifs e => ok_lc t (ok_It it) (ok_Es ifs) (ok_E e)
  | .isx a c => ok_isx c (ok_E a)
  | .fld a f => ok_fld f (ok_E a)
  | .isxs a cs => ok_isxs cs (ok_E a)
  | .dic0 => ok_dic0
  | .lset a => ok_lset (ok_E a)
theorem ok_Es : ∀ es : Es, EsOk C cs kk es
  | .nil => oks_nil
  | .cons e es => oks_cons (ok_E e) (ok_Es es)
theorem ok_It : ∀ it : It, ItOk C cs kk it
  | .val a => oki_val (ok_E a)
  | .range es => oki_range (ok_Es es)
  | .zip a b => oki_zip (ok_E a) (ok_E b)
  | .range3 es => oki_range3 (ok_Es es)
end
end
end Py

namespace Py
open PySem PySem.Spec PyProof.Rows L2

/-! ## the small syntax of statements -/
inductive O where
  | disp (es : Es) | listOf (a : E) | add (a b : E) | lc (t : Tgt) (it : It) (ifs : Es) (e : E) | call (k : Nat) (es : Es) | lrange1 (a : E)
mutual
inductive S where
  | asg (cl : Bool) (t : Tgt) (e : E)
  | own (cl : Bool) (i : Nat) (o : O)
  | app (cl : Bool) (i : Nat) (e : E)
  | ext (cl : Bool) (i : Nat) (e : E)
  | put (cl : Bool) (i : Nat) (j e : E)
  | ex (e : E)
  | ite (c : E) (a b : Ss)
  | whl (n : Nat) (c : E) (b : Ss)
  | for_ (cl : Bool) (t : Tgt) (it : It) (b : Ss)
  | ret (e : E)
  | retN
  | pass
  | brk
  | cont
  | nev
  | clr (i : Nat)
  | pop (i : Nat)
  | exC (e : E)
  | retC (e : E)
  | rse (cl : Bool) (c : Str) (e : E)
  | rs0 (c : Str)
  | tryx (i j : Nat) (b : Ss)
  | forC (t : Tgt) (k : Nat) (es : Es) (b : Ss)
  | apop (i j : Nat) (e : E)
  | unset (i : Nat)
  | rev (i : Nat)
inductive Ss where
  | nil
  | cons (s : S) (ss : Ss)
end

/-! ## what it does -/
inductive Fl where
  | nx (ρ : Env) | rt (d : D) | bk (ρ : Env) | ct (ρ : Env) | xc (x : XD) (ρ : Env)
def XD.lf (x : XD) : Bool := match x.fld with
  | none => true
  | some (_, d) => d.lf
def mask (M : List Nat) (ρ : Env) : Env := M.foldl (fun ρ i => ρ.set i none) ρ
def view (M : List Nat) (cl : Bool) (ρ : Env) : Env := if cl then mask M ρ else ρ
def lift {α : Type} (cl : Bool) (l : α → Bool) (r : R α) (ρ : Env) (k : α → R Fl) : R Fl := match r with
  | .ok a => if cl || l a then k a else .stuck
  | .exc x => if cl || x.lf then .ok (.xc x ρ) else .stuck
  | .stuck => .stuck
def bindT (t : Tgt) (d : D) (ρ : Env) (k : Env → R Fl) : R Fl := match t.bind d ρ with
  | .ok ρ' => k ρ'
  | _ => .stuck
def ownRes : D → R D
  | .lst xs => if D.lfs xs then .ok (.lst xs) else .stuck
  | _ => .stuck
def O.f (Φ : Fns) : O → Env → R D
  | .disp es, ρ => do
    let xs ← evs Φ es ρ
    .ok (.lst xs)
  | .listOf a, ρ => do
    let x ← ev Φ a ρ
    D.listOf x
  | .add a b, ρ => do
    let x ← ev Φ a ρ
    let y ← ev Φ b ρ
    match x, y with
    | .lst xs, .lst ys => if xs.length + ys.length ≤ 16777216 then .ok (.lst (xs ++ ys)) else .stuck
    | _, _ => .stuck
  | .lc t it ifs e, ρ => do
    let xs ← evIt Φ it ρ
    if xs.length ≤ 16777215 then do
      let l ← lcGo (lcF (evTests Φ ifs) (ev Φ e) t ρ) xs
      .ok (.lst l)
    else .stuck
  | .call k es, ρ => do
    let xs ← evs Φ es ρ
    if D.lfs xs then (match Φ[k]? with
      | some (n, g) => if xs.length = n then g xs >>= ownRes else .stuck
      | none => .stuck) else .stuck
  | .lrange1 a, ρ => do
    let x ← ev Φ a ρ
    let l ← D.rangeOf [x]
    if l.length ≤ 16777216 then .ok (.lst l) else .stuck
def D.lfItems : D → Bool
  | .lst xs => D.lfs xs
  | _ => false
def appD (i : Nat) (d : D) (ρ : Env) : R Fl := match ρ[i]? with
  | some (some (.lst xs)) => if xs.length < 16777216 then .ok (.nx (ρ.set i (some (.lst (xs ++ [d]))))) else .stuck
  | _ => .stuck
def extD (i : Nat) (d : D) (ρ : Env) : R Fl := match ρ[i]?, d with
  | some (some (.lst xs)), .lst ys => if xs.length + ys.length ≤ 16777216 then .ok (.nx (ρ.set i (some (.lst (xs ++ ys))))) else .stuck
  | _, _ => .stuck
def putD (i : Nat) (j d : D) (ρ : Env) : R Fl := match ρ[i]?, j with
  | some (some (.lst xs)), .int k => match ixN xs.length k with
    | some n => .ok (.nx (ρ.set i (some (.lst (xs.set n d)))))
    | none => .stuck
  | _, _ => .stuck
def popD (i : Nat) (ρ : Env) : R Fl := match ρ[i]? with
  | some (some (.lst xs)) => if xs.isEmpty then .stuck else .ok (.nx (ρ.set i (some (.lst xs.dropLast))))
  | _ => .stuck
def apopD (i j : Nat) (d : D) (ρ : Env) : R Fl := match ρ[i]?, ρ[j]?, d with
  | some (some (.lst xs)), some (some (.lst ys)), .int k => (match seqIndex? k ys.length with
    | some n => (match ys[n]? with
      | some y => if xs.length < 16777216 ∧ -1000000 ≤ k ∧ k ≤ 1000000 then .ok (.nx ((ρ.set j (some (.lst (ys.eraseIdx n)))).set i (some (.lst (xs ++ [y]))))) else .stuck
      | none => .stuck)
    | none => .stuck)
  | _, _, _ => .stuck
def revD (i : Nat) (ρ : Env) : R Fl := match ρ[i]? with
  | some (some (.lst xs)) => .ok (.nx (ρ.set i (some (.lst xs.reverse))))
  | _ => .stuck
/-- the items of the new list that a call gives -/
def callC (Φ : Fns) (k : Nat) (es : Es) (ρ : Env) : R (List D) := evs Φ es ρ >>= fun xs => if D.lfs xs then (match Φ[k]? with
  | some (n, g) => if xs.length = n then (match g xs with
    | .ok (.lst l) => if D.lfs l then .ok l else .stuck
    | _ => .stuck) else .stuck
  | none => .stuck) else .stuck
/-- a caught exception as a thing -/
def excD (x : XD) : Option D := match exFld x.cls with
  | some none => (match x.fld with
    | none => some (.exv x.cls [])
    | some _ => none)
  | some (some f) => (match x.fld with
    | some (g, y) => if f = g then some (.exv x.cls [y]) else none
    | none => none)
  | none => none
def rseD (c : Str) (d : D) (ρ : Env) : R Fl := match exFld c with
  | some (some f) => .ok (.xc ⟨c, some (f, d)⟩ ρ)
  | _ => .stuck
def rs0D (c : Str) (ρ : Env) : R Fl := match exFld c with
  | some none => .ok (.xc ⟨c, none⟩ ρ)
  | _ => .stuck
def catchD (i j : Nat) (r : R Fl) : R Fl := match r with
  | .ok (.xc x ρ) => (match excD x with
    | some d => .ok (.nx ((ρ.set i none).set j (some d)))
    | none => .stuck)
  | r => r
def haveL (i : Nat) (ρ : Env) (k : R Fl) : R Fl := match ρ[i]? with
  | some (some (.lst _)) => k
  | _ => .stuck
def whileN (c : Env → R Bool) (body : Env → R Fl) : Nat → Env → R Fl
  | 0, _ => .stuck
  | n + 1, ρ => lift false (fun _ => true) (c ρ) ρ fun k => if k then (match body ρ with
    | .ok (.nx ρ') => whileN c body n ρ'
    | .ok (.ct ρ') => whileN c body n ρ'
    | .ok (.bk ρ') => .ok (.nx ρ')
    | r => r) else .ok (.nx ρ)
def forGo (t : Tgt) (body : Env → R Fl) : List D → Env → R Fl
  | [], ρ => .ok (.nx ρ)
  | d :: ds, ρ => bindT t d ρ fun ρ1 => match body ρ1 with
    | .ok (.nx ρ') => forGo t body ds ρ'
    | .ok (.ct ρ') => forGo t body ds ρ'
    | .ok (.bk ρ') => .ok (.nx ρ')
    | r => r
def tst (Φ : Fns) (c : E) (ρ : Env) : R Bool := ev Φ c ρ >>= D.truth
mutual
def exec (Φ : Fns) (M : List Nat) : S → Env → R Fl
  | .asg cl t e, ρ => lift cl D.lf (ev Φ e (view M cl ρ)) ρ fun d => bindT t d ρ fun ρ' => .ok (.nx ρ')
  | .own cl i o, ρ => lift cl D.lfItems (o.f Φ (view M cl ρ)) ρ fun d => .ok (.nx (ρ.set i (some d)))
  | .app cl i e, ρ => haveL i ρ <| lift cl D.lf (ev Φ e (view M cl ρ)) ρ fun d => appD i d ρ
  | .ext cl i e, ρ => haveL i ρ <| lift cl D.lfItems (ev Φ e (view M cl ρ)) ρ fun d => extD i d ρ
  | .put cl i j e, ρ => haveL i ρ <| lift cl D.lf (ev Φ e (view M cl ρ)) ρ fun d => lift false D.lf (ev Φ j (view M false ρ)) ρ fun k => putD i k d ρ
  | .ex e, ρ => lift false (fun _ => true) (ev Φ e (view M false ρ)) ρ fun _ => .ok (.nx ρ)
  | .ite c a b, ρ => lift false (fun _ => true) (tst Φ c (view M false ρ)) ρ fun k => if k then execs Φ M a ρ else execs Φ M b ρ
  | .whl n c b, ρ => whileN (fun ρ => tst Φ c (view M false ρ)) (execs Φ M b) n ρ
  | .for_ cl t it b, ρ => lift cl (fun _ => match it with | .range _ => true | _ => false) (evIt Φ it (view M cl ρ)) ρ fun ds => forGo t (execs Φ M b) ds ρ
  | .ret e, ρ => lift false (fun _ => true) (ev Φ e (view M false ρ)) ρ fun d => .ok (.rt d)
  | .retN, _ => .ok (.rt .non)
  | .pass, ρ => .ok (.nx ρ)
  | .brk, ρ => .ok (.bk ρ)
  | .cont, ρ => .ok (.ct ρ)
  | .nev, _ => .stuck
  | .clr i, ρ => haveL i ρ (.ok (.nx (ρ.set i (some (.lst [])))))
  | .pop i, ρ => popD i ρ
  | .exC e, ρ => lift true D.lf (ev Φ e (view M true ρ)) ρ fun _ => .ok (.nx ρ)
  | .retC e, ρ => lift true D.lf (ev Φ e (view M true ρ)) ρ fun d => .ok (.rt d)
  | .rse cl c e, ρ => lift cl D.lf (ev Φ e (view M cl ρ)) ρ fun d => rseD c d ρ
  | .rs0 c, ρ => rs0D c ρ
  | .tryx i j b, ρ => catchD i j (execs Φ M b ρ)
  | .forC t k es b, ρ => lift false (fun _ => true) (callC Φ k es (view M false ρ)) ρ fun ds => forGo t (execs Φ M b) ds ρ
  | .apop i j e, ρ => haveL i ρ <| haveL j ρ <| lift false D.lf (ev Φ e (view M false ρ)) ρ fun d => apopD i j d ρ
  | .unset i, ρ => .ok (.nx (ρ.set i none))
  | .rev i, ρ => revD i ρ
def execs (Φ : Fns) (M : List Nat) : Ss → Env → R Fl
  | .nil, ρ => .ok (.nx ρ)
  | .cons s ss, ρ => match exec Φ M s ρ with
    | .ok (.nx ρ') => execs Φ M ss ρ'
    | r => r
end

/-! ## the invariant of a def's body -/
structure SInv (K : PySem.W.Frag) (M : List Nat) (Hs0 H0 : Hp) (ρ : Env) (Hs : Hp) (σ : L2.St) (H : Hp) : Prop where
  le : Le Hs0 H0 Hs H
  len : ρ.length ≤ σ.length
  sl : ∀ (i : Nat) (d : D), i ∉ M → ρ[i]? = some (some d) → ∃ v, σ[i]? = some (some v) ∧ Rep K Hs d v
  own : ∀ (i : Nat) (d : D), i ∈ M → ρ[i]? = some (some d) → ∃ p xs vs, d = .lst xs ∧ σ[i]? = some (some (.ref p)) ∧ Hs p = none ∧ H0 p = none ∧ H p = some (.lst vs) ∧ Reps K Hs xs vs
  inj : ∀ (i j : Nat) (p : Addr) (d e : D), i ∈ M → j ∈ M → ρ[i]? = some (some d) → ρ[j]? = some (some e) → σ[i]? = some (some (.ref p)) → σ[j]? = some (some (.ref p)) → i = j
theorem mask_get : ∀ (M : List Nat) (ρ : Env) (i : Nat) (d : D), (mask M ρ)[i]? = some (some d) → i ∉ M ∧ ρ[i]? = some (some d)
  | [], ρ, i, d, h => ⟨by simp, h⟩
  | j :: M, ρ, i, d, h => by
    obtain ⟨h1, h2⟩ := mask_get M (ρ.set j none) i d h
    by_cases e : j = i
    · subst e
      by_cases hl : j < ρ.length
      · rw [List.getElem?_set_self hl] at h2
        cases h2
      · rw [List.getElem?_eq_none (by simpa using hl)] at h2
        cases h2
    · rw [List.getElem?_set_ne e] at h2
      exact ⟨by simp [h1, Ne.symm e], h2⟩
theorem mask_len : ∀ (M : List Nat) (ρ : Env), (mask M ρ).length = ρ.length
  | [], ρ => rfl
  | j :: M, ρ => by
    show (mask M (ρ.set j none)).length = _
    rw [mask_len M, List.length_set]
/-- Hj is Hi without lists -/
structure Down (cl : Bool) (Hi Hj : Hp) : Prop where
  sub : Ex Hj Hi
  same : cl = true → Hj = Hi
  keep : ExN Hi Hj
theorem Rep.down {K : PySem.W.Frag} {cl : Bool} {Hi Hj : Hp} {d : D} {v : V} (h : Down cl Hi Hj) (l : (cl || d.lf) = true) (r : Rep K Hi d v) : Rep K Hj d v := by
  cases cl with
  | true => rw [h.same rfl]; exact r
  | false => exact r.drop h.keep (by simpa using l)
theorem Reps.down {K : PySem.W.Frag} {cl : Bool} {Hi Hj : Hp} {d : List D} {v : List V} (h : Down cl Hi Hj) (l : (cl || D.lfs d) = true) (r : Reps K Hi d v) : Reps K Hj d v := by
  cases cl with
  | true => rw [h.same rfl]; exact r
  | false => exact r.drop h.keep (by simpa using l)
section
variable {K : PySem.W.Frag} {mg : Str → Option Value} {M : List Nat} {Hs0 H0 Hs H Hi H' : Hp} {ρ ρ' : Env} {σ : L2.St} {cl : Bool}
theorem SInv.step (I : SInv K M Hs0 H0 ρ Hs σ H) (l : Le Hs H Hi H') : SInv K M Hs0 H0 ρ Hi σ H' := by
  refine ⟨I.le.trans l, I.len, fun i d hi q => ?_, fun i d hi q => ?_, I.inj⟩
  · obtain ⟨v, a, b⟩ := I.sl i d hi q
    exact ⟨v, a, b.mono l.old⟩
  · obtain ⟨p, xs, vs, e, a, b, c, f, g⟩ := I.own i d hi q
    refine ⟨p, xs, vs, e, a, ?_, c, l.ex _ _ f, g.mono l.old⟩
    cases z : Hi p with
    | none => rfl
    | some o =>
      rcases l.new p o z with w | w
      · rw [b] at w; cases w
      · rw [f] at w; cases w
/-- the addresses of the lists that are the def's own -/
def Own (M : List Nat) (ρ : Env) (σ : L2.St) (p : Addr) : Prop := ∃ i d, i ∈ M ∧ ρ[i]? = some (some d) ∧ σ[i]? = some (some (.ref p))
open Classical in
theorem SInv.enter (cl : Bool) (I : SInv K M Hs0 H0 ρ Hs σ H) : ∃ Hb, Ex Hb H ∧ ERel K Hb (view M cl ρ) σ ∧ Le Hs0 H0 Hb H ∧
    ∀ Hi H', Le Hb H Hi H' → ∃ Hj, SInv K M Hs0 H0 ρ Hj σ H' ∧ Down cl Hi Hj := by
  cases cl with
  | true =>
    refine ⟨Hs, I.le.sub, ⟨by show (mask M ρ).length ≤ _; rw [mask_len]; exact I.len, fun i d q => ?_⟩, I.le, fun Hi H' l => ⟨Hi, I.step l, Ex.refl _, fun _ => rfl, fun a o h _ => h⟩⟩
    obtain ⟨h1, h2⟩ := mask_get M ρ i d q
    exact I.sl i d h1 h2
  | false =>
    have own : ∀ p, Own M ρ σ p → Hs p = none ∧ H0 p = none ∧ ∃ vs, H p = some (.lst vs) := fun p ⟨i, d, h1, h2, h3⟩ => by
      obtain ⟨p', xs, vs, e, a, b, c, f, g⟩ := I.own i d h1 h2
      rw [h3] at a
      cases a
      exact ⟨b, c, vs, f⟩
    let Hb : Hp := fun a => if Own M ρ σ a then H a else Hs a
    have hb1 : ∀ a, Own M ρ σ a → Hb a = H a := fun a h => if_pos h
    have hb2 : ∀ a, ¬ Own M ρ σ a → Hb a = Hs a := fun a h => if_neg h
    have exb : Ex Hb H := fun a o h => by
      by_cases z : Own M ρ σ a
      · rw [hb1 a z] at h; exact h
      · rw [hb2 a z] at h; exact I.le.sub a o h
    have exs : Ex Hs Hb := fun a o h => by
      by_cases z : Own M ρ σ a
      · rw [(own a z).1] at h; cases h
      · rw [hb2 a z]; exact h
    refine ⟨Hb, exb, ⟨I.len, fun i d q => ?_⟩, ⟨I.le.old.trans exs, I.le.ex, exb, fun a o h => ?_⟩, fun Hi H' l => ?_⟩
    · have q : ρ[i]? = some (some d) := q
      by_cases hi : i ∈ M
      · obtain ⟨p, xs, vs, e, a, b, c, f, g⟩ := I.own i d hi q
        subst e
        exact ⟨_, a, .lst (by rw [hb1 p ⟨i, _, hi, q, a⟩]; exact f) (g.mono exs)⟩
      · obtain ⟨v, a, b⟩ := I.sl i d hi q
        exact ⟨v, a, b.mono exs⟩
    · by_cases z : Own M ρ σ a
      · exact .inr (own a z).2.1
      · rw [hb2 a z] at h
        exact I.le.new a o h
    · let Hj : Hp := fun a => if Own M ρ σ a then none else Hi a
      have hj1 : ∀ a, Own M ρ σ a → Hj a = none := fun a h => if_pos h
      have hj2 : ∀ a, ¬ Own M ρ σ a → Hj a = Hi a := fun a h => if_neg h
      have lj : Le Hs H Hj H' := by
        refine ⟨fun a o h => ?_, l.ex, fun a o h => ?_, fun a o h => ?_⟩
        · have z : ¬ Own M ρ σ a := fun z => by rw [(own a z).1] at h; cases h
          rw [hj2 a z]
          exact l.old a o (exs a o h)
        · by_cases z : Own M ρ σ a
          · rw [hj1 a z] at h; cases h
          · rw [hj2 a z] at h; exact l.sub a o h
        · by_cases z : Own M ρ σ a
          · rw [hj1 a z] at h; cases h
          · rw [hj2 a z] at h
            rcases l.new a o h with w | w
            · rw [hb2 a z] at w; exact .inl w
            · exact .inr w
      refine ⟨Hj, I.step lj, fun a o h => ?_, fun h => (nomatch h), fun a o h hn => ?_⟩
      · by_cases z : Own M ρ σ a
        · rw [hj1 a z] at h; cases h
        · rw [hj2 a z] at h; exact h
      · have z : ¬ Own M ρ σ a := fun z => by
          obtain ⟨_, _, vs, e⟩ := own a z
          have e2 := l.sub a o h
          rw [l.ex a _ e] at e2
          cases e2
          exact hn vs rfl
        rw [hj2 a z]
        exact h
theorem SInv.set {i : Nat} {d : D} {v : V} (I : SInv K M Hs0 H0 ρ Hs σ H) (hi : i ∉ M) (r : Rep K Hs d v) : SInv K M Hs0 H0 (ρ.set i (some d)) Hs (σ.set i (some v)) H := by
  have ne : ∀ j, j ∈ M → i ≠ j := fun j h e => hi (e ▸ h)
  refine ⟨I.le, by simpa using I.len, fun j e hj q => ?_, fun j e hj q => ?_, fun j k p d e hj hk q1 q2 q3 q4 => ?_⟩
  · by_cases h : i = j
    · subst h
      have hl : i < ρ.length := by
        have := (List.getElem?_eq_some_iff.mp q).1
        simpa using this
      rw [List.getElem?_set_self hl] at q
      cases q
      exact ⟨v, List.getElem?_set_self (Nat.lt_of_lt_of_le hl I.len), r⟩
    · rw [List.getElem?_set_ne h] at q ⊢
      exact I.sl j e hj q
  · rw [List.getElem?_set_ne (ne j hj)] at q ⊢
    exact I.own j e hj q
  · rw [List.getElem?_set_ne (ne j hj)] at q1 q3
    rw [List.getElem?_set_ne (ne k hk)] at q2 q4
    exact I.inj j k p d e hj hk q1 q2 q3 q4
/-- an own list is laid anew -/
theorem SInv.setOwn {i : Nat} {xs : List D} {vs : List V} {p : Addr} (I : SInv K M Hs0 H0 ρ Hs σ H) (hi : i ∈ M) (h1 : Hs p = none) (h2 : H0 p = none) (h3 : H p = some (.lst vs)) (r : Reps K Hs xs vs)
    (h4 : ¬ Own M ρ σ p) : SInv K M Hs0 H0 (ρ.set i (some (.lst xs))) Hs (σ.set i (some (.ref p))) H := by
  have ne : ∀ j, j ∉ M → i ≠ j := fun j h e => h (e ▸ hi)
  have fst : ∀ j e, (ρ.set i (some (.lst xs)))[j]? = some (some e) → j = i → e = .lst xs ∧ i < ρ.length := fun j e q h => by
    subst h
    have hl : j < ρ.length := by
      have := (List.getElem?_eq_some_iff.mp q).1
      simpa using this
    rw [List.getElem?_set_self hl] at q
    cases q
    exact ⟨rfl, hl⟩
  refine ⟨I.le, by simpa using I.len, fun j e hj q => ?_, fun j e hj q => ?_, fun j k p' d e hj hk q1 q2 q3 q4 => ?_⟩
  · rw [List.getElem?_set_ne (ne j hj)] at q ⊢
    exact I.sl j e hj q
  · by_cases h : i = j
    · subst h
      obtain ⟨rfl, hl⟩ := fst i e q rfl
      exact ⟨p, xs, vs, rfl, List.getElem?_set_self (Nat.lt_of_lt_of_le hl I.len), h1, h2, h3, r⟩
    · rw [List.getElem?_set_ne h] at q ⊢
      exact I.own j e hj q
  · by_cases a : i = j
    · by_cases b : i = k
      · exact a.symm.trans b
      · subst a
        obtain ⟨_, hl⟩ := fst i d q1 rfl
        rw [List.getElem?_set_self (Nat.lt_of_lt_of_le hl I.len)] at q3
        cases q3
        rw [List.getElem?_set_ne b] at q2 q4
        exact absurd ⟨k, e, hk, q2, q4⟩ h4
    · by_cases b : i = k
      · subst b
        obtain ⟨_, hl⟩ := fst i e q2 rfl
        rw [List.getElem?_set_self (Nat.lt_of_lt_of_le hl I.len)] at q4
        cases q4
        rw [List.getElem?_set_ne a] at q1 q3
        exact absurd ⟨j, d, hj, q1, q3⟩ h4
      · rw [List.getElem?_set_ne a] at q1 q3
        rw [List.getElem?_set_ne b] at q2 q4
        exact I.inj j k p' d e hj hk q1 q2 q3 q4
/-- an own list is changed -/
theorem SInv.change {i : Nat} {xs ys : List D} {ws : List V} {p : Addr} (I : SInv K M Hs0 H0 ρ Hs σ H) (hi : i ∈ M) (q0 : ρ[i]? = some (some (.lst xs))) (q1 : σ[i]? = some (some (.ref p))) (r : Reps K Hs ys ws) :
    SInv K M Hs0 H0 (ρ.set i (some (.lst ys))) Hs σ (upd H p (.lst ws)) := by
  obtain ⟨p', xs', vs, e, a, b, c, f, g⟩ := I.own i _ hi q0
  rw [q1] at a
  cases a
  have ne : ∀ j, j ∉ M → i ≠ j := fun j h e => h (e ▸ hi)
  have dfn : ∀ j e, (ρ.set i (some (.lst ys)))[j]? = some (some e) → ∃ e', ρ[j]? = some (some e') := fun j e q => by
    by_cases h : i = j
    · subst h; exact ⟨_, q0⟩
    · rw [List.getElem?_set_ne h] at q; exact ⟨e, q⟩
  refine ⟨⟨I.le.old, fun a o h => ?_, fun a o h => ?_, I.le.new⟩, by simpa using I.len, fun j e hj q => ?_, fun j e hj q => ?_, fun j k p' d e hj hk q1 q2 q3 q4 => ?_⟩
  · rw [upd_ne (ne_of_none h c)]; exact I.le.ex a o h
  · rw [upd_ne (ne_of_none h b)]; exact I.le.sub a o h
  · rw [List.getElem?_set_ne (ne j hj)] at q
    exact I.sl j e hj q
  · by_cases h : i = j
    · subst h
      have hl : i < ρ.length := (List.getElem?_eq_some_iff.mp q0).1
      rw [List.getElem?_set_self hl] at q
      cases q
      exact ⟨p, ys, ws, rfl, q1, b, c, upd_same, r⟩
    · rw [List.getElem?_set_ne h] at q
      obtain ⟨p2, xs2, vs2, e2, a2, b2, c2, f2, g2⟩ := I.own j e hj q
      refine ⟨p2, xs2, vs2, e2, a2, b2, c2, ?_, g2⟩
      rw [upd_ne]
      · exact f2
      · intro z
        subst z
        exact h (I.inj i j _ _ _ hi hj q0 q q1 a2)
  · obtain ⟨d', z1⟩ := dfn j d q1
    obtain ⟨e', z2⟩ := dfn k e q2
    exact I.inj j k p' d' e' hj hk z1 z2 q3 q4
/-- the base, later -/
theorem SInv.base {Hs1 H1 : Hp} (l : Le Hs0 H0 Hs1 H1) (I : SInv K M Hs1 H0 ρ Hs σ H) : SInv K M Hs0 H0 ρ Hs σ H :=
  ⟨⟨l.old.trans I.le.old, I.le.ex, I.le.sub, fun a o h => (I.le.new a o h).elim (fun q => l.new a o q) .inr⟩, I.len, I.sl, I.own, I.inj⟩
theorem SInv.rebase (I : SInv K M Hs0 H0 ρ Hs σ H) : SInv K M Hs H0 ρ Hs σ H :=
  ⟨⟨Ex.refl _, I.le.ex, I.le.sub, fun _ _ h => .inl h⟩, I.len, I.sl, I.own, I.inj⟩

/-! ## what is wanted behind a statement -/
def PstS (K : PySem.W.Frag) (mg : Str → Option Value) (M : List Nat) (Hs0 H0 : Hp) (r : R Fl) (Dd : Ends) (W : WX) : Prop := match r with
  | .ok (.nx ρ) => ∀ Hs σ H, SInv K M Hs0 H0 ρ Hs σ H → Dd.nx σ H
  | .ok (.bk ρ) => ∀ Hs σ H, SInv K M Hs0 H0 ρ Hs σ H → Dd.bk σ H
  | .ok (.ct ρ) => ∀ Hs σ H, SInv K M Hs0 H0 ρ Hs σ H → Dd.ct σ H
  | .ok (.rt d) => ∀ v Hi H', Le Hs0 H0 Hi H' → Rep K Hi d v → Dd.rt v H'
  | .ok (.xc x ρ) => ∀ c d Hs σ H, SInv K M Hs0 H0 ρ Hs σ H → XRep K mg Hs H x c d → W c d σ H
  | _ => False
def tS (K : PySem.W.Frag) (mg : Str → Option Value) (W : WX) (M : List Nat) (Hs0 H0 : Hp) (f : Env → R Fl) : TS := fun Dd σ H =>
  ∃ (ρ : Env) (Hs : Hp), SInv K M Hs0 H0 ρ Hs σ H ∧ PstS K mg M Hs0 H0 (f ρ) Dd W
theorem PstS.base {Hs1 H1 : Hp} {r : R Fl} {Dd : Ends} {W : WX} (l : Le Hs0 H0 Hs1 H1) (h : PstS K mg M Hs0 H0 r Dd W) : PstS K mg M Hs1 H0 r Dd W := by
  cases r with
  | ok f =>
    cases f with
    | nx ρ => exact fun Hs σ H I => h Hs σ H (I.base l)
    | bk ρ => exact fun Hs σ H I => h Hs σ H (I.base l)
    | ct ρ => exact fun Hs σ H I => h Hs σ H (I.base l)
    | rt d => exact fun v Hi H' q => h v Hi H' ⟨l.old.trans q.old, q.ex, q.sub, fun a o z => (q.new a o z).elim (fun w => l.new a o w) .inr⟩
    | xc x ρ => exact fun c d Hs σ H I => h c d Hs σ H (I.base l)
  | exc x => exact h
  | stuck => exact h
theorem XRep.down {x : XD} {c : Value} {d : Option Addr} {Hi Hj H : Hp} (h : Down cl Hi Hj) (l : (cl || x.lf) = true) (r : XRep K mg Hi H x c d) : XRep K mg Hj H x c d := by
  obtain ⟨cls, fld⟩ := x
  refine ⟨r.1, ?_⟩
  cases fld with
  | none => exact r.2
  | some f =>
    obtain ⟨dd, v, e1, e2, e3⟩ := r.2
    refine ⟨dd, v, e1, ?_, e3.down h l⟩
    cases cl with
    | true => rw [h.same rfl]; exact e2
    | false => exact h.keep _ _ e2 (fun _ q => nomatch q)
/-- an expression within a statement -/
theorem use_P {α β : Type} {Rel : Hp → α → β → Prop} {l : α → Bool} {r : R α} {k : α → R Fl} {Dd : Ends} {W : WX} {Q : β → Hp → Prop} {Hb : Hp}
    (hb : ∀ Hi H', Le Hb H Hi H' → ∃ Hj, SInv K M Hs0 H0 ρ Hj σ H' ∧ Down cl Hi Hj)
    (mv : ∀ Hi Hj a b, Down cl Hi Hj → (cl || l a) = true → Rel Hi a b → Rel Hj a b)
    (h : PstS K mg M Hs0 H0 (lift cl l r ρ k) Dd W) (q : ∀ a b Hj H', r = .ok a → SInv K M Hs0 H0 ρ Hj σ H' → Rel Hj a b → PstS K mg M Hs0 H0 (k a) Dd W → Q b H') : Pst Rel K mg Hb H r Q (fun c d H' => W c d σ H') := by
  cases r with
  | ok a =>
    intro v Hi H' le ra
    have h : PstS K mg M Hs0 H0 (if cl || l a then k a else .stuck) Dd W := h
    by_cases z : (cl || l a) = true
    · rw [if_pos z] at h
      obtain ⟨Hj, J, dn⟩ := hb Hi H' le
      exact q a v Hj H' rfl J (mv Hi Hj a v dn z ra) h
    · rw [if_neg z] at h
      exact h.elim
  | exc x =>
    intro c d Hi H' le rx
    have h : PstS K mg M Hs0 H0 (if cl || x.lf then .ok (.xc x ρ) else .stuck) Dd W := h
    by_cases z : (cl || x.lf) = true
    · rw [if_pos z] at h
      obtain ⟨Hj, J, dn⟩ := hb Hi H' le
      exact h c d Hj σ H' J (rx.down dn z)
    · rw [if_neg z] at h
      exact h.elim
  | stuck => exact h.elim
/-- tD, tDB: the same, entered -/
theorem use_D {f : Env → R D} {k : D → R Fl} {Dd : Ends} {W : WX} {Q : VK} (I : SInv K M Hs0 H0 ρ Hs σ H) (h : PstS K mg M Hs0 H0 (lift cl D.lf (f (view M cl ρ)) ρ k) Dd W)
    (q : ∀ d v Hj H', SInv K M Hs0 H0 ρ Hj σ H' → Rep K Hj d v → PstS K mg M Hs0 H0 (k d) Dd W → Q v H') : tD K mg W f σ H Q := by
  obtain ⟨Hb, e1, e2, _, e3⟩ := I.enter cl
  exact ⟨_, Hb, e1, e2, use_P e3 (fun _ _ _ _ dn z r => r.down dn z) h fun a b Hj H' _ => q a b Hj H'⟩
theorem use_B {f : Env → R Bool} {k : Bool → R Fl} {Dd : Ends} {W : WX} {Q : Bool → Hp → Prop} (I : SInv K M Hs0 H0 ρ Hs σ H) (h : PstS K mg M Hs0 H0 (lift false (fun _ => true) (f (view M false ρ)) ρ k) Dd W)
    (q : ∀ b Hj H', SInv K M Hs0 H0 ρ Hj σ H' → PstS K mg M Hs0 H0 (k b) Dd W → Q b H') : tDB K mg W f σ H Q := by
  obtain ⟨Hb, e1, e2, _, e3⟩ := I.enter false
  refine ⟨_, Hb, e1, e2, use_P e3 (fun _ _ _ _ dn z r => r) h fun a b Hj H' _ J e hp => ?_⟩
  have e : a = b := e
  subst e
  exact q a Hj H' J hp
/-- a value dropped, or returned -/
theorem use_R {f : Env → R D} {k : D → R Fl} {Dd : Ends} {W : WX} {Q : VK} (I : SInv K M Hs0 H0 ρ Hs σ H) (h : PstS K mg M Hs0 H0 (lift false (fun _ => true) (f (view M false ρ)) ρ k) Dd W)
    (q : ∀ d v Hi Hj H', SInv K M Hs0 H0 ρ Hj σ H' → Le Hs0 H0 Hi H' → Rep K Hi d v → PstS K mg M Hs0 H0 (k d) Dd W → Q v H') : tD K mg W f σ H Q := by
  obtain ⟨Hb, e1, e2, e4, e3⟩ := I.enter false
  refine ⟨_, Hb, e1, e2, ?_⟩
  cases z : f (view M false ρ) with
  | ok d =>
    rw [z] at h
    intro v Hi H' le r
    obtain ⟨Hj, J, _⟩ := e3 Hi H' le
    exact q d v Hi Hj H' J (e4.trans le) r h
  | exc x =>
    have := use_P (Rel := Rep K) (Q := Q) e3 (fun _ _ _ _ _ w r => r.down (by assumption) (by simpa using w)) (l := D.lf) (r := (.exc x)) (k := k) (Dd := Dd) (W := W) (mg := mg) (by rw [z] at h; exact h) (fun _ _ _ _ e => by cases e)
    exact this
  | stuck => rw [z] at h; exact h.elim
end
end Py

namespace Py
open PySem PySem.Spec PyProof.Rows L2

/-! ## looking at the row's statements -/
def sAsg : Stmt → Option (Expr × Expr × Pos)
  | .Assign [t] e p => some (t, e, p)
  | _ => none
def sExp : Stmt → Option (Expr × Pos)
  | .Expr e p => some (e, p)
  | _ => none
def sIf : Stmt → Option (Expr × List Stmt × List Stmt)
  | .If c a b _ => some (c, a, b)
  | _ => none
def sWhl : Stmt → Option (Expr × List Stmt)
  | .While c b [] _ => some (c, b)
  | _ => none
def sFor : Stmt → Option (Expr × Expr × List Stmt)
  | .For t i b [] _ => some (t, i, b)
  | _ => none
def sRet : Stmt → Option (Option Expr)
  | .Return e _ => some e
  | _ => none
def sPass : Stmt → Bool
  | .Pass _ => true
  | _ => false
def sRse : Stmt → Option (Str × List Expr)
  | .Raise (some (.Call (.Name x _) as [] _)) none _ => some (x, as)
  | _ => none
theorem sRse_s {s : Stmt} {x : Str} {as : List Expr} (h : sRse s = some (x, as)) : ∃ p q r, s = .Raise (some (.Call (.Name x p) as [] q)) none r := by
  unfold sRse at h; split at h <;> simp at h; obtain ⟨rfl, rfl⟩ := h; exact ⟨_, _, _, rfl⟩
def sTry : Stmt → Option (List Stmt × Str × Str × Str)
  | .Try body [.ExceptHandler (some (.Name x _)) (some n) [.Assign [.Name y _] (.Name m _) _] _] [] [] _ => if n = m then some (body, x, n, y) else none
  | _ => none
theorem sTry_s {s : Stmt} {b : List Stmt} {x n y : Str} (h : sTry s = some (b, x, n, y)) : ∃ np yp ep ap pos' pos, s = .Try b [.ExceptHandler (some (.Name x np)) (some n) [.Assign [.Name y yp] (.Name n ep) ap] pos'] [] [] pos := by
  unfold sTry at h
  split at h
  · rename_i n' _ m _ _ _ _
    split at h
    · rename_i e
      subst e
      cases h
      exact ⟨_, _, _, _, _, _, rfl⟩
    · cases h
  · cases h
def sBrk : Stmt → Bool
  | .Break _ => true
  | _ => false
def sCnt : Stmt → Bool
  | .Continue _ => true
  | _ => false
theorem sAsg_s {s : Stmt} {t e : Expr} {p : Pos} (h : sAsg s = some (t, e, p)) : s = .Assign [t] e p := by
  unfold sAsg at h; split at h <;> simp at h; obtain ⟨rfl, rfl, rfl⟩ := h; rfl
theorem sExp_s {s : Stmt} {e : Expr} {p : Pos} (h : sExp s = some (e, p)) : s = .Expr e p := by
  unfold sExp at h; split at h <;> simp at h; obtain ⟨rfl, rfl⟩ := h; rfl
theorem sIf_s {s : Stmt} {c : Expr} {a b : List Stmt} (h : sIf s = some (c, a, b)) : ∃ p, s = .If c a b p := by
  unfold sIf at h; split at h <;> simp at h; obtain ⟨rfl, rfl, rfl⟩ := h; exact ⟨_, rfl⟩
theorem sWhl_s {s : Stmt} {c : Expr} {b : List Stmt} (h : sWhl s = some (c, b)) : ∃ p, s = .While c b [] p := by
  unfold sWhl at h; split at h <;> simp at h; obtain ⟨rfl, rfl⟩ := h; exact ⟨_, rfl⟩
theorem sFor_s {s : Stmt} {t i : Expr} {b : List Stmt} (h : sFor s = some (t, i, b)) : ∃ p, s = .For t i b [] p := by
  unfold sFor at h; split at h <;> simp at h; obtain ⟨rfl, rfl, rfl⟩ := h; exact ⟨_, rfl⟩
theorem sRet_s {s : Stmt} {e : Option Expr} (h : sRet s = some e) : ∃ p, s = .Return e p := by
  unfold sRet at h; split at h <;> simp at h; subst h; exact ⟨_, rfl⟩
theorem sPass_s {s : Stmt} (h : sPass s = true) : ∃ p, s = .Pass p := by
  unfold sPass at h; split at h <;> simp at h; exact ⟨_, rfl⟩
theorem sBrk_s {s : Stmt} (h : sBrk s = true) : ∃ p, s = .Break p := by
  unfold sBrk at h; split at h <;> simp at h; exact ⟨_, rfl⟩
theorem sCnt_s {s : Stmt} (h : sCnt s = true) : ∃ p, s = .Continue p := by
  unfold sCnt at h; split at h <;> simp at h; exact ⟨_, rfl⟩
/-- no comprehension, no tuple display -/
def noComp : Expr → Bool
  | .ListComp _ _ _ _ => false
  | .SetComp _ _ _ _ => false
  | .DictComp _ _ _ _ _ => false
  | _ => true
def noTup : Expr → Bool
  | .Tuple _ _ _ => false
  | _ => true
theorem sw_no {e : Expr} (h : noComp e = true) (t : Option Expr) (l : Nat) (env : PySem.Env) : swapsWith e t l env = pure false := by
  cases e <;> first | rfl | cases h
theorem sw_tup {e : Expr} {es : List Expr} {k : Nat} {p : Pos} (l : Nat) (env : PySem.Env) : swapsWith e (some (.Tuple es k p)) l env = pure false := by
  cases e <;> rfl
theorem sw_sub {e a b : Expr} {p : Pos} (l : Nat) (env : PySem.Env) : swapsWith e (some (.Subscript a b p)) l env = pure false := by
  cases e <;> rfl
theorem sw_cell {elt : Expr} {gs : List PySem.Comprehension} {raw : Scope} {pos py : Pos} {y : Str} {env : PySem.Env} (h : env.scope.names.lookup y ≠ some .local) (l : Nat) : swapsWith (.ListComp elt gs raw pos) (some (.Name y py)) l env = pure false := by
  have hk : (env.kindOf y == some .local) = false := by
    show (env.scope.names.lookup y == some .local) = false
    exact beq_eq_false_iff_ne.mpr h
  unfold swapsWith
  simp only [hk, Bool.and_false, Bool.false_and]
theorem swst_no {t e : Expr} (h : noTup e = true) (env : PySem.Env) : swappedStores [t] e env = pure none := by
  cases e <;> first | (cases t <;> rfl) | cases h
theorem swst_sub {e a b : Expr} {p : Pos} (env : PySem.Env) : swappedStores [.Subscript a b p] e env = pure none := by
  cases e <;> rfl
/-- a comprehension stored at once -/
def swOk (sc : Scope) (t e : Expr) : Bool := match t, e with
  | .Name y py, .ListComp _ _ raw pos => decide (sc.names.lookup y ≠ some .local) || decide (sc.names.lookup y = some .local) && (py.line == pos.line) && !(raw.names.any fun (n, k) => n == y && (k == .local || k == .cell))
  | _, _ => noComp e
def chkO (C : Cfg) (sc : Scope) : O → Expr → Bool
  | .disp es, e => match xLst e with
    | some xs => decide (es.len ≤ 1000) && chks C sc es xs
    | none => false
  | .listOf a, e => match xCall e with
    | some (x, xs) => decide (x = ("list" : Str)) && C.bl.contains x && glOk sc x && (match xs with
      | [y] => plain y && chk C sc a y
      | _ => false)
    | none => false
  | .add a b, e => match xBin e with
    | some (x, p, y) => decide (p = .Add) && chk C sc a x && chk C sc b y
    | none => false
  | .lc t it ifs el, e => chk C sc (.lc t it ifs el) e
  | .call k es, e => chk C sc (.call k es) e && noComp e
  | .lrange1 a, e => chk C sc (.lrange1 a) e && noComp e
/-- x.m(e) -/
def chkM (C : Cfg) (sc : Scope) (m : Str) (i : Nat) (a : E) (e : Expr) : Bool := match xMeth e with
  | some (o, n, xs, l) => decide (n = m) && l && (match xName o with
    | some x => decide (C.N[i]? = some x) && visOk sc x
    | none => false) && (match xs with
    | [y] => plain y && chk C sc a y
    | _ => false)
  | none => false
/-- x.m() -/
def chkM0 (C : Cfg) (sc : Scope) (m : Str) (i : Nat) (e : Expr) : Bool := match xMeth e with
  | some (o, n, xs, l) => decide (n = m) && l && (match xName o with
    | some x => decide (C.N[i]? = some x) && visOk sc x
    | none => false) && xs.isEmpty
  | none => false
/-- x.append(y.pop(e)) -/
def chkAp (C : Cfg) (sc : Scope) (i j : Nat) (a : E) (e : Expr) : Bool := match xMeth e with
  | some (o, n, xs, l) => decide (n = ("append" : Str)) && l && (match xName o with
    | some x => decide (C.N[i]? = some x) && visOk sc x
    | none => false) && (match xs with
    | [y] => chkM C sc "pop" j a y
    | _ => false)
  | none => false
mutual
def chkS (C : Cfg) (sc : Scope) (M : List Nat) : S → Stmt → Bool
  | .asg _ t a, s => match sAsg s with
    | some (tg, e, _) => chkTgt C.N sc sc t tg && chk C sc a e && swOk sc tg e && (match t with | .nm _ => true | .tp _ => noTup e) && (t.ixs.all fun i => !M.contains i)
    | none => false
  | .own _ i o, s => match sAsg s with
    | some (tg, e, _) => chkTgt C.N sc sc (.nm i) tg && chkO C sc o e && swOk sc tg e && M.contains i
    | none => false
  | .app _ i a, s => match sExp s with
    | some (e, _) => M.contains i && chkM C sc "append" i a e
    | none => false
  | .ext _ i a, s => match sExp s with
    | some (e, _) => M.contains i && chkM C sc "extend" i a e
    | none => false
  | .put _ i j a, s => match sAsg s with
    | some (tg, e, _) => M.contains i && chk C sc a e && (match xSub tg with
      | some (o, k) => plain k && (match xName o with
        | some x => decide (C.N[i]? = some x) && visOk sc x
        | none => false) && chk C sc j k
      | none => false)
    | none => false
  | .ex a, s => match sExp s with
    | some (e, _) => chk C sc a e && noComp e
    | none => false
  | .ite c a b, s => match sIf s with
    | some (e, p, q) => chk C sc c e && chkSs C sc M a p && chkSs C sc M b q
    | none => false
  | .whl _ c b, s => match sWhl s with
    | some (e, p) => chk C sc c e && chkSs C sc M b p
    | none => false
  | .for_ _ t it b, s => match sFor s with
    | some (tg, e, p) => chkTgt C.N sc sc t tg && chkIt C sc it e && tgtOk it t && chkSs C sc M b p && (t.ixs.all fun i => !M.contains i)
    | none => false
  | .ret a, s => match sRet s with
    | some (some e) => chk C sc a e
    | _ => false
  | .retN, s => match sRet s with
    | some none => true
    | _ => false
  | .pass, s => sPass s
  | .brk, s => sBrk s
  | .cont, s => sCnt s
  | .nev, _ => true
  | .clr i, s => match sExp s with
    | some (e, _) => M.contains i && chkM0 C sc "clear" i e
    | none => false
  | .pop i, s => match sExp s with
    | some (e, _) => M.contains i && chkM0 C sc "pop" i e
    | none => false
  | .exC a, s => match sExp s with
    | some (e, _) => chk C sc a e && noComp e
    | none => false
  | .retC a, s => match sRet s with
    | some (some e) => chk C sc a e
    | _ => false
  | .rse _ c a, s => match sRse s with
    | some (x, as) => decide (x = c) && C.ex && glOk sc x && (match exFld c with | some (some _) => true | _ => false) && (match as with
      | [e] => plain e && chk C sc a e
      | _ => false)
    | none => false
  | .rs0 c, s => match sRse s with
    | some (x, as) => decide (x = c) && C.ex && glOk sc x && (match as with
      | [e] => (match xConst e with | some (.str _) => true | _ => false)
      | _ => false)
    | none => false
  | .tryx i j b, s => match sTry s with
    | some (bd, x, n, y) => decide (x = "PurseError") && C.ex && glOk sc x && decide (C.N[i]? = some n) && decide (sc.names.lookup n = some .local) && !(n == ("__debug__" : Str)) && !(n == ("__classdict__" : Str)) &&
        decide (C.N[j]? = some y) && locOk sc sc y && !M.contains i && !M.contains j && decide (i ≠ j) && chkSs C sc M b bd
    | none => false
  | .forC t k es b, s => match sFor s with
    | some (tg, e, p) => chkTgt C.N sc sc t tg && chk C sc (.call k es) e && noComp e && plain e && chkSs C sc M b p && (t.ixs.all fun i => !M.contains i)
    | none => false
  | .apop i j a, s => match sExp s with
    | some (e, _) => M.contains i && M.contains j && decide (i ≠ j) && chkAp C sc i j a e
    | none => false
  | .unset i, s => match sAsg s with
    | some (tg, e, _) => chkTgt C.N sc sc (.nm i) tg && (match xConst e with | some .none => true | _ => false) && M.contains i
    | none => false
  | .rev i, s => match sExp s with
    | some (e, _) => M.contains i && chkM0 C sc "reverse" i e
    | none => false
def chkSs (C : Cfg) (sc : Scope) (M : List Nat) : Ss → List Stmt → Bool
  | .nil, ss => ss.isEmpty
  | .cons s ss, sts => match sts with
    | st :: sts => chkS C sc M s st && chkSs C sc M ss sts
    | [] => false
end

/-! ## soundness -/
structure SX (X : Cx) : Prop where
  fn : ∀ x, X.fn x = true
  pas : PassesOwn (model X.prog X.w) X.A X.env X.xe
  kind : X.env.scope.kind = .function
  stk : X.stack = X.env :: X.outer
  frm : X.env.frame = some X.env.locals
  noe : X.ex = []
theorem PS.imp {X : Cx} {st : Stmt} {t u : TS} (h : PS X st t) (f : ∀ Dd σ H, u Dd σ H → t Dd σ H) : PS X st u := ⟨fun pins s σ H Dd I q => h.run pins s σ H Dd I (f Dd σ H q)⟩
theorem PSs.imp {X : Cx} {st : List Stmt} {t u : TS} (h : PSs X st t) (f : ∀ Dd σ H, u Dd σ H → t Dd σ H) : PSs X st u := ⟨fun pins s σ H Dd I q => h.run pins s σ H Dd I (f Dd σ H q)⟩
section
variable {C : Cfg} {cs : List Cal} {kk : Nat} {M : List Nat}
def SOk (C : Cfg) (cs : List Cal) (kk : Nat) (M : List Nat) (a : S) : Prop := ∀ (X : Cx) (W : WX) (st : Stmt), XOk X C cs kk → SX X → Takes X W → chkS C X.env.scope M a st = true →
  ∀ Hs0 H0, PS X st (tS X.K X.mg W M Hs0 H0 (exec (fnsOf cs) M a))
def SsOk (C : Cfg) (cs : List Cal) (kk : Nat) (M : List Nat) (a : Ss) : Prop := ∀ (X : Cx) (W : WX) (sts : List Stmt), XOk X C cs kk → SX X → Takes X W → chkSs C X.env.scope M a sts = true →
  ∀ Hs0 H0, PSs X sts (tS X.K X.mg W M Hs0 H0 (execs (fnsOf cs) M a))
theorem sinv_names {K : PySem.W.Frag} {Hs0 H0 Hs H : Hp} {ρ' : Env} : ∀ {is : List Nat} {ds : List D} {vs : List V} {ρ : Env} {σ : L2.St} {Q : L2.St → Hp → Prop}, setAll is ds ρ = some ρ' → Reps K Hs ds vs → SInv K M Hs0 H0 ρ Hs σ H → (∀ i ∈ is, i ∉ M) →
    (∀ σ', SInv K M Hs0 H0 ρ' Hs σ' H → Q σ' H) → gNames is vs σ H Q
  | [], [], _, ρ, σ, Q, h, .nil, I, _, k => by
    have e : ρ = ρ' := Option.some.inj h
    subst e
    exact ⟨rfl, k σ I⟩
  | i :: is, d :: ds, _, ρ, σ, Q, h, .cons (v := v) (vs := vs) r t, I, hi, k => by
    refine ⟨v, vs, rfl, ?_⟩
    show gNames is vs (σ.set i (some v)) H Q
    exact sinv_names (ρ := ρ.set i (some d)) h t (I.set (hi i (by simp)) r) (fun j hj => hi j (by simp [hj])) k
  | [], _ :: _, _, _, _, _, h, _, _, _, _ => by cases h
  | _ :: _, [], _, _, _, _, h, _, _, _, _ => by cases h
theorem sinv_tgt {K : PySem.W.Frag} {Hs0 H0 Hs H : Hp} {ρ ρ' : Env} {t : Tgt} {d : D} {v : V} {σ : L2.St} {Q : L2.St → Hp → Prop} (h : t.bind d ρ = .ok ρ') (r : Rep K Hs d v) (I : SInv K M Hs0 H0 ρ Hs σ H) (hi : ∀ i ∈ t.ixs, i ∉ M)
    (k : ∀ σ', SInv K M Hs0 H0 ρ' Hs σ' H → Q σ' H) : gOf K t v σ H Q := by
  cases t with
  | nm i =>
    have e : ρ.set i (some d) = ρ' := R.ok.inj h
    subst e
    exact k _ (I.set (hi i (by simp [Tgt.ixs])) r)
  | tp is =>
    cases d with
    | tup ds =>
      have h : (match setAll is ds ρ with | some ρ' => R.ok ρ' | none => .stuck) = .ok ρ' := h
      cases q : setAll is ds ρ with
      | none => rw [q] at h; cases h
      | some ρ2 =>
        rw [q] at h
        cases h
        obtain ⟨p, vs, rfl, e1, r1⟩ := r.tupI
        exact ⟨p, vs, rfl, SqT.of (I.le.sub _ _ e1), by rw [← r1.length, (setAll_len q).1], sinv_names q r1 I hi k⟩
    | _ => cases h
theorem use_T {K : PySem.W.Frag} {mg : Str → Option Value} {Hs0 H0 Hs H : Hp} {ρ : Env} {t : Tgt} {d : D} {v : V} {σ : L2.St} {k : Env → R Fl} {Dd : Ends} {W : WX} {Q : L2.St → Hp → Prop} (h : PstS K mg M Hs0 H0 (bindT t d ρ k) Dd W) (r : Rep K Hs d v) (I : SInv K M Hs0 H0 ρ Hs σ H)
    (hi : ∀ i ∈ t.ixs, i ∉ M) (q : ∀ ρ' σ', SInv K M Hs0 H0 ρ' Hs σ' H → PstS K mg M Hs0 H0 (k ρ') Dd W → Q σ' H) : gOf K t v σ H Q := by
  unfold bindT at h
  cases z : t.bind d ρ with
  | ok ρ' =>
    rw [z] at h
    exact sinv_tgt z r I hi fun σ' J => q ρ' σ' J h
  | exc x => rw [z] at h; exact h.elim
  | stuck => rw [z] at h; exact h.elim
theorem allM {M is : List Nat} (h : (is.all fun i => !M.contains i) = true) : ∀ i ∈ is, i ∉ M := fun i hi => by
  have := List.all_eq_true.mp h i hi
  simpa using this
theorem tgt_stores {N : List Str} {sc raw : Scope} {t : Tgt} {e : Expr} (h : chkTgt N sc raw t e = true) (env : PySem.Env) : (assignEach [e] env).map (·.2) = [assign e env] := by
  cases t with
  | nm i =>
    have h : (match xName e with | some x => decide (N[i]? = some x) && locOk sc raw x | none => false) = true := h
    cases q : xName e with
    | none => rw [q] at h; cases h
    | some x =>
      obtain ⟨p, rfl⟩ := xName_s q
      rfl
  | tp is =>
    have h : (match xTup e with | some es => chkNames N sc raw is es | none => false) = true := h
    cases q : xTup e with
    | none => rw [q] at h; cases h
    | some x =>
      obtain ⟨k, p, rfl⟩ := xTup_s q
      rfl
theorem ok_asg (cl : Bool) (t : Tgt) (a : E) : SOk C cs kk M (.asg cl t a) := fun X W st hX sx tk h Hs0 H0 => by
  rw [chkS] at h
  cases q : sAsg st with
  | none => rw [q] at h; cases h
  | some u =>
    obtain ⟨tg, e, p⟩ := u
    rw [q] at h
    have hst := sAsg_s q
    subst hst
    simp only [Bool.and_eq_true] at h
    obtain ⟨⟨⟨⟨h1, h2⟩, h3⟩, h4⟩, h5⟩ := h
    have hi := allM h5
    have he := (ok_E a X W e hX tk h2).1
    have hg : PG X tg (gOf X.K t) := pg_of hX.calm hX.names hX.nd rfl (fun x _ => sx.fn x) h1
    have go : ∀ (u : TE), (∀ σ H Q, tD X.K X.mg W (ev (fnsOf cs) a) σ H Q → u σ H Q) → ∀ Dd σ H, tS X.K X.mg W M Hs0 H0 (exec (fnsOf cs) M (.asg cl t a)) Dd σ H → tAsg u (gOf X.K t) Dd σ H := by
      intro u hu Dd σ H ⟨ρ, Hs, I, hp⟩
      rw [exec] at hp
      exact hu _ _ _ (use_D I hp fun d v Hj H' J r hp => use_T hp r J hi fun ρ' σ' J' hp => hp Hj σ' H' J')
    by_cases hc : noComp e = true
    · have hw : swappedStores [tg] e X.env = pure none := by
        cases t with
        | tp is => exact swst_no h4 X.env
        | nm i =>
          have h1 : (match xName tg with | some x => decide (C.N[i]? = some x) && locOk X.env.scope X.env.scope x | none => false) = true := h1
          cases z : xName tg with
          | none => rw [z] at h1; cases h1
          | some x =>
            obtain ⟨px, rfl⟩ := xName_s z
            cases e <;> rfl
      exact PS.imp (ps_asg he hg (sw_no hc _ _ _) hw (tgt_stores h1 X.env)) (go _ fun _ _ _ h => h)
    · cases e with
      | ListComp el gs raw pos =>
        cases tg with
        | Name y py =>
          by_cases hloc : X.env.scope.names.lookup y = some .local
          rotate_left
          · exact PS.imp (ps_asg he hg (sw_cell hloc p.line) (by rfl) (tgt_stores h1 X.env)) (go _ fun _ _ _ h => h)
          have h3 : (decide (X.env.scope.names.lookup y ≠ some .local) || (decide (X.env.scope.names.lookup y = some .local) && (py.line == pos.line) && !(raw.names.any fun (n, k) => n == y && (k == .local || k == .cell)))) = true := h3
          have h3 : (decide (X.env.scope.names.lookup y = some .local) && (py.line == pos.line) && !(raw.names.any fun (n, k) => n == y && (k == .local || k == .cell))) = true := by
            rw [decide_eq_false (fun z => z hloc), Bool.false_or] at h3
            exact h3
          have h3' : (decide (X.env.scope.names.lookup y = some .local) && (py.line == pos.line) && !(raw.names.any fun (n, k) => n == y && (k == .local || k == .cell))) = true := h3
          simp only [Bool.and_eq_true, decide_eq_true_eq, Bool.not_eq_true'] at h3'
          have hsw := sw_true (elt := el) (gs := gs) (l := p.line) sx.kind h3'.1.1 h3'.1.2 h3'.2
          cases t with
          | tp is => cases h1
          | nm i =>
            have h1 : (decide (C.N[i]? = some y) && locOk X.env.scope X.env.scope y) = true := h1
            simp only [Bool.and_eq_true, decide_eq_true_eq] at h1
            cases a with
            | lc t2 it ifs el2 =>
              rw [chk] at h2
              cases z : xLc (.ListComp el gs raw pos) with
              | none => rw [z] at h2; cases h2
              | some w =>
                obtain ⟨x, tg2, i2, fs, raw2⟩ := w
                rw [z] at h2
                obtain ⟨pos2, e0⟩ := xLc_s z
                cases e0
                simp only [Bool.and_eq_true, decide_eq_true_eq] at h2
                obtain ⟨⟨⟨⟨⟨⟨⟨c1, c2⟩, c3⟩, c4⟩, c5⟩, c6⟩, c7⟩, c8⟩ := h2
                obtain ⟨j1, j2⟩ := ok_It it X W tg2 i2 hX tk c2 fun a b z => by
                  subst z
                  cases t2 with
                  | nm i => cases c3
                  | tp is =>
                    have h4 : (match xTup tg2 with | some es => chkNames C.N (relS raw X.env.scope) raw is es | none => false) = true := c4
                    cases q3 : xTup tg2 with
                    | none => rw [q3] at h4; cases h4
                    | some ks =>
                      obtain ⟨k, p, rfl⟩ := xTup_s q3
                      exact ⟨_, _, _, rfl⟩
                refine PS.imp (ps_setLc (own := ownOf C.N t2) (g := gOf X.K t2) (tt := tDB X.K X.mg WN (evTests (fnsOf cs) ifs)) (te := tD X.K X.mg WN (ev (fnsOf cs) el2)) hX.calm (by rw [hX.names]; exact hX.nd) (show X.N[i]? = some y by rw [hX.names]; exact h1.1) h3'.1.1 hsw j1 (blkOk_by (by rw [hX.names]; exact c1)) (fun s H C' cl fp => ?_) (fun s H C' cl fp => ?_) (fun s H C' cl fp => ?_) (folded_ok j2)) (go _ fun σ H Q hh => ?_)
                · exact pg_of (X := X.blk s H raw (compEnvC raw cl C' X.env) fp) hX.calm (by exact hX.names) hX.nd rfl blk_fn c4
                · exact (ok_Es ifs).tests (X.blk s H raw (compEnvC raw cl C' X.env) fp) WN fs hX.blk takes0 c5
                · exact (ok_E el2 (X.blk s H raw (compEnvC raw cl C' X.env) fp) WN el hX.blk takes0 c6).1
                · rw [c7]
                  refine lc_imp (W := W) c8 ?_
                  obtain ⟨ρ, Hs, e1, e2, e3⟩ := hh
                  refine ⟨ρ, Hs, e1, e2, ?_⟩
                  rw [ev] at e3
                  exact e3
            | _ => simp [chk, xName, xConst, xBin, xUn, xCmp, xChain, xBool, xTup, xLst, xSub, xCall, xCallK, xStep, xMeth, xAttr, xDic] at h2
        | _ => cases h3
      | SetComp _ _ _ _ => cases tg <;> cases h3
      | DictComp _ _ _ _ _ => cases tg <;> cases h3
      | _ => exact absurd rfl hc
end
end Py

namespace Py
open PySem PySem.Spec PyProof.Rows L2
section
variable {C : Cfg} {cs : List Cal} {kk : Nat} {M : List Nat}
/-! ## own lists -/
section
variable {K : PySem.W.Frag} {mg : Str → Option Value} {Hs0 H0 Hs H : Hp} {ρ : Env} {σ : L2.St} {cl : Bool}
theorem use_PG {α β : Type} {Rel : Hp → α → β → Prop} {r : R α} {g : α → R D} {k : D → R Fl} {Dd : Ends} {W : WX} {Q : β → Hp → Prop} {Hb : Hp}
    (hb : ∀ Hi H', Le Hb H Hi H' → ∃ Hj, SInv K M Hs0 H0 ρ Hj σ H' ∧ Down cl Hi Hj)
    (h : PstS K mg M Hs0 H0 (lift cl D.lfItems (r >>= g) ρ k) Dd W) (q : ∀ a b Hi H', r = .ok a → Le Hb H Hi H' → Rel Hi a b → PstS K mg M Hs0 H0 (lift cl D.lfItems (g a) ρ k) Dd W → Q b H') : Pst Rel K mg Hb H r Q (fun c d H' => W c d σ H') := by
  cases r with
  | ok a => exact fun v Hi H' le ra => q a v Hi H' rfl le ra h
  | exc x =>
    intro c d Hi H' le rx
    have h : PstS K mg M Hs0 H0 (if cl || x.lf then .ok (.xc x ρ) else .stuck) Dd W := h
    by_cases z : (cl || x.lf) = true
    · rw [if_pos z] at h
      obtain ⟨Hj, J, dn⟩ := hb Hi H' le
      exact h c d Hj σ H' J (rx.down dn z)
    · rw [if_neg z] at h
      exact h.elim
  | stuck => exact h.elim
/-- a new list, laid into an own slot -/
theorem fresh_own {i : Nat} {xs : List D} {vs : List V} {p : Addr} {Hi Hj H' : Hp} {Dd : Ends} {W : WX} (hi : i ∈ M) (J : SInv K M Hs0 H0 ρ Hj σ H') (dn : Down cl Hi Hj) (r : Reps K Hi xs vs) (hn : H' p = none)
    (h : PstS K mg M Hs0 H0 (lift cl D.lfItems (.ok (.lst xs)) ρ fun d => .ok (.nx (ρ.set i (some d)))) Dd W) : Dd.nx (σ.set i (some (.ref p))) (upd H' p (.lst vs)) := by
  have h : PstS K mg M Hs0 H0 (if cl || D.lfs xs then .ok (.nx (ρ.set i (some (.lst xs)))) else .stuck) Dd W := h
  by_cases z : (cl || D.lfs xs) = true
  · rw [if_pos z] at h
    have J2 := J.step (Le.new0 (o := .lst vs) J.le.sub hn)
    refine h _ _ _ (J2.setOwn hi (fresh_s J.le.sub hn) (J.le.free hn) upd_same (r.down dn z) ?_)
    rintro ⟨j, d, h1, h2, h3⟩
    obtain ⟨p', xs', vs', e, a, b, c, f, g⟩ := J.own j d h1 h2
    rw [h3] at a
    cases a
    rw [hn] at f
    cases f
  · rw [if_neg z] at h
    exact h.elim
end
section
variable {K : PySem.W.Frag} {mg : Str → Option Value} {Hs0 H0 Hs H : Hp} {ρ : Env} {σ : L2.St} {cl : Bool}
/-- a heap without lists -/
def noL (H : Hp) : Hp := fun a => match H a with
  | some (.lst _) => none
  | o => o
theorem noL_sub (H : Hp) : Ex (noL H) H := fun a o h => by
  unfold noL at h
  split at h
  · cases h
  · exact h
theorem noL_keep (H : Hp) : ExN H (noL H) := fun a o h hn => by
  unfold noL
  rw [h]
  cases o <;> first | rfl | exact absurd rfl (hn _)
theorem noL_not {H : Hp} {a : Addr} {xs : List V} : noL H a ≠ some (.lst xs) := fun h => by
  unfold noL at h
  split at h
  · cases h
  · rename_i hn
    exact hn _ h
/-- both, but for one address -/
def both2 (A B : Hp) (p : Option Addr) : Hp := fun a => match A a with
  | some o => some o
  | none => if p = some a then none else B a
theorem both2_le {Hi H1 Hk H2 : Hp} {p : Option Addr} (l1 : Ex Hi H1) (l : Le (noL Hi) H1 Hk H2) : Le Hi H1 (both2 Hi Hk p) H2 := by
  refine ⟨fun a o h => ?_, l.ex, fun a o h => ?_, fun a o h => ?_⟩
  · unfold both2
    rw [h]
  · unfold both2 at h
    cases z : Hi a with
    | some o' =>
      rw [z] at h
      cases h
      exact l.ex a _ (l1 a _ z)
    | none =>
      rw [z] at h
      simp only at h
      split at h
      · cases h
      · exact l.sub a o h
  · unfold both2 at h
    cases z : Hi a with
    | some o' =>
      rw [z] at h
      exact .inl (by rw [← h])
    | none =>
      rw [z] at h
      simp only at h
      split at h
      · cases h
      · rcases l.new a o h with w | w
        · have := noL_sub Hi a o w
          rw [z] at this
          cases this
        · exact .inr w
theorem both2_keep {Hi H1 Hk H2 : Hp} {p : Addr} {vs : List V} (l1 : Ex Hi H1) (l : Le (noL Hi) H1 Hk H2) (hp : Hk p = some (.lst vs)) : ExN Hk (both2 Hi Hk (some p)) := fun a o h hn => by
  unfold both2
  cases z : Hi a with
  | some o' =>
    have h1 := l.ex a _ (l1 a _ z)
    rw [l.sub a _ h] at h1
    simp only
    exact h1.symm
  | none =>
    simp only
    rw [if_neg]
    · exact h
    · intro e
      cases e
      rw [hp] at h
      cases h
      exact hn _ rfl
theorem both2_ex {Hi H1 Hk H2 : Hp} (l1 : Ex Hi H1) (l : Le (noL Hi) H1 Hk H2) : Ex Hk (both2 Hi Hk none) := fun a o h => by
  unfold both2
  cases z : Hi a with
  | some o' =>
    have h1 := l.ex a _ (l1 a _ z)
    rw [l.sub a _ h] at h1
    simp only
    exact h1.symm
  | none =>
    simp only
    rw [if_neg (fun e => nomatch e)]
    exact h
theorem call_own {i : Nat} {ds : List D} {vs : List V} {Hb Hi H1 : Hp} {n : Nat} {g : List D → R D} {Dd : Ends} {W : WX} (hi : i ∈ M) (I : SInv K M Hs0 H0 ρ Hs σ H)
    (e3 : ∀ Hi H', Le Hb H Hi H' → ∃ Hj, SInv K M Hs0 H0 ρ Hj σ H' ∧ Down cl Hi Hj) (le : Le Hb H Hi H1) (r : Reps K Hi ds vs) (hz : D.lfs ds = true) (hn : ds.length = n)
    (hp : PstS K mg M Hs0 H0 (lift cl D.lfItems (g ds >>= ownRes) ρ fun d => .ok (.nx (ρ.set i (some d)))) Dd W) :
    spOf K mg n g vs H1 (fun v H' => gOf K (.nm i) v σ H' Dd.nx) (fun c d H' => W c d σ H') := by
  refine ⟨noL Hi, ds, (noL_sub Hi).trans le.sub, r.drop (noL_keep Hi) hz, hn, ?_⟩
  cases hg : g ds with
  | stuck => rw [hg] at hp; exact hp.elim
  | exc x =>
    rw [hg] at hp
    intro c d Hk H2 l2 rx
    have hp : PstS K mg M Hs0 H0 (if cl || x.lf then .ok (.xc x ρ) else .stuck) Dd W := hp
    by_cases z : (cl || x.lf) = true
    · rw [if_pos z] at hp
      obtain ⟨Hj, J, dn⟩ := e3 _ _ (le.trans (both2_le (p := none) le.sub l2))
      have rx' : XRep K mg (both2 Hi Hk none) H2 x c d := by
        obtain ⟨cls, fld⟩ := x
        refine ⟨rx.1, ?_⟩
        cases fld with
        | none => exact rx.2
        | some f =>
          obtain ⟨dd, v, q1, q2, q3⟩ := rx.2
          exact ⟨dd, v, q1, both2_ex le.sub l2 _ _ q2, q3.mono (both2_ex le.sub l2)⟩
      exact hp c d Hj σ H2 J (rx'.down dn z)
    · rw [if_neg z] at hp
      exact hp.elim
  | ok d =>
    rw [hg] at hp
    intro v Hk H2 l2 rv
    cases d with
    | lst xs =>
      have hp : PstS K mg M Hs0 H0 (lift cl D.lfItems (if D.lfs xs then .ok (.lst xs) else .stuck) ρ fun d => .ok (.nx (ρ.set i (some d)))) Dd W := hp
      by_cases hx : D.lfs xs = true
      rotate_left
      · rw [if_neg hx] at hp
        exact hp.elim
      rw [if_pos hx] at hp
      have hp : PstS K mg M Hs0 H0 (if cl || D.lfs xs then .ok (.nx (ρ.set i (some (.lst xs)))) else .stuck) Dd W := hp
      rw [hx, Bool.or_true, if_pos rfl] at hp
      obtain ⟨p, vs2, rfl, q1, q2⟩ := rv.lstI
      have hnew : H1 p = none := by
        rcases l2.new p _ q1 with w | w
        · exact absurd w noL_not
        · exact w
      have hHi : Hi p = none := by
        cases z : Hi p with
        | none => rfl
        | some o => rw [le.sub p o z] at hnew; cases hnew
      have hHp : H p = none := le.free hnew
      obtain ⟨Hj, J, dn⟩ := e3 _ _ (le.trans (both2_le (p := some p) le.sub l2))
      have hjp : Hj p = none := by
        cases z : Hj p with
        | none => rfl
        | some o =>
          have := dn.sub p o z
          unfold both2 at this
          rw [hHi] at this
          simp at this
      have r2 : Reps K Hj xs vs2 := (q2.drop (both2_keep le.sub l2 q1) hx).down dn (by rw [hx, Bool.or_true])
      refine hp _ _ _ (J.setOwn hi hjp (I.le.free hHp) (l2.sub _ _ q1) r2 ?_)
      rintro ⟨j, d, o1, o2, o3⟩
      obtain ⟨p', xs', vs', e, a, b, c, f, g⟩ := I.own j d o1 o2
      rw [o3] at a
      cases a
      rw [hHp] at f
      cases f
    | _ => exact hp.elim
end
theorem ok_own (cl : Bool) (i : Nat) (o : O) : SOk C cs kk M (.own cl i o) := fun X W st hX sx tk h Hs0 H0 => by
  rw [chkS] at h
  cases q : sAsg st with
  | none => rw [q] at h; cases h
  | some u =>
    obtain ⟨tg, e, p⟩ := u
    rw [q] at h
    have hst := sAsg_s q
    subst hst
    simp only [Bool.and_eq_true] at h
    obtain ⟨⟨⟨h1, h2⟩, h3sw⟩, h4⟩ := h
    have hi : i ∈ M := by simpa using h4
    have hg : PG X tg (gOf X.K (.nm i)) := pg_of hX.calm hX.names hX.nd rfl (fun x _ => sx.fn x) h1
    have hw : swappedStores [tg] e X.env = pure none := by
      have h1 : (match xName tg with | some x => decide (C.N[i]? = some x) && locOk X.env.scope X.env.scope x | none => false) = true := h1
      cases z : xName tg with
      | none => rw [z] at h1; cases h1
      | some x =>
        obtain ⟨px, rfl⟩ := xName_s z
        cases e <;> rfl
    have sw : noComp e = true → swapsWithSole [tg] e p.line X.env = pure false := fun h3 => sw_no h3 _ _ _
    suffices hs : ∃ te, ((noComp e = true ∧ PE X e te) ∨ PS X (.Assign [tg] e p) (tAsg te (gOf X.K (.nm i)))) ∧ ∀ Dd σ H, tS X.K X.mg W M Hs0 H0 (exec (fnsOf cs) M (.own cl i o)) Dd σ H → te σ H (fun v H' => gOf X.K (.nm i) v σ H' Dd.nx) by
      obtain ⟨te, he | he, ht⟩ := hs
      · exact PS.imp (ps_asg he.2 hg (sw he.1) hw (tgt_stores h1 X.env)) ht
      · exact PS.imp he ht
    cases o with
    | disp es =>
      rw [chkO] at h2
      cases z : xLst e with
      | none => rw [z] at h2; cases h2
      | some xs =>
        rw [z] at h2
        obtain ⟨pos, rfl⟩ := xLst_s z
        simp only [Bool.and_eq_true, decide_eq_true_eq] at h2
        refine ⟨_, .inl ⟨rfl, pe_lst ((ok_Es es).args X W xs hX tk h2.2).1⟩, fun Dd σ H ⟨ρ, Hs, I, hp⟩ => ?_⟩
        rw [exec] at hp
        obtain ⟨Hb, e1, e2, _, e3⟩ := I.enter cl
        refine ⟨_, Hb, e1, e2, ?_⟩
        refine use_PG (Rel := Reps X.K) (g := fun xs => .ok (.lst xs)) e3 hp fun ds' vs Hi H' eq le r hp => ⟨?_, fun pp hn => ?_⟩
        · rw [size_eq, ← r.length, evs_len eq]
          omega
        · obtain ⟨Hj, J, dn⟩ := e3 Hi H' le
          exact fresh_own hi J dn r hn hp
    | listOf a =>
      rw [chkO] at h2
      cases z : xCall e with
      | none => rw [z] at h2; cases h2
      | some w =>
        obtain ⟨x, xs⟩ := w
        rw [z] at h2
        obtain ⟨p1, pos, rfl⟩ := xCall_s z
        simp only [Bool.and_eq_true, decide_eq_true_eq] at h2
        obtain ⟨⟨⟨rfl, c1⟩, c2⟩, c3⟩ := h2
        match xs, c3 with
        | [], c3 => cases c3
        | _ :: _ :: _, c3 => cases c3
        | [y], c3 =>
        simp only [Bool.and_eq_true] at c3
        obtain ⟨g1, g2, g3⟩ := gl_of c2
        refine ⟨_, .inl ⟨rfl, pe_callTy call_list_of g1 (glob_free hX c1) (by decide +kernel) (pa_cons (ok_E a X W y hX tk c3.2).1 pa_nil (star_cons c3.1)) g3 g2 (star_cons c3.1) rfl⟩, fun Dd σ H ⟨ρ, Hs, I, hp⟩ => ?_⟩
        rw [exec] at hp
        obtain ⟨Hb, e1, e2, _, e3⟩ := I.enter cl
        refine ⟨_, Hb, e1, e2, use_PG (Rel := Rep X.K) (g := D.listOf) e3 hp fun d v Hi H' _ le r hp => ?_⟩
        obtain ⟨Hj, J, dn⟩ := e3 Hi H' le
        cases d with
        | lst xs =>
          obtain ⟨pp, vs, rfl, q1, q2⟩ := r.lstI
          exact ⟨pp, vs, rfl, .inl (SqL.of (le.sub _ _ q1)), fun l hl => fresh_own hi J dn q2 hl hp⟩
        | tup xs =>
          obtain ⟨pp, vs, rfl, q1, q2⟩ := r.tupI
          exact ⟨pp, vs, rfl, .inr (SqT.of (le.sub _ _ q1)), fun l hl => fresh_own hi J dn q2 hl hp⟩
        | scr ns =>
          obtain ⟨pp, rfl, q1⟩ := (r.mono le.sub).scrI
          exact ⟨pp, _, rfl, .inl q1, fun l hl => fresh_own hi J dn Reps.ints hl hp⟩
        | _ => exact hp.elim
    | add a b =>
      rw [chkO] at h2
      cases z : xBin e with
      | none => rw [z] at h2; cases h2
      | some w =>
        obtain ⟨x, o, y⟩ := w
        rw [z] at h2
        obtain ⟨pos, rfl⟩ := xBin_s z
        simp only [Bool.and_eq_true, decide_eq_true_eq] at h2
        obtain ⟨⟨rfl, c1⟩, c2⟩ := h2
        refine ⟨_, .inl ⟨rfl, pe_op op_cat (ok_E a X W x hX tk c1).1 (ok_E b X W y hX tk c2).1⟩, fun Dd σ H ⟨ρ, Hs, I, hp⟩ => ?_⟩
        rw [exec] at hp
        obtain ⟨Hb, e1, e2, _, e3⟩ := I.enter cl
        refine ⟨_, Hb, e1, e2, use_PG (Rel := Rep X.K) (g := fun x => ev (fnsOf cs) b (view M cl ρ) >>= fun y => match x, y with
    | .lst xs, .lst ys => if xs.length + ys.length ≤ 16777216 then .ok (.lst (xs ++ ys)) else .stuck
    | _, _ => .stuck) e3 hp fun d v Hi H' _ le r hp => ⟨_, Hi, le.sub, e2.mono le.old, use_PG (Rel := Rep X.K) (fun Hi2 H2 l2 => e3 Hi2 H2 (le.trans l2)) hp fun d2 v2 Hi2 H2 _ le2 r2 hp2 => ?_⟩⟩
        obtain ⟨Hj, J, dn⟩ := e3 Hi2 H2 (le.trans le2)
        cases d with
        | lst xs =>
          cases d2 with
          | lst ys =>
            by_cases hz : xs.length + ys.length ≤ 16777216
            · simp only [if_pos hz] at hp2
              obtain ⟨p1, vs, rfl, q1, q2⟩ := (r.mono le2.old).lstI
              obtain ⟨p2, ws, rfl, q3, q4⟩ := r2.lstI
              exact ⟨p1, p2, vs, ws, rfl, rfl, le2.sub _ _ q1, le2.sub _ _ q3, by rw [size_eq, ← q2.length, ← q4.length]; exact hz, fun n hn => fresh_own hi J dn (q2.append q4) hn hp2⟩
            · simp only [if_neg hz] at hp2
              exact hp2.elim
          | _ => exact hp2.elim
        | _ => exact hp2.elim

    | lc t2 it ifs el2 =>
      rw [chkO] at h2
      rw [chk] at h2
      cases z : xLc e with
      | none => rw [z] at h2; cases h2
      | some w =>
        obtain ⟨x, tg2, i2, fs, raw⟩ := w
        rw [z] at h2
        obtain ⟨pos2, rfl⟩ := xLc_s z
        simp only [Bool.and_eq_true, decide_eq_true_eq] at h2
        obtain ⟨⟨⟨⟨⟨⟨⟨c1, c2⟩, c3⟩, c4⟩, c5⟩, c6⟩, c7⟩, c8⟩ := h2
        obtain ⟨j1, j2⟩ := ok_It it X W tg2 i2 hX tk c2 fun a b z => by
          subst z
          cases t2 with
          | nm i => cases c3
          | tp is =>
            have h4 : (match xTup tg2 with | some es => chkNames C.N (relS raw X.env.scope) raw is es | none => false) = true := c4
            cases q3 : xTup tg2 with
            | none => rw [q3] at h4; cases h4
            | some ks =>
              obtain ⟨k, p, rfl⟩ := xTup_s q3
              exact ⟨_, _, _, rfl⟩
        have b1 : ∀ (s : Shared) (H : Hp) (C' : Addr) (cl : List (Str × Addr)) (fp : List Addr), PG (X.blk s H raw (compEnvC raw cl C' X.env) fp) tg2 (gOf X.K t2) := fun s H C' cl fp => pg_of (X := X.blk s H raw (compEnvC raw cl C' X.env) fp) hX.calm (by exact hX.names) hX.nd rfl blk_fn c4
        have b2 : ∀ (s : Shared) (H : Hp) (C' : Addr) (cl : List (Str × Addr)) (fp : List Addr), PTs (X.blk s H raw (compEnvC raw cl C' X.env) fp) fs (tDB X.K X.mg WN (evTests (fnsOf cs) ifs)) := fun s H C' cl fp => (ok_Es ifs).tests (X.blk s H raw (compEnvC raw cl C' X.env) fp) WN fs hX.blk takes0 c5
        have b3 : ∀ (s : Shared) (H : Hp) (C' : Addr) (cl : List (Str × Addr)) (fp : List Addr), PE (X.blk s H raw (compEnvC raw cl C' X.env) fp) x (tD X.K X.mg WN (ev (fnsOf cs) el2)) := fun s H C' cl fp => (ok_E el2 (X.blk s H raw (compEnvC raw cl C' X.env) fp) WN x hX.blk takes0 c6).1
        have hb : BlkOk X.N X.env.scope raw (ownOf C.N t2) := blkOk_by (by rw [hX.names]; exact c1)
        have hnd : X.N.Nodup := by rw [hX.names]; exact hX.nd
        refine ⟨tLc (iD X.K X.mg W (evIt (fnsOf cs) it)) (gOf X.K t2) (tDB X.K X.mg WN (evTests (fnsOf cs) ifs)) (tD X.K X.mg WN (ev (fnsOf cs) el2)) ((ownOf C.N t2).map (·.2)), .inr ?_, fun Dd σ H ⟨ρ, Hs, I, hp⟩ => ?_⟩
        · have h1 : (match xName tg with | some x => decide (C.N[i]? = some x) && locOk X.env.scope X.env.scope x | none => false) = true := h1
          cases z9 : xName tg with
          | none => rw [z9] at h1; cases h1
          | some y =>
            rw [z9] at h1
            obtain ⟨py, rfl⟩ := xName_s z9
            have h1 : (decide (C.N[i]? = some y) && locOk X.env.scope X.env.scope y) = true := h1
            simp only [Bool.and_eq_true, decide_eq_true_eq] at h1
            by_cases hloc : X.env.scope.names.lookup y = some .local
            · have h3 : (decide (X.env.scope.names.lookup y ≠ some .local) || (decide (X.env.scope.names.lookup y = some .local) && (py.line == pos2.line) && !(raw.names.any fun (n, k) => n == y && (k == .local || k == .cell)))) = true := h3sw
              rw [decide_eq_false (fun z => z hloc), Bool.false_or] at h3
              simp only [Bool.and_eq_true, decide_eq_true_eq, Bool.not_eq_true'] at h3
              have hsw := sw_true (elt := x) (gs := [⟨tg2, i2, fs, 0⟩]) (l := p.line) sx.kind h3.1.1 h3.1.2 h3.2
              exact ps_setLc hX.calm hnd (show X.N[i]? = some y by rw [hX.names]; exact h1.1) hloc hsw j1 hb b1 b2 b3 (folded_ok j2)
            · exact ps_asg (pe_lc hX.calm hnd j1 hb b1 b2 b3 (folded_ok j2)) hg (sw_cell hloc p.line) hw (by rfl)
        · rw [exec] at hp
          obtain ⟨Hb, e1, e2, _, e3⟩ := I.enter cl
          rw [c7]
          refine lc_impF (W := W) (ρ := view M cl ρ) (Hs := Hb) c8 e1 e2 (use_PG (Rel := fun Hi ds J => Walk X.K J Hi ds) (g := fun xs => if xs.length ≤ 16777215 then (lcGo (lcF (evTests (fnsOf cs) ifs) (ev (fnsOf cs) el2) t2 (view M cl ρ)) xs >>= fun l => .ok (.lst l)) else .stuck) e3 hp fun ds J Hi H' eq le wk hp' => ?_)
          by_cases hz : ds.length ≤ 16777215
          · rw [if_pos hz] at hp'
            refine ⟨ds, Hi, eq, le, wk, hz, ?_⟩
            cases zl : lcGo (lcF (evTests (fnsOf cs) ifs) (ev (fnsOf cs) el2) t2 (view M cl ρ)) ds with
            | exc x => exact absurd zl lcGo_nox
            | stuck => rw [zl] at hp'; exact hp'.elim
            | ok l =>
              rw [zl] at hp'
              intro p vs Hi2 H2 le2 f1 f2 f3 r
              have hp' : PstS X.K X.mg M Hs0 H0 (if cl || D.lfs l then .ok (.nx (ρ.set i (some (.lst l)))) else .stuck) Dd W := hp'
              obtain ⟨Hj, J2, dn⟩ := e3 Hi2 H2 (le.trans le2)
              have hHp : H p = none := le.free f2
              by_cases zc : (cl || D.lfs l) = true
              · rw [if_pos zc] at hp'
                refine hp' _ _ _ (J2.setOwn hi ?_ (I.le.free hHp) f3 (r.down dn zc) ?_)
                · cases zz : Hj p with
                  | none => rfl
                  | some o => rw [dn.sub p o zz] at f1; cases f1
                · rintro ⟨j, d, o1, o2, o3⟩
                  obtain ⟨p', xs', vs', e, a, b, c, f, g⟩ := I.own j d o1 o2
                  rw [o3] at a
                  cases a
                  rw [hHp] at f
                  cases f
              · rw [if_neg zc] at hp'
                exact hp'.elim
          · rw [if_neg hz] at hp'
            exact hp'.elim
    | call k es =>
      rw [chkO, Bool.and_eq_true, chk] at h2
      obtain ⟨h2, hnc⟩ := h2
      cases q9 : xCall e with
      | none => rw [q9] at h2; cases h2
      | some t =>
        obtain ⟨x, xs⟩ := t
        rw [q9] at h2
        obtain ⟨p9, pos9, rfl⟩ := xCall_s q9
        simp only [Bool.and_eq_true, decide_eq_true_eq] at h2
        obtain ⟨⟨⟨c1, c2⟩, c3⟩, c4⟩ := h2
        rw [hX.cn, List.getElem?_map] at c1
        cases q2 : cs[k]? with
        | none => rw [q2] at c1; cases c1
        | some cal =>
          rw [q2] at c1
          have c1 : some (cal.name, cal.ps.length) = some (x, es.len) := c1
          simp only [Option.some.injEq, Prod.mk.injEq] at c1
          obtain ⟨rfl, h5⟩ := c1
          obtain ⟨a1, a2, a3, _⟩ := (ok_Es es).args X W xs hX tk c4
          cases xs with
          | nil => exact absurd a3.symm c2
          | cons y ys =>
            obtain ⟨g1, g2, g3⟩ := gl_of c3
            have F := hX.fns cal (List.mem_of_getElem? q2)
            refine ⟨_, .inl ⟨rfl, pe_callS F.ok hX.room g1 F.gl F.kp F.bd (fun σ => passAt tk σ) a1 g2 (star_cons (a2 y (by simp))) (star_any fun x hx => a2 x (by simp [hx]))⟩, fun Dd σ H ⟨ρ, Hs, I, hp⟩ => ?_⟩
            rw [exec] at hp
            obtain ⟨Hb, e1, e2, _, e3⟩ := I.enter cl
            refine ⟨_, Hb, e1, e2, use_PG (Rel := Reps X.K) (g := fun xs => if D.lfs xs then (match (fnsOf cs)[k]? with
      | some (n, g) => if xs.length = n then g xs >>= ownRes else .stuck
      | none => .stuck) else .stuck) e3 hp fun ds vs Hi H1 _ le r hp => ?_⟩
            by_cases hz : D.lfs ds = true
            rotate_left
            · rw [if_neg hz] at hp
              exact hp.elim
            rw [if_pos hz] at hp
            have eg : (fnsOf cs)[k]? = some (cal.ps.length, cal.g) := by
              unfold fnsOf
              rw [List.getElem?_map, q2]
              rfl
            rw [eg] at hp
            simp only at hp
            by_cases hn : ds.length = cal.ps.length
            rotate_left
            · rw [if_neg hn] at hp
              exact hp.elim
            rw [if_pos hn] at hp
            exact call_own hi I e3 le r hz hn hp
    | lrange1 a =>
      rw [chkO, Bool.and_eq_true, chk] at h2
      obtain ⟨h2, hnc⟩ := h2
      cases q9 : xCall e with
      | none => rw [q9] at h2; cases h2
      | some u =>
        obtain ⟨x, xs⟩ := u
        rw [q9] at h2
        obtain ⟨p9, pos9, rfl⟩ := xCall_s q9
        simp only [Bool.and_eq_true, decide_eq_true_eq] at h2
        obtain ⟨⟨⟨rfl, c1⟩, c2⟩, c3⟩ := h2
        match xs, c3 with
        | [], c3 => cases c3
        | _ :: _ :: _, c3 => cases c3
        | [y], c3 =>
          cases q2 : xCall y with
          | none => simp only [q2] at c3; cases c3
          | some u =>
            obtain ⟨x2, ys⟩ := u
            simp only [q2, Bool.and_eq_true, decide_eq_true_eq] at c3
            obtain ⟨p2, pos2, rfl⟩ := xCall_s q2
            obtain ⟨⟨⟨rfl, h4'⟩, h5⟩, h6⟩ := c3
            match ys, h6 with
            | [], h6 => cases h6
            | _ :: _ :: _, h6 => cases h6
            | [z], h6 =>
              simp only [Bool.and_eq_true] at h6
              obtain ⟨g1, g2, g3⟩ := gl_of h5
              obtain ⟨k1, k2, k3⟩ := gl_of c2
              refine ⟨_, .inl ⟨rfl, pe_listRg hX.calm k1 (glob_free hX c1) (prg_1 g1 (glob_free hX h4') (ok_E a X W z hX tk h6.2).1 (star_cons h6.1))⟩, fun Dd σ H ⟨ρ, Hs, I, hp⟩ => ?_⟩
              rw [exec] at hp
              obtain ⟨Hb, e1, e2, _, e3⟩ := I.enter cl
              refine ⟨_, Hb, e1, e2, use_PG (Rel := Rep X.K) (g := fun x => D.rangeOf [x] >>= fun l => if l.length ≤ 16777216 then .ok (.lst l) else .stuck) e3 hp fun d v Hi H' _ le r hp => ?_⟩
              cases d with
              | int n =>
                have hp : PstS X.K X.mg M Hs0 H0 (lift cl D.lfItems (rangeD 0 n >>= fun l => if l.length ≤ 16777216 then .ok (.lst l) else .stuck) ρ fun d => .ok (.nx (ρ.set i (some d)))) Dd W := hp
                rcases rangeD_cases 0 n with ⟨l2, q⟩ | q
                · rw [q] at hp
                  obtain ⟨⟨b1, b2, b3, b4⟩, rfl⟩ := rng_items q
                  simp only [R.bind_ok] at hp
                  split at hp
                  · refine ⟨n, r.intI, ⟨b1, b2, b3, b4, ?_⟩, fun t hn => ?_⟩
                    · have : ((List.range (n - 0).toNat).map fun i => D.int (0 + (i : Nat))).length ≤ 16777216 := by assumption
                      simpa using this
                    · obtain ⟨Hj, J, dn⟩ := e3 Hi H' le
                      exact fresh_own hi J dn (rgV_rep 0 n) hn hp
                  · exact hp.elim
                · rw [q] at hp
                  exact hp.elim
              | _ => exact hp.elim
/-! ## changes -/
theorem haveL_s {i : Nat} {ρ : Env} {k : R Fl} {K : PySem.W.Frag} {mg : Str → Option Value} {Hs0 H0 : Hp} {Dd : Ends} {W : WX} (h : PstS K mg M Hs0 H0 (haveL i ρ k) Dd W) : ∃ xs, ρ[i]? = some (some (.lst xs)) ∧ PstS K mg M Hs0 H0 k Dd W := by
  unfold haveL at h
  split at h
  · exact ⟨_, by assumption, h⟩
  · exact h.elim
theorem vis_of {sc : Scope} {x : Str} (hv : visOk sc x = true) : Vis sc x ∧ (x == ("__debug__" : Str)) = false ∧ (x == ("__classdict__" : Str)) = false := by
  unfold visOk at hv
  simp only [Bool.and_eq_true, Bool.not_eq_true'] at hv
  obtain ⟨⟨h1, h2⟩, h3⟩ := hv
  refine ⟨?_, h2, h3⟩
  unfold Vis
  split at h1 <;> first | (exact .inl (by assumption)) | (exact .inr (.inl (by assumption))) | (exact .inr (.inr (by assumption))) | cases h1
/-- x.m(y): its parts -/
theorem chkM_s {X : Cx} {W : WX} {m : Str} {i : Nat} {a : E} {e : Expr} (hX : XOk X C cs kk) (tk : Takes X W) (h : chkM C X.env.scope m i a e = true) : ∃ x px ap cp y, e = .Call (.Attribute (.Name x px) m ap) [y] [] cp ∧ (ap.endLine == cp.line) = true ∧ PE X (.Name x px) (tVar i) ∧ SE X W y (ev (fnsOf cs) a) ∧ plain y = true := by
  unfold chkM at h
  cases z : xMeth e with
  | none => rw [z] at h; cases h
  | some w =>
    obtain ⟨o, n, xs, l⟩ := w
    rw [z] at h
    obtain ⟨ap, cp, rfl, hl⟩ := xMeth_s z
    simp only [Bool.and_eq_true, decide_eq_true_eq] at h
    obtain ⟨⟨⟨rfl, h1⟩, h2⟩, h3⟩ := h
    cases z2 : xName o with
    | none => rw [z2] at h2; cases h2
    | some x =>
      rw [z2] at h2
      obtain ⟨px, rfl⟩ := xName_s z2
      simp only [Bool.and_eq_true, decide_eq_true_eq] at h2
      obtain ⟨v1, v2, v3⟩ := vis_of h2.2
      match xs, h3 with
      | [], h3 => cases h3
      | _ :: _ :: _, h3 => cases h3
      | [y], h3 =>
        simp only [Bool.and_eq_true] at h3
        exact ⟨x, px, ap, cp, y, rfl, hl ▸ h1, pe_var (by rw [hX.names]; exact h2.1) v1 v2 v3, (ok_E a X W y hX tk h3.2).1, h3.1⟩
theorem star_one {y : Expr} {env : PySem.Env} (h : plain y = true) : starEach [y] env = (false, eval y env) :: starEach [] env := star_cons h
theorem few1 {y : Expr} {env : PySem.Env} {cp : Pos} (h : plain y = true) : ((backTo cp (starEach [y] env)).all (fun x => !x.1) && (backToKw cp (keywordEach [] env)).all (fun x => x.1.isSome)
      && decide ([y].length + ([] : List Keyword).length + (if ([] : List Keyword).isEmpty then 0 else 1) < 30)) = true := by
  rw [star_one h]
  rfl
theorem ok_app (cl : Bool) (i : Nat) (a : E) : SOk C cs kk M (.app cl i a) := fun X W st hX sx tk h Hs0 H0 => by
  rw [chkS] at h
  cases q : sExp st with
  | none => rw [q] at h; cases h
  | some u =>
    obtain ⟨e, p⟩ := u
    rw [q] at h
    have hst := sExp_s q
    subst hst
    simp only [Bool.and_eq_true] at h
    have hi : i ∈ M := by simpa using h.1
    obtain ⟨x, px, ap, cp, y, rfl, hl, ho, hy, hpl⟩ := chkM_s hX tk h.2
    refine PS.imp (ps_expr (pe_bm PySem.F.plainAttrs_list PySem.F.slot_list_append PySem.F.type_list_append mt_append ho (pa_cons hy pa_nil (star_cons hpl)) rfl (few1 hpl) hl (star_cons hpl) rfl)) fun Dd σ H ⟨ρ, Hs, I, hp⟩ => ?_
    rw [exec] at hp
    obtain ⟨xs, q0, hp⟩ := haveL_s hp
    obtain ⟨p, xs', vs, e, q1, b, c, f, g⟩ := I.own i _ hi q0
    refine ⟨.ref p, q1, .inl ⟨rfl, vs, SqL.of f⟩, use_D I hp fun d v Hj H' J r hp => ?_⟩
    obtain ⟨p2, xs2, vs2, e2, q2, b2, c2, f2, g2⟩ := J.own i _ hi q0
    rw [q1] at q2
    cases q2
    cases e2
    unfold appD at hp
    simp only [q0] at hp
    by_cases hz : xs.length < 16777216
    · rw [if_pos hz] at hp
      exact ⟨p, vs2, v, rfl, rfl, f2, by rw [size_eq, ← g2.length]; exact hz, hp _ _ _ (J.change hi q0 q1 (g2.append (.cons r .nil)))⟩
    · rw [if_neg hz] at hp
      exact hp.elim
theorem chkM0_s {X : Cx} {m : Str} {i : Nat} {e : Expr} (hX : XOk X C cs kk) (h : chkM0 C X.env.scope m i e = true) : ∃ x px ap cp, e = .Call (.Attribute (.Name x px) m ap) [] [] cp ∧ (ap.endLine == cp.line) = true ∧ PE X (.Name x px) (tVar i) := by
  unfold chkM0 at h
  cases z : xMeth e with
  | none => rw [z] at h; cases h
  | some w =>
    obtain ⟨o, n, xs, l⟩ := w
    rw [z] at h
    obtain ⟨ap, cp, rfl, hl⟩ := xMeth_s z
    simp only [Bool.and_eq_true, decide_eq_true_eq] at h
    obtain ⟨⟨⟨rfl, h1⟩, h2⟩, h3⟩ := h
    cases z2 : xName o with
    | none => rw [z2] at h2; cases h2
    | some x =>
      rw [z2] at h2
      obtain ⟨px, rfl⟩ := xName_s z2
      simp only [Bool.and_eq_true, decide_eq_true_eq] at h2
      obtain ⟨v1, v2, v3⟩ := vis_of h2.2
      cases xs with
      | nil => exact ⟨x, px, ap, cp, rfl, hl ▸ h1, pe_var (by rw [hX.names]; exact h2.1) v1 v2 v3⟩
      | cons _ _ => cases h3
theorem ok_clr (i : Nat) : SOk C cs kk M (.clr i) := fun X W st hX sx tk h Hs0 H0 => by
  rw [chkS] at h
  cases q : sExp st with
  | none => rw [q] at h; cases h
  | some u =>
    obtain ⟨e, p⟩ := u
    rw [q] at h
    have hst := sExp_s q
    subst hst
    simp only [Bool.and_eq_true] at h
    have hi : i ∈ M := by simpa using h.1
    obtain ⟨x, px, ap, cp, rfl, hl, ho⟩ := chkM0_s hX h.2
    refine PS.imp (ps_expr (pe_bm0 PySem.F.plainAttrs_list PySem.F.slot_list_clear PySem.F.type_list_clear mt_clear ho rfl hl)) fun Dd σ H ⟨ρ, Hs, I, hp⟩ => ?_
    rw [exec] at hp
    obtain ⟨xs, q0, hp⟩ := haveL_s hp
    obtain ⟨p, xs', vs, e, q1, b, c, f, g⟩ := I.own i _ hi q0
    exact ⟨.ref p, q1, .inl ⟨rfl, vs, SqL.of f⟩, p, vs, rfl, rfl, f, hp _ _ _ (I.change hi q0 q1 .nil)⟩
theorem ok_pop (i : Nat) : SOk C cs kk M (.pop i) := fun X W st hX sx tk h Hs0 H0 => by
  rw [chkS] at h
  cases q : sExp st with
  | none => rw [q] at h; cases h
  | some u =>
    obtain ⟨e, p⟩ := u
    rw [q] at h
    have hst := sExp_s q
    subst hst
    simp only [Bool.and_eq_true] at h
    have hi : i ∈ M := by simpa using h.1
    obtain ⟨x, px, ap, cp, rfl, hl, ho⟩ := chkM0_s hX h.2
    refine PS.imp (ps_expr (pe_bm0 PySem.F.plainAttrs_list PySem.F.slot_list_pop PySem.F.type_list_pop mt_pop ho rfl hl)) fun Dd σ H ⟨ρ, Hs, I, hp⟩ => ?_
    rw [exec] at hp
    unfold popD at hp
    split at hp
    · rename_i xs q0
      obtain ⟨p, xs', vs, e, q1, b, c, f, g⟩ := I.own i _ hi q0
      cases e
      by_cases hz : xs.isEmpty = true
      · rw [if_pos hz] at hp
        exact hp.elim
      · rw [if_neg hz] at hp
        have hl0 : 0 < vs.length := by
          rw [← g.length]
          cases xs with
          | nil => exact absurd rfl hz
          | cons a l => simp
        have gd : Reps X.K Hs xs.dropLast vs.dropLast := by
          rw [List.dropLast_eq_take, List.dropLast_eq_take, g.length]
          exact g.take _
        exact ⟨.ref p, q1, .inl ⟨rfl, vs, SqL.of f⟩, p, vs, vs[vs.length - 1], rfl, rfl, f, List.getElem?_eq_getElem (by omega), hp _ _ _ (I.change hi q0 q1 gd)⟩
    · exact hp.elim
theorem R.bind_id {α : Type} (r : R α) : (r >>= fun d => R.ok d) = r := by cases r <;> rfl
theorem ok_ext (cl : Bool) (i : Nat) (a : E) : SOk C cs kk M (.ext cl i a) := fun X W st hX sx tk h Hs0 H0 => by
  rw [chkS] at h
  cases q : sExp st with
  | none => rw [q] at h; cases h
  | some u =>
    obtain ⟨e, p⟩ := u
    rw [q] at h
    have hst := sExp_s q
    subst hst
    simp only [Bool.and_eq_true] at h
    have hi : i ∈ M := by simpa using h.1
    obtain ⟨x, px, ap, cp, y, rfl, hl, ho, hy, hpl⟩ := chkM_s hX tk h.2
    refine PS.imp (ps_expr (pe_bm PySem.F.plainAttrs_list PySem.F.slot_list_extend PySem.F.type_list_extend mt_extend ho (pa_cons hy pa_nil (star_cons hpl)) rfl (few1 hpl) hl (star_cons hpl) rfl)) fun Dd σ H ⟨ρ, Hs, I, hp⟩ => ?_
    rw [exec] at hp
    obtain ⟨xs, q0, hp⟩ := haveL_s hp
    obtain ⟨p, xs', vs, e, q1, b, c, f, g⟩ := I.own i _ hi q0
    obtain ⟨Hb, e1, e2, _, e3⟩ := I.enter cl
    rw [← R.bind_id (ev (fnsOf cs) a (view M cl ρ))] at hp
    refine ⟨.ref p, q1, .inl ⟨rfl, vs, SqL.of f⟩, _, Hb, e1, e2, use_PG (Rel := Rep X.K) (g := fun d => .ok d) e3 hp fun d v Hi H' _ le r hp => ?_⟩
    obtain ⟨Hj, J, dn⟩ := e3 Hi H' le
    obtain ⟨p2, xs2, vs2, e2, q2, b2, c2, f2, g2⟩ := J.own i _ hi q0
    rw [q1] at q2
    cases q2
    cases e2
    cases d with
    | lst ys =>
      have hp : PstS X.K X.mg M Hs0 H0 (if cl || D.lfs ys then extD i (.lst ys) ρ else .stuck) Dd W := hp
      by_cases z : (cl || D.lfs ys) = true
      · rw [if_pos z] at hp
        unfold extD at hp
        simp only [q0] at hp
        by_cases hz : xs.length + ys.length ≤ 16777216
        · rw [if_pos hz] at hp
          obtain ⟨p3, ws, rfl, w1, w2⟩ := r.lstI
          exact ⟨p, p3, vs2, ws, rfl, rfl, f2, le.sub _ _ w1, by rw [size_eq, ← g2.length, ← w2.length]; exact hz, hp _ _ _ (J.change hi q0 q1 (g2.append (w2.down dn z)))⟩
        · rw [if_neg hz] at hp
          exact hp.elim
      · rw [if_neg z] at hp
        exact hp.elim
    | _ =>
      have hp : PstS X.K X.mg M Hs0 H0 (if cl || false then extD i _ ρ else .stuck) Dd W := hp
      cases cl with
      | true =>
        have hp : PstS X.K X.mg M Hs0 H0 (extD i _ ρ) Dd W := hp
        unfold extD at hp
        simp only [q0] at hp
        exact hp.elim
      | false => exact hp.elim
theorem ok_put (cl : Bool) (i : Nat) (j a : E) : SOk C cs kk M (.put cl i j a) := fun X W st hX sx tk h Hs0 H0 => by
  rw [chkS] at h
  cases q : sAsg st with
  | none => rw [q] at h; cases h
  | some u =>
    obtain ⟨tg, e, p⟩ := u
    rw [q] at h
    have hst := sAsg_s q
    subst hst
    simp only [Bool.and_eq_true] at h
    obtain ⟨⟨h1, h2⟩, h3⟩ := h
    have hi : i ∈ M := by simpa using h1
    cases z : xSub tg with
    | none => rw [z] at h3; cases h3
    | some w =>
      obtain ⟨o, k⟩ := w
      rw [z] at h3
      obtain ⟨ps, rfl⟩ := xSub_s z
      simp only [Bool.and_eq_true] at h3
      obtain ⟨⟨h4, h5⟩, h6⟩ := h3
      cases z2 : xName o with
      | none => rw [z2] at h5; cases h5
      | some x =>
        rw [z2] at h5
        obtain ⟨px, rfl⟩ := xName_s z2
        simp only [Bool.and_eq_true, decide_eq_true_eq] at h5
        obtain ⟨v1, v2, v3⟩ := vis_of h5.2
        have ho : PE X (.Name x px) (tVar i) := pe_var (by rw [hX.names]; exact h5.1) v1 v2 v3
        refine PS.imp (ps_asg (ok_E a X W e hX tk h2).1 (pg_sub ho (ok_E j X W k hX tk h6).1 set_list (by intro _; cases k <;> first | rfl | cases h4)) (sw_sub (a := .Name x px) (b := k) (p := ps) p.line X.env) (swst_sub (a := .Name x px) (b := k) (p := ps) X.env) rfl) fun Dd σ H ⟨ρ, Hs, I, hp⟩ => ?_
        rw [exec] at hp
        obtain ⟨xs, q0, hp⟩ := haveL_s hp
        refine use_D I hp fun d v Hj H' J r hp => ?_
        obtain ⟨p1, xs1, vs1, e1, q1, b1, c1, f1, g1⟩ := J.own i _ hi q0
        refine ⟨.ref p1, q1, use_D J.rebase (hp.base J.le) fun d2 v2 Hj2 H2 J2 r2 hp2 => ?_⟩
        obtain ⟨p2, xs2, vs2, e2, q2, b2, c2, f2, g2⟩ := J2.own i _ hi q0
        rw [q1] at q2
        cases q2
        cases e2
        unfold putD at hp2
        simp only [q0] at hp2
        cases d2 with
        | int n =>
          simp only [] at hp2
          cases zz : ixN xs.length n with
          | none => rw [zz] at hp2; exact hp2.elim
          | some m =>
            rw [zz] at hp2
            exact ⟨p1, vs2, n, m, rfl, r2.intI, f2, by rw [← g2.length]; exact zz, hp2 _ _ _ (J2.change hi q0 q1 (Reps.set (r.mono J2.le.old) m g2))⟩
        | _ => exact hp2.elim
/-! ## the flow -/
theorem ok_ex (a : E) : SOk C cs kk M (.ex a) := fun X W st hX sx tk h Hs0 H0 => by
  rw [chkS] at h
  cases q : sExp st with
  | none => rw [q] at h; cases h
  | some u =>
    obtain ⟨e, p⟩ := u
    rw [q] at h
    have hst := sExp_s q
    subst hst
    simp only [Bool.and_eq_true] at h
    refine PS.imp (ps_expr (ok_E a X W e hX tk h.1).1 (sw_no h.2 _ _ _)) fun Dd σ H ⟨ρ, Hs, I, hp⟩ => ?_
    rw [exec] at hp
    exact use_R I hp fun d v Hi Hj H' J _ _ hp => hp _ _ _ J
theorem ok_ite {c : E} {a b : Ss} (ha : SsOk C cs kk M a) (hb : SsOk C cs kk M b) : SOk C cs kk M (.ite c a b) := fun X W st hX sx tk h Hs0 H0 => by
  rw [chkS] at h
  cases q : sIf st with
  | none => rw [q] at h; cases h
  | some u =>
    obtain ⟨e, pa, pb⟩ := u
    rw [q] at h
    obtain ⟨pos, rfl⟩ := sIf_s q
    simp only [Bool.and_eq_true] at h
    obtain ⟨⟨h1, h2⟩, h3⟩ := h
    refine PS.imp (ps_if (ok_E c X W e hX tk h1).2 (ha X W pa hX sx tk h2 Hs0 H0) (hb X W pb hX sx tk h3 Hs0 H0)) fun Dd σ H ⟨ρ, Hs, I, hp⟩ => ?_
    rw [exec] at hp
    refine use_B (f := tst (fnsOf cs) c) I hp fun k Hj H' J hp => ?_
    cases k with
    | true => exact iteT ⟨ρ, Hj, J, hp⟩
    | false => exact iteF ⟨ρ, Hj, J, hp⟩
theorem ok_ret (a : E) : SOk C cs kk M (.ret a) := fun X W st hX sx tk h Hs0 H0 => by
  rw [chkS] at h
  cases q : sRet st with
  | none => rw [q] at h; cases h
  | some u =>
    cases u with
    | none => rw [q] at h; cases h
    | some e =>
      rw [q] at h
      obtain ⟨pos, rfl⟩ := sRet_s q
      refine PS.imp (ps_ret (ok_E a X W e hX tk h).1) fun Dd σ H ⟨ρ, Hs, I, hp⟩ => ?_
      rw [exec] at hp
      exact use_R I hp fun d v Hi Hj H' J l r hp => hp _ _ _ l r
theorem ok_retN : SOk C cs kk M .retN := fun X W st hX sx tk h Hs0 H0 => by
  rw [chkS] at h
  cases q : sRet st with
  | none => rw [q] at h; cases h
  | some u =>
    cases u with
    | some e => rw [q] at h; cases h
    | none =>
      obtain ⟨pos, rfl⟩ := sRet_s q
      refine PS.imp ps_retN fun Dd σ H ⟨ρ, Hs, I, hp⟩ => ?_
      rw [exec] at hp
      exact hp _ _ _ I.le .non
theorem ok_pass : SOk C cs kk M .pass := fun X W st hX sx tk h Hs0 H0 => by
  rw [chkS] at h
  obtain ⟨pos, rfl⟩ := sPass_s h
  refine PS.imp ps_pass fun Dd σ H ⟨ρ, Hs, I, hp⟩ => ?_
  rw [exec] at hp
  exact hp _ _ _ I
theorem ok_brk : SOk C cs kk M .brk := fun X W st hX sx tk h Hs0 H0 => by
  rw [chkS] at h
  obtain ⟨pos, rfl⟩ := sBrk_s h
  refine PS.imp ps_break fun Dd σ H ⟨ρ, Hs, I, hp⟩ => ?_
  rw [exec] at hp
  exact hp _ _ _ I
theorem ok_cont : SOk C cs kk M .cont := fun X W st hX sx tk h Hs0 H0 => by
  rw [chkS] at h
  obtain ⟨pos, rfl⟩ := sCnt_s h
  refine PS.imp ps_continue fun Dd σ H ⟨ρ, Hs, I, hp⟩ => ?_
  rw [exec] at hp
  exact hp _ _ _ I
theorem ok_nev : SOk C cs kk M .nev := fun X W st hX sx tk h Hs0 H0 => by
  refine PS.imp ps_never fun Dd σ H ⟨ρ, Hs, I, hp⟩ => ?_
  rw [exec] at hp
  exact hp
theorem ok_whl (n : Nat) {c : E} {b : Ss} (hb : SsOk C cs kk M b) : SOk C cs kk M (.whl n c b) := fun X W st hX sx tk h Hs0 H0 => by
  rw [chkS] at h
  cases q : sWhl st with
  | none => rw [q] at h; cases h
  | some u =>
    obtain ⟨e, p⟩ := u
    rw [q] at h
    obtain ⟨pos, rfl⟩ := sWhl_s q
    simp only [Bool.and_eq_true] at h
    refine PS.imp (ps_while sx.pas (ok_E c X W e hX tk h.1).2 (hb X W p hX sx tk h.2 Hs0 H0)) fun Dd σ H ⟨ρ, Hs, I, hp⟩ => ?_
    rw [exec] at hp
    refine ⟨fun m σ H => ∃ ρ Hs, SInv X.K M Hs0 H0 ρ Hs σ H ∧ PstS X.K X.mg M Hs0 H0 (whileN (fun ρ => tst (fnsOf cs) c (view M false ρ)) (execs (fnsOf cs) M b) m ρ) Dd W, ⟨n, ρ, Hs, I, hp⟩, ?_⟩
    rintro m σ1 H1 ⟨ρ1, Hs1, I1, hp1⟩
    cases m with
    | zero => exact hp1.elim
    | succ m =>
      rw [whileN] at hp1
      refine use_B (f := tst (fnsOf cs) c) I1 hp1 fun k Hj H' J hp => ?_
      cases k with
      | false => exact iteF (hp _ _ _ J)
      | true =>
        refine iteT ⟨fun σ' H' => ∃ ρ Hs, SInv X.K M Hs0 H0 ρ Hs σ' H' ∧ PstS X.K X.mg M Hs0 H0 (whileN (fun ρ => tst (fnsOf cs) c (view M false ρ)) (execs (fnsOf cs) M b) m ρ) Dd W, fun σ' H' hN => ⟨m, by omega, hN⟩, ρ1, Hj, J, ?_⟩
        simp only [if_true] at hp
        cases z : execs (fnsOf cs) M b ρ1 with
        | ok f =>
          rw [z] at hp
          cases f with
          | nx ρ2 => exact fun Hs σ H I => ⟨ρ2, Hs, I, hp⟩
          | ct ρ2 => exact fun Hs σ H I => ⟨ρ2, Hs, I, hp⟩
          | bk ρ2 => exact hp
          | rt d => exact hp
          | xc x ρ2 => exact hp
        | exc x => rw [z] at hp; exact hp.elim
        | stuck => rw [z] at hp; exact hp.elim
theorem oks_nilS : SsOk C cs kk M .nil := fun X W sts hX sx tk h Hs0 H0 => by
  rw [chkSs] at h
  have e : sts = [] := by simpa using h
  subst e
  refine PSs.imp pss_nil fun Dd σ H ⟨ρ, Hs, I, hp⟩ => ?_
  rw [execs] at hp
  exact hp _ _ _ I
theorem oks_consS {s : S} {ss : Ss} (hs : SOk C cs kk M s) (hss : SsOk C cs kk M ss) : SsOk C cs kk M (.cons s ss) := fun X W sts hX sx tk h Hs0 H0 => by
  cases sts with
  | nil => rw [chkSs] at h; cases h
  | cons st sts =>
    rw [chkSs] at h
    simp only [Bool.and_eq_true] at h
    refine PSs.imp (pss_cons (hs X W st hX sx tk h.1 Hs0 H0) (hss X W sts hX sx tk h.2 Hs0 H0)) fun Dd σ H ⟨ρ, Hs, I, hp⟩ => ?_
    rw [execs] at hp
    refine ⟨ρ, Hs, I, ?_⟩
    cases z : exec (fnsOf cs) M s ρ with
    | ok f =>
      rw [z] at hp
      cases f with
      | nx ρ2 => exact fun Hs σ H I => ⟨ρ2, Hs, I, hp⟩
      | ct ρ2 => exact hp
      | bk ρ2 => exact hp
      | rt d => exact hp
      | xc x ρ2 => exact hp
    | exc x => rw [z] at hp; exact hp.elim
    | stuck => rw [z] at hp; exact hp.elim
end
end Py

namespace Py
open PySem PySem.Spec PyProof.Rows L2
/-! ## for -/
/-- a range, whatever the heap -/
abbrev RgRel : Hp → List D → L2.It → Prop := fun _ ds J => ∃ (lo : Int) (n : Nat), J = Itr lo n ∧ ds = (List.range n).map fun i => D.int (lo + (i : Nat))
def iR (K : PySem.W.Frag) (mg : Str → Option Value) (W : WX) (f : Env → R (List D)) : TI := fun σ H R =>
  ∃ (ρ : Env) (Hs : Hp), Ex Hs H ∧ ERel K Hs ρ σ ∧ Pst RgRel K mg Hs H (f ρ) R (fun c d H' => W c d σ H')
section
variable {X : Cx} {W : WX} {e a b tg : Expr} {es : List Expr} {pos : Pos} {fs : Env → R (List D)}
theorem si_range1R {p : Pos} (hg : glOk X.env.scope "range" = true) (hm : X.mg "range" = none) (hpl : plain a = true) (hs : SA X W [a] fs) (hl : ∀ ρ ds, fs ρ = .ok ds → ds.length = 1) : PI X tg (.Call (.Name "range" p) [a] [] pos) (iR X.K X.mg W (fun ρ => do
    let xs ← fs ρ
    D.rangeOf xs)) := by
  obtain ⟨g1, g2, g3⟩ := gl_of hg
  refine PI.imp (pi_range1 g1 hm hs (star_cons hpl)) fun σ H Q ⟨ρ, Hs, he, hr, hp⟩ => ⟨ρ, Hs, he, hr, hp.bind fun ds eds vs Hi H1 l rv hp1 => ?_⟩
  rcases rangeOf_cases ds with ⟨n, rfl⟩ | ⟨a, b, rfl⟩ | e
  · cases rv with
    | cons r1 t =>
      cases t
      have hp1 : Pst _ X.K X.mg Hi H1 (rangeD 0 n) Q _ := hp1
      rcases rangeD_cases 0 n with ⟨l2, q⟩ | q
      · rw [q] at hp1
        obtain ⟨⟨b1, b2, b3, b4⟩, rfl⟩ := rng_items q
        exact ⟨n, by rw [r1.intI], b3, b4, hp1.now l.sub ⟨0, n.toNat, rfl, by simp⟩⟩
      · rw [q] at hp1
        exact hp1.elim
  · exact absurd (hl ρ _ eds) (by simp)
  · rw [e] at hp1
    exact hp1.elim
theorem si_range2R {p : Pos} (hg : glOk X.env.scope "range" = true) (hm : X.mg "range" = none) (hpl : plain a = true) (hpl2 : plain b = true) (hs : SA X W [a, b] fs) (hl : ∀ ρ ds, fs ρ = .ok ds → ds.length = 2) : PI X tg (.Call (.Name "range" p) [a, b] [] pos) (iR X.K X.mg W (fun ρ => do
    let xs ← fs ρ
    D.rangeOf xs)) := by
  obtain ⟨g1, g2, g3⟩ := gl_of hg
  refine PI.imp (pi_range2 g1 hm hs (by rw [star_cons hpl, star_cons hpl2]; rfl) (by rw [star_cons hpl2]; rfl)) fun σ H Q ⟨ρ, Hs, he, hr, hp⟩ => ⟨ρ, Hs, he, hr, hp.bind fun ds eds vs Hi H1 l rv hp1 => ?_⟩
  rcases rangeOf_cases ds with ⟨n, rfl⟩ | ⟨a, b, rfl⟩ | e
  · exact absurd (hl ρ _ eds) (by simp)
  · cases rv with
    | cons r1 t =>
      cases t with
      | cons r2 t =>
        cases t
        have hp1 : Pst _ X.K X.mg Hi H1 (rangeD a b) Q _ := hp1
        rcases rangeD_cases a b with ⟨l2, q⟩ | q
        · rw [q] at hp1
          obtain ⟨bb, rfl⟩ := rng_items q
          exact ⟨a, b, by rw [r1.intI, r2.intI], bb, hp1.now l.sub ⟨a, (b - a).toNat, rfl, rfl⟩⟩
        · rw [q] at hp1
          exact hp1.elim
  · rw [e] at hp1
    exact hp1.elim
end
section
variable {C : Cfg} {cs : List Cal} {kk : Nat} {M : List Nat}
theorem oki_rangeR {es : Es} {X : Cx} {W : WX} {tg e : Expr} (hX : XOk X C cs kk) (tk : Takes X W) (h : chkIt C X.env.scope (.range es) e = true) : PI X tg e (iR X.K X.mg W (evIt (fnsOf cs) (.range es))) ∧ plain e = true := by
  rw [chkIt] at h
  cases q : xCall e with
  | none => rw [q] at h; cases h
  | some u =>
    obtain ⟨x, xs⟩ := u
    rw [q] at h
    obtain ⟨p, pos, rfl⟩ := xCall_s q
    simp only [Bool.and_eq_true, decide_eq_true_eq] at h
    obtain ⟨⟨⟨⟨rfl, h1⟩, h2⟩, h3⟩, h4⟩ := h
    refine ⟨?_, rfl⟩
    obtain ⟨a1, a2, a3, _⟩ := (ok_Es es).args X W xs hX tk h4
    have e : evIt (fnsOf cs) (.range es) = fun ρ => (do
      let xs ← evs (fnsOf cs) es ρ
      D.rangeOf xs) := by funext ρ; rw [evIt]
    rw [e]
    match xs, a1, a2, a3 with
    | [y], a1, a2, a3 => exact si_range1R h2 (glob_free hX h1) (a2 y (by simp)) a1 fun ρ ds q => by rw [evs_len q, ← a3]; rfl
    | [y, z], a1, a2, a3 => exact si_range2R h2 (glob_free hX h1) (a2 y (by simp)) (a2 z (by simp)) a1 fun ρ ds q => by rw [evs_len q, ← a3]; rfl
    | [], a1, a2, a3 => rcases h3 with h3 | h3 <;> (rw [← a3] at h3; cases h3)
    | _ :: _ :: _ :: _, a1, a2, a3 => rcases h3 with h3 | h3 <;> (rw [← a3] at h3; simp at h3)
def tBody (K : PySem.W.Frag) (mg : Str → Option Value) (W : WX) (M : List Nat) (H0 : Hp) (f : Env → R Fl) : TS := fun Dd σ H => ∃ Hs1, tS K mg W M Hs1 H0 f Dd σ H
theorem for_turns {K : PySem.W.Frag} {mg : Str → Option Value} {W : WX} {H0 Hs1 H1 : Hp} {J : L2.It} {ds : List D} {t : Tgt} {body : Env → R Fl} {ρ : Env} {σ : L2.St} {Dd : Ends} (wk : Walk K J Hs1 ds) (I : SInv K M Hs1 H0 ρ Hs1 σ H1) (hi : ∀ i ∈ t.ixs, i ∉ M)
    (hp : PstS K mg M Hs1 H0 (forGo t body ds ρ) Dd W) : ∃ Wv : Nat → Nat → L2.St → Hp → Prop, (∃ m, Wv 0 m σ H1) ∧ ∀ i m σ H, Wv i m σ H →
  (J.stop i H ∧ Dd.nx σ H) ∨ (J.go i H ∧ ∃ N : L2.St → Hp → Prop, (∀ σ' H', N σ' H' → ∃ m', m' < m ∧ Wv (i + 1) m' σ' H') ∧ ∀ x H', J.yld i H x H' → gOf K t x σ H' fun σ2 H2 => tBody K mg W M H0 body { Dd with nx := N, ct := N, bk := Dd.nx } σ2 H2) := by
  refine ⟨fun i m σ H => m = ds.length - i ∧ i ≤ ds.length ∧ ∃ ρ Hs, SInv K M Hs1 H0 ρ Hs σ H ∧ PstS K mg M Hs1 H0 (forGo t body (ds.drop i) ρ) Dd W, ⟨ds.length, by simp, Nat.zero_le _, ρ, Hs1, I, hp⟩, ?_⟩
  rintro i m σ H ⟨rfl, hle, ρ, Hs, I, hp⟩
  by_cases hlt : i < ds.length
  · refine .inr ⟨wk.go i H (I.le.old.trans I.le.sub) hlt, fun σ' H' => ∃ m', m' < ds.length - i ∧ (m' = ds.length - (i + 1) ∧ i + 1 ≤ ds.length ∧ ∃ ρ Hs, SInv K M Hs1 H0 ρ Hs σ' H' ∧ PstS K mg M Hs1 H0 (forGo t body (ds.drop (i + 1)) ρ) Dd W), fun σ' H' h => h, fun x H' hy => ?_⟩
    have hd : ds[i]? = some ds[i] := List.getElem?_eq_getElem hlt
    obtain ⟨Hi, l2, rx⟩ := wk.yld i Hs H x H' _ I.le.old I.le.sub hd hy
    rw [List.drop_eq_getElem_cons hlt, forGo] at hp
    refine use_T hp rx (I.step l2) hi fun ρ' σ' J' hp => ⟨Hs1, ρ', Hi, J', ?_⟩
    have go : ∀ ρ2, PstS K mg M Hs1 H0 (forGo t body (ds.drop (i + 1)) ρ2) Dd W → ∀ Hs σ' H', SInv K M Hs1 H0 ρ2 Hs σ' H' → ∃ m', m' < ds.length - i ∧ (m' = ds.length - (i + 1) ∧ i + 1 ≤ ds.length ∧ ∃ ρ Hs, SInv K M Hs1 H0 ρ Hs σ' H' ∧ PstS K mg M Hs1 H0 (forGo t body (ds.drop (i + 1)) ρ) Dd W) :=
      fun ρ2 hp Hs σ' H' I => ⟨ds.length - (i + 1), by omega, rfl, by omega, ρ2, Hs, I, hp⟩
    cases z : body ρ' with
    | ok f =>
      rw [z] at hp
      cases f with
      | nx ρ2 => exact go ρ2 hp
      | ct ρ2 => exact go ρ2 hp
      | bk ρ2 => exact hp
      | rt d => exact hp
      | xc x ρ2 => exact hp
    | exc x => rw [z] at hp; exact hp.elim
    | stuck => rw [z] at hp; exact hp.elim
  · refine .inl ⟨wk.stop i H (I.le.old.trans I.le.sub) (by omega), ?_⟩
    rw [List.drop_eq_nil_of_le (by omega)] at hp
    exact hp _ _ _ I
theorem exec_for {Φ : Fns} {M : List Nat} (cl : Bool) (t : Tgt) (it : It) (b : Ss) (ρ : Env) : exec Φ M (.for_ cl t it b) ρ = lift cl (fun _ => match it with | .range _ => true | _ => false) (evIt Φ it (view M cl ρ)) ρ fun ds => forGo t (execs Φ M b) ds ρ := by
  cases it <;> rw [exec] <;> first | rfl | (intro es h; cases h)
theorem ok_for (cl : Bool) (t : Tgt) (it : It) {b : Ss} (hb : SsOk C cs kk M b) : SOk C cs kk M (.for_ cl t it b) := fun X W st hX sx tk h Hs0 H0 => by
  rw [chkS] at h
  cases q : sFor st with
  | none => rw [q] at h; cases h
  | some u =>
    obtain ⟨tg, e, p⟩ := u
    rw [q] at h
    obtain ⟨pos, rfl⟩ := sFor_s q
    simp only [Bool.and_eq_true] at h
    obtain ⟨⟨⟨⟨h1, h2⟩, h3⟩, h4⟩, h5⟩ := h
    have hi := allM h5
    have hg : PG X tg (gOf X.K t) := pg_of hX.calm hX.names hX.nd rfl (fun x _ => sx.fn x) h1
    have hbody : PSs X p (tBody X.K X.mg W M H0 (execs (fnsOf cs) M b)) := ⟨fun pins s σ H Dd I ⟨Hs1, hh⟩ => (hb X W p hX sx tk h4 Hs1 H0).run pins s σ H Dd I hh⟩
    by_cases hr : ∃ es, it = .range es
    · obtain ⟨es, rfl⟩ := hr
      obtain ⟨i1, i2⟩ := oki_rangeR (tg := tg) hX tk h2
      refine PS.imp (ps_for sx.pas hX.calm i1 hg hbody (folded_ok i2)) fun Dd σ H ⟨ρ, Hs, I, hp⟩ => ?_
      rw [exec] at hp
      obtain ⟨Hb, e1, e2, _, e3⟩ := I.enter cl
      refine ⟨_, Hb, e1, e2, use_P (Rel := RgRel) e3 (fun _ _ _ _ _ _ r => r) hp fun ds J Hj H' _ I' r hp => ?_⟩
      obtain ⟨lo, n, rfl, rfl⟩ := r
      exact for_turns (walk_rng lo n) I'.rebase hi (hp.base I'.le)
    · obtain ⟨i1, i2⟩ := ok_It it X W tg e hX tk h2 fun a b z => by
        subst z
        cases t with
        | nm i => cases h3
        | tp is =>
          have h1 : (match xTup tg with | some es => chkNames C.N X.env.scope X.env.scope is es | none => false) = true := h1
          cases q3 : xTup tg with
          | none => rw [q3] at h1; cases h1
          | some ks =>
            obtain ⟨k, p, rfl⟩ := xTup_s q3
            exact ⟨_, _, _, rfl⟩
      refine PS.imp (ps_for sx.pas hX.calm i1 hg hbody (folded_ok i2)) fun Dd σ H ⟨ρ, Hs, I, hp⟩ => ?_
      have hp := (congrArg (fun r => PstS X.K X.mg M Hs0 H0 r Dd W) (exec_for (Φ := fnsOf cs) (M := M) cl t it b ρ)).mp hp
      obtain ⟨Hb, e1, e2, _, e3⟩ := I.enter cl
      refine ⟨_, Hb, e1, e2, use_P (Rel := fun Hi ds J => Walk X.K J Hi ds) e3 (fun Hi Hj ds J dn z r => ?_) hp fun ds J Hj H' _ I' wk hp => for_turns wk I'.rebase hi (hp.base I'.le)⟩
      cases cl with
      | true => rw [dn.same rfl]; exact r
      | false =>
        exfalso
        cases it with
        | range es => exact hr ⟨es, rfl⟩
        | val a => cases z
        | zip a b => cases z
        | range3 es => cases z
/-! ## exceptions -/
theorem ok_exC (a : E) : SOk C cs kk M (.exC a) := fun X W st hX sx tk h Hs0 H0 => by
  rw [chkS] at h
  cases q : sExp st with
  | none => rw [q] at h; cases h
  | some u =>
    obtain ⟨e, p⟩ := u
    rw [q] at h
    have hst := sExp_s q
    subst hst
    simp only [Bool.and_eq_true] at h
    refine PS.imp (ps_expr (ok_E a X W e hX tk h.1).1 (sw_no h.2 _ _ _)) fun Dd σ H ⟨ρ, Hs, I, hp⟩ => ?_
    rw [exec] at hp
    exact use_D I hp fun d v Hj H' J _ hp => hp _ _ _ J
theorem ok_retC (a : E) : SOk C cs kk M (.retC a) := fun X W st hX sx tk h Hs0 H0 => by
  rw [chkS] at h
  cases q : sRet st with
  | none => rw [q] at h; cases h
  | some u =>
    cases u with
    | none => rw [q] at h; cases h
    | some e =>
      rw [q] at h
      obtain ⟨pos, rfl⟩ := sRet_s q
      refine PS.imp (ps_ret (ok_E a X W e hX tk h).1) fun Dd σ H ⟨ρ, Hs, I, hp⟩ => ?_
      rw [exec] at hp
      exact use_D I hp fun d v Hj H' J r hp => hp _ _ _ J.le r
theorem ok_rse (cl : Bool) (c : Str) (a : E) : SOk C cs kk M (.rse cl c a) := fun X W st hX sx tk h Hs0 H0 => by
  rw [chkS] at h
  cases q : sRse st with
  | none => rw [q] at h; cases h
  | some u =>
    obtain ⟨x, as⟩ := u
    rw [q] at h
    obtain ⟨p1, p2, p3, rfl⟩ := sRse_s q
    simp only [Bool.and_eq_true, decide_eq_true_eq] at h
    obtain ⟨⟨⟨⟨rfl, h1⟩, h2⟩, h25⟩, h3⟩ := h
    match as, h3 with
    | [], h3 => cases h3
    | _ :: _ :: _, h3 => cases h3
    | [e], h3 =>
      simp only [Bool.and_eq_true] at h3
      obtain ⟨⟨B, T⟩, hk⟩ := hX.exs h1
      obtain ⟨g1, g2, g3⟩ := gl_of h2
      by_cases hf : ∃ f, exFld x = some (some f)
      · obtain ⟨f, hf⟩ := hf
        obtain ⟨C', c1, c2, c3, c4, _⟩ := T.one x _ hf
        have TR := c4 f rfl
        refine PS.imp (ps_rse TR hX.calm tk (hX.room.mono hk) g1 c2 (ok_E a X W e hX tk h3.2).1 (star_cons h3.1) g2) fun Dd σ H ⟨ρ, Hs, I, hp⟩ => ?_
        rw [exec] at hp
        refine use_D I hp fun d v Hj H' J r hp => wRse_of TR.ox TR.no fun dd hd => ?_
        have hp : PstS X.K X.mg M Hs0 H0 (rseD x d ρ) Dd W := hp
        unfold rseD at hp
        rw [hf] at hp
        have l := Le.new1 (o := .xd [(f, v)]) J.le.sub hd
        exact hp _ _ _ _ _ (J.step l) ⟨c2, dd, v, rfl, upd_same, r.mono l.old⟩
      · exfalso
        split at h25
        · exact hf ⟨_, by assumption⟩
        · cases h25
theorem ok_rs0 (c : Str) : SOk C cs kk M (.rs0 c) := fun X W st hX sx tk h Hs0 H0 => by
  rw [chkS] at h
  cases q : sRse st with
  | none => rw [q] at h; cases h
  | some u =>
    obtain ⟨x, as⟩ := u
    rw [q] at h
    obtain ⟨p1, p2, p3, rfl⟩ := sRse_s q
    simp only [Bool.and_eq_true, decide_eq_true_eq] at h
    obtain ⟨⟨⟨rfl, h1⟩, h2⟩, h3⟩ := h
    match as, h3 with
    | [], h3 => cases h3
    | _ :: _ :: _, h3 => cases h3
    | [e], h3 =>
      cases q2 : xConst e with
      | none => simp only [q2] at h3; cases h3
      | some k =>
        obtain ⟨j, p, rfl⟩ := xConst_s q2
        cases k with
        | str m =>
          obtain ⟨⟨B, T⟩, hk⟩ := hX.exs h1
          obtain ⟨g1, g2, g3⟩ := gl_of h2
          by_cases hf : exFld x = some none
          · obtain ⟨C', c1, c2, c3, c4, c5⟩ := T.one x _ hf
            refine PS.imp (ps_rs0 (c5 rfl) c3.kC c3.xf.exC c3.ty hX.calm tk g1 c2 g2) fun Dd σ H ⟨ρ, Hs, I, hp⟩ => ?_
            rw [exec] at hp
            unfold rs0D at hp
            rw [hf] at hp
            exact hp _ _ _ _ _ I ⟨c2, rfl⟩
          · refine ⟨fun pins s σ H D I ⟨ρ, Hs, I', hp⟩ => ?_⟩
            exfalso
            rw [exec] at hp
            unfold rs0D at hp
            split at hp
            · exact hf (by assumption)
            · exact hp
        | _ => simp [xConst] at h3
theorem SInv.clear {K : PySem.W.Frag} {Hs0 H0 Hs H : Hp} {ρ : Env} {σ : L2.St} {i : Nat} {o : Option V} (I : SInv K M Hs0 H0 ρ Hs σ H) (hi : i ∉ M) : SInv K M Hs0 H0 (ρ.set i none) Hs (σ.set i o) H := by
  have ne : ∀ j, j ∈ M → i ≠ j := fun j h e => hi (e ▸ h)
  refine ⟨I.le, by simpa using I.len, fun j e hj q => ?_, fun j e hj q => ?_, fun j k p d e hj hk q1 q2 q3 q4 => ?_⟩
  · by_cases h : i = j
    · subst h
      by_cases hl : i < ρ.length
      · rw [List.getElem?_set_self hl] at q
        cases q
      · rw [List.getElem?_eq_none (by simpa using hl)] at q
        cases q
    · rw [List.getElem?_set_ne h] at q ⊢
      exact I.sl j e hj q
  · rw [List.getElem?_set_ne (ne j hj)] at q ⊢
    exact I.own j e hj q
  · rw [List.getElem?_set_ne (ne j hj)] at q1 q3
    rw [List.getElem?_set_ne (ne k hk)] at q2 q4
    exact I.inj j k p d e hj hk q1 q2 q3 q4
theorem ok_tryx (i j : Nat) {b : Ss} (hb : SsOk C cs kk M b) : SOk C cs kk M (.tryx i j b) := fun X W st hX sx tk h Hs0 H0 => by
  rw [chkS] at h
  cases q : sTry st with
  | none => rw [q] at h; cases h
  | some u =>
    obtain ⟨bd, x, n, y⟩ := u
    rw [q] at h
    obtain ⟨np, yp, ep, ap, pos', pos, rfl⟩ := sTry_s q
    simp only [Bool.and_eq_true, decide_eq_true_eq, Bool.not_eq_true'] at h
    obtain ⟨⟨⟨⟨⟨⟨⟨⟨⟨⟨⟨⟨rfl, h1⟩, h2⟩, h3⟩, h4⟩, h5⟩, h6⟩, h7⟩, h8⟩, h9⟩, h10⟩, h11⟩, h12⟩ := h
    have hi : i ∉ M := fun z => by
      have : M.contains i = true := List.contains_iff_mem.mpr z
      rw [this] at h9; cases h9
    have hj : j ∉ M := fun z => by
      have : M.contains j = true := List.contains_iff_mem.mpr z
      rw [this] at h10; cases h10
    obtain ⟨⟨B, T⟩, hk⟩ := hX.exs h1
    obtain ⟨g1, g2, g3⟩ := gl_of h2
    obtain ⟨l1, l2⟩ := loc_of (X := X) h8 rfl fun x _ => sx.fn x
    refine PS.imp (ps_try_keep (tb := fun W => tS X.K X.mg W M Hs0 H0 (execs (fnsOf cs) M b)) sx.stk sx.frm sx.noe (by rw [hX.names]; exact hX.nd) (by rw [hX.names]; exact h3) h4 (by rw [hX.names]; exact h7) l1 (sx.fn y) (c := .ref B) ⟨g1, g2, .inl T.mP⟩ tk h5 h6 fun W' pn xe tk' pas => ?_) fun Dd σ H ⟨ρ, Hs, I, hp⟩ => ?_
    · exact hb (X.tr pn xe) W' bd ⟨hX.calm, hX.names, hX.nd, hX.room, hX.fns, hX.cn, hX.free, hX.glob, hX.exs⟩ ⟨sx.fn, pas, sx.kind, sx.stk, sx.frm, sx.noe⟩ tk' h12 Hs0 H0
    · refine ⟨ρ, Hs, I, ?_⟩
      rw [exec] at hp
      cases z : execs (fnsOf cs) M b ρ with
      | ok f =>
        rw [z] at hp
        cases f with
        | nx ρ2 => exact hp
        | bk ρ2 => exact hp
        | ct ρ2 => exact hp
        | rt d => exact hp
        | xc x ρ2 =>
          intro c d Hi σ' H' J rx
          have hp : PstS X.K X.mg M Hs0 H0 (match excD x with | some d => R.ok (.nx ((ρ2.set i none).set j (some d))) | none => .stuck) Dd W := hp
          cases hx : excD x with
          | none => rw [hx] at hp; exact hp.elim
          | some d0 =>
            rw [hx] at hp
            obtain ⟨cls, fld⟩ := x
            have key : ∃ fo C', exFld cls = some fo ∧ PySem.W.nsIn X.K mainGlobals cls = some (some (.ref C')) ∧ X.mg cls = some (.ref C') ∧ ExC X.K B C' ∧ (∀ f, fo = some f → PySem.W.findIn X.K (.ref C') f = some none) := by
              cases q : exFld cls with
              | none => unfold excD at hx; simp only [q] at hx; cases hx
              | some fo =>
                obtain ⟨C', c1, c2, c3, c4, _⟩ := T.one cls fo q
                exact ⟨fo, C', rfl, c1, c2, c3, fun f e => (c4 f e).no⟩
            obtain ⟨fo, C', k1, k2, k3, k4, k5⟩ := key
            have ec : c = .ref C' := by
              have := rx.1
              rw [k3] at this
              exact (Option.some.inj this).symm
            subst ec
            refine ⟨true, k4.ex, fun _ a na => ?_, fun z => nomatch z⟩
            have l := Le.new1 (o := exk (.ref C') d a) J.le.sub na
            have J2 := (J.step l).clear (o := none) hi
            have fin : ∀ {d1 : D}, Rep X.K (upd Hi a (exk (.ref C') d a)) d1 (.ref a) → d1 = d0 → Dd.nx (((σ'.set i (some (.ref a))).set j (some (.ref a))).set i none) (upd H' a (exk (.ref C') d a)) := fun {d1} r e => by
              subst e
              have es : ((σ'.set i (some (.ref a))).set j (some (.ref a))).set i none = (σ'.set i none).set j (some (.ref a)) := by
                rw [List.set_comm _ _ h11, List.set_set, List.set_comm _ _ h11]
              rw [es]
              exact hp _ _ _ (J2.set hj r)
            cases fo with
            | none =>
              unfold excD at hx
              simp only [k1] at hx
              cases fld with
              | some _ => cases hx
              | none =>
                cases hx
                have hd : d = none := rx.2
                subst hd
                exact fin (.exv0 k1 k2 k4 upd_same) rfl
            | some f =>
              unfold excD at hx
              simp only [k1] at hx
              cases fld with
              | none => cases hx
              | some gy =>
                obtain ⟨g, y⟩ := gy
                simp only at hx
                split at hx
                · rename_i e
                  subst e
                  cases hx
                  obtain ⟨dd, v, e1, e2, e3⟩ := rx.2
                  subst e1
                  exact fin (.exv1 k1 k2 k4 (k5 f rfl) upd_same (l.old _ _ e2) (e3.mono l.old)) rfl
                · cases hx
      | exc x => rw [z] at hp; exact hp.elim
      | stuck => rw [z] at hp; exact hp.elim
/-! ## more statements -/
theorem Reps.eraseIdx {K : PySem.W.Frag} {H : Hp} : ∀ {xs : List D} {us : List V} (i : Nat), Reps K H xs us → Reps K H (xs.eraseIdx i) (us.eraseIdx i)
  | _, _, _, .nil => .nil
  | _, _, 0, .cons _ t => t
  | _, _, i + 1, .cons q t => .cons q (Reps.eraseIdx i t)
theorem Reps.reverse {K : PySem.W.Frag} {H : Hp} : ∀ {xs : List D} {us : List V}, Reps K H xs us → Reps K H xs.reverse us.reverse
  | _, _, .nil => .nil
  | _, _, .cons q t => by
    rw [List.reverse_cons, List.reverse_cons]
    exact (Reps.reverse t).append (.cons q .nil)
theorem use_PG2 {α β γ : Type} {Rel : Hp → α → β → Prop} {K : PySem.W.Frag} {mg : Str → Option Value} {Hs0 H0 H : Hp} {ρ : Env} {σ : L2.St} {r : R α} {g : α → R γ} {k : γ → R Fl} {Dd : Ends} {W : WX} {Q : β → Hp → Prop} {Hb : Hp}
    (hb : ∀ Hi H', Le Hb H Hi H' → ∃ Hj, SInv K M Hs0 H0 ρ Hj σ H' ∧ Down false Hi Hj)
    (h : PstS K mg M Hs0 H0 (lift false (fun _ => true) (r >>= g) ρ k) Dd W) (q : ∀ a b Hi H', r = .ok a → Le Hb H Hi H' → Rel Hi a b → PstS K mg M Hs0 H0 (lift false (fun _ => true) (g a) ρ k) Dd W → Q b H') : Pst Rel K mg Hb H r Q (fun c d H' => W c d σ H') := by
  cases r with
  | ok a => exact fun v Hi H' le ra => q a v Hi H' rfl le ra h
  | exc x =>
    intro c d Hi H' le rx
    have h : PstS K mg M Hs0 H0 (if false || x.lf then .ok (.xc x ρ) else .stuck) Dd W := h
    by_cases z : (false || x.lf) = true
    · rw [if_pos z] at h
      obtain ⟨Hj, J, dn⟩ := hb Hi H' le
      exact h c d Hj σ H' J (rx.down dn z)
    · rw [if_neg z] at h
      exact h.elim
  | stuck => exact h.elim
/-- a new list that a call gives: it stands beside what stood -/
theorem call_new {K : PySem.W.Frag} {mg : Str → Option Value} {Hs0 H0 H : Hp} {ρ : Env} {σ : L2.St} {ds l : List D} {vs : List V} {Hb Hi H1 : Hp} {n : Nat} {g : List D → R D} {W : WX} {Q : VK}
    (e1 : Ex Hb H) (e3 : ∀ Hi H', Le Hb H Hi H' → ∃ Hj, SInv K M Hs0 H0 ρ Hj σ H' ∧ Down false Hi Hj) (le : Le Hb H Hi H1) (r : Reps K Hi ds vs) (hz : D.lfs ds = true) (hn : ds.length = n) (hg : g ds = .ok (.lst l)) (hl : D.lfs l = true)
    (q : ∀ p ws Hj H', SInv K M Hs0 H0 ρ Hj σ H' → Hj p = some (.lst ws) → Reps K Hj l ws → SqL K H' p ws → Q (.ref p) H') :
    spOf K mg n g vs H1 Q (fun c d H' => W c d σ H') := by
  obtain ⟨Ht, J0, dn0⟩ := e3 Hb H (Le.refl e1)
  refine ⟨noL Hi, ds, (noL_sub Hi).trans le.sub, r.drop (noL_keep Hi) hz, hn, ?_⟩
  rw [hg]
  intro v Hk H2 l2 rv
  obtain ⟨p, ws, rfl, q1, q2⟩ := rv.lstI
  have hnew : H1 p = none := by
    rcases l2.new p _ q1 with w | w
    · exact absurd w noL_not
    · exact w
  have hHp : H p = none := le.free hnew
  have toH : ∀ a, H1 a = none → H a = none := fun a h => le.free h
  let Hj : Hp := fun a => match Ht a with
    | some o => some o
    | none => if H a = none then Hk a else none
  have hj1 : ∀ a o, Ht a = some o → Hj a = some o := fun a o h => by show (match Ht a with | some o => some o | none => if H a = none then Hk a else none) = _; rw [h]
  have hj2 : ∀ a, H a = none → Hj a = Hk a := fun a h => by
    have : Ht a = none := by
      cases z : Ht a with
      | none => rfl
      | some o => rw [J0.le.sub a o z] at h; cases h
    show (match Ht a with | some o => some o | none => if H a = none then Hk a else none) = _
    rw [this]
    simp only [if_pos h]
  have hj3 : ∀ a o, Hj a = some o → Ht a = some o ∨ (H a = none ∧ Hk a = some o) := fun a o h => by
    cases z : Ht a with
    | some o' =>
      rw [hj1 a o' z] at h
      exact .inl h
    | none =>
      by_cases w : H a = none
      · rw [hj2 a w] at h
        exact .inr ⟨w, h⟩
      · have h : (match Ht a with | some o => some o | none => if H a = none then Hk a else none) = some o := h
        rw [z] at h
        simp only [if_neg w] at h
        cases h
  have lj : Le Ht H Hj H2 := ⟨hj1, le.ex.trans l2.ex, fun a o h => by
    rcases hj3 a o h with w | w
    · exact l2.ex a o (le.ex a o (J0.le.sub a o w))
    · exact l2.sub a o w.2, fun a o h => by
    rcases hj3 a o h with w | w
    · exact .inl w
    · exact .inr w.1⟩
  have keep : ExN Hk Hj := fun a o h hnl => by
    by_cases w : H a = none
    · rw [hj2 a w]; exact h
    · have hi : noL Hi a = some o := by
        rcases l2.new a o h with z | z
        · exact z
        · exact absurd (toH a z) w
      have hi := noL_sub Hi a o hi
      rcases le.new a o hi with z | z
      · exact hj1 a o (dn0.keep a o z hnl)
      · exact absurd z w
  exact q p ws Hj H2 (J0.step lj) (by rw [hj2 p hHp]; exact q1) (q2.drop keep hl) (SqL.of (l2.sub _ _ q1))
theorem ok_forC (t : Tgt) (k : Nat) (es : Es) {b : Ss} (hb : SsOk C cs kk M b) : SOk C cs kk M (.forC t k es b) := fun X W st hX sx tk h Hs0 H0 => by
  rw [chkS] at h
  cases q : sFor st with
  | none => rw [q] at h; cases h
  | some u =>
    obtain ⟨tg, e, p⟩ := u
    rw [q] at h
    obtain ⟨pos, rfl⟩ := sFor_s q
    simp only [Bool.and_eq_true] at h
    obtain ⟨⟨⟨⟨⟨h1, h2⟩, hnc⟩, hpe⟩, h4⟩, h5⟩ := h
    have hi := allM h5
    have hg : PG X tg (gOf X.K t) := pg_of hX.calm hX.names hX.nd rfl (fun x _ => sx.fn x) h1
    have hbody : PSs X p (tBody X.K X.mg W M H0 (execs (fnsOf cs) M b)) := ⟨fun pins s σ H Dd I ⟨Hs1, hh⟩ => (hb X W p hX sx tk h4 Hs1 H0).run pins s σ H Dd I hh⟩
    rw [chk] at h2
    cases q9 : xCall e with
    | none => rw [q9] at h2; cases h2
    | some w =>
      obtain ⟨x, xs⟩ := w
      rw [q9] at h2
      obtain ⟨p9, pos9, rfl⟩ := xCall_s q9
      simp only [Bool.and_eq_true, decide_eq_true_eq] at h2
      obtain ⟨⟨⟨c1, c2⟩, c3⟩, c4⟩ := h2
      rw [hX.cn, List.getElem?_map] at c1
      cases q2 : cs[k]? with
      | none => rw [q2] at c1; cases c1
      | some cal =>
        rw [q2] at c1
        have c1 : some (cal.name, cal.ps.length) = some (x, es.len) := c1
        simp only [Option.some.injEq, Prod.mk.injEq] at c1
        obtain ⟨rfl, h5'⟩ := c1
        obtain ⟨a1, a2, a3, _⟩ := (ok_Es es).args X W xs hX tk c4
        cases xs with
        | nil => exact absurd a3.symm c2
        | cons y ys =>
          obtain ⟨g1, g2, g3⟩ := gl_of c3
          have F := hX.fns cal (List.mem_of_getElem? q2)
          have hcall := pe_callS (pos := pos9) (p := p9) F.ok hX.room g1 F.gl F.kp F.bd (fun σ => passAt tk σ) a1 g2 (star_cons (a2 y (by simp))) (star_any fun x hx => a2 x (by simp [hx]))
          refine PS.imp (ps_for sx.pas hX.calm (pi_list (tg := tg) hcall) hg hbody (folded_ok hpe)) fun Dd σ H ⟨ρ, Hs, I, hp⟩ => ?_
          rw [exec] at hp
          unfold callC at hp
          obtain ⟨Hb, e1, e2, _, e3⟩ := I.enter false
          refine ⟨_, Hb, e1, e2, use_PG2 (Rel := Reps X.K) e3 hp fun ds vs Hi H1 _ le r hp => ?_⟩
          by_cases hz : D.lfs ds = true
          rotate_left
          · rw [if_neg hz] at hp
            exact hp.elim
          rw [if_pos hz] at hp
          have eg : (fnsOf cs)[k]? = some (cal.ps.length, cal.g) := by
            unfold fnsOf
            rw [List.getElem?_map, q2]
            rfl
          rw [eg] at hp
          simp only at hp
          by_cases hn : ds.length = cal.ps.length
          rotate_left
          · rw [if_neg hn] at hp
            exact hp.elim
          rw [if_pos hn] at hp
          cases hgd : cal.g ds with
          | stuck => rw [hgd] at hp; exact hp.elim
          | exc x => rw [hgd] at hp; exact hp.elim
          | ok d =>
            rw [hgd] at hp
            cases d with
            | lst l =>
              simp only at hp
              by_cases hl : D.lfs l = true
              rotate_left
              · rw [if_neg hl] at hp
                exact hp.elim
              rw [if_pos hl] at hp
              refine call_new e1 e3 le r hz hn hgd hl fun p ws Hj H' J hjp hr hsq => ⟨p, rfl, ⟨ws, hsq⟩, ?_⟩
              exact for_turns (walk_lst hjp hr) J.rebase hi (PstS.base J.le (hp : PstS X.K X.mg M Hs0 H0 (forGo t (execs (fnsOf cs) M b) l ρ) Dd W))
            | _ => exact hp.elim
theorem ok_unset (i : Nat) : SOk C cs kk M (.unset i) := fun X W st hX sx tk h Hs0 H0 => by
  rw [chkS] at h
  cases q : sAsg st with
  | none => rw [q] at h; cases h
  | some u =>
    obtain ⟨tg, e, p⟩ := u
    rw [q] at h
    have hst := sAsg_s q
    subst hst
    simp only [Bool.and_eq_true] at h
    obtain ⟨⟨h1, h2⟩, h4⟩ := h
    have hi : i ∈ M := by simpa using h4
    have hg : PG X tg (gOf X.K (.nm i)) := pg_of hX.calm hX.names hX.nd rfl (fun x _ => sx.fn x) h1
    cases q2 : xConst e with
    | none => rw [q2] at h2; cases h2
    | some c =>
      rw [q2] at h2
      obtain ⟨j, pp, rfl⟩ := xConst_s q2
      cases c with
      | none =>
        have hw : swappedStores [tg] (.Constant .none j pp) X.env = pure none := by
          have h1 : (match xName tg with | some x => decide (C.N[i]? = some x) && locOk X.env.scope X.env.scope x | none => false) = true := h1
          cases z : xName tg with
          | none => rw [z] at h1; cases h1
          | some x =>
            obtain ⟨px, rfl⟩ := xName_s z
            rfl
        refine PS.imp (ps_asg pe_non hg (by exact rfl) hw (tgt_stores h1 X.env)) fun Dd σ H ⟨ρ, Hs, I, hp⟩ => ?_
        rw [exec] at hp
        refine hp Hs (σ.set i (some .non)) H ⟨I.le, by simpa using I.len, fun j e hj q => ?_, fun j e hj q => ?_, fun j k p d e hj hk q1 q2 q3 q4 => ?_⟩
        · have ne : i ≠ j := fun z => hj (z ▸ hi)
          rw [List.getElem?_set_ne ne] at q ⊢
          exact I.sl j e hj q
        · by_cases ne : i = j
          · subst ne
            by_cases hl : i < ρ.length
            · rw [List.getElem?_set_self hl] at q
              cases q
            · rw [List.getElem?_eq_none (by simpa using hl)] at q
              cases q
          · rw [List.getElem?_set_ne ne] at q ⊢
            exact I.own j e hj q
        · have n1 : i ≠ j := fun z => by
            subst z
            by_cases hl : i < ρ.length
            · rw [List.getElem?_set_self hl] at q1
              cases q1
            · rw [List.getElem?_eq_none (by simpa using hl)] at q1
              cases q1
          have n2 : i ≠ k := fun z => by
            subst z
            by_cases hl : i < ρ.length
            · rw [List.getElem?_set_self hl] at q2
              cases q2
            · rw [List.getElem?_eq_none (by simpa using hl)] at q2
              cases q2
          rw [List.getElem?_set_ne n1] at q1 q3
          rw [List.getElem?_set_ne n2] at q2 q4
          exact I.inj j k p d e hj hk q1 q2 q3 q4
      | _ => cases h2
theorem ok_rev (i : Nat) : SOk C cs kk M (.rev i) := fun X W st hX sx tk h Hs0 H0 => by
  rw [chkS] at h
  cases q : sExp st with
  | none => rw [q] at h; cases h
  | some u =>
    obtain ⟨e, p⟩ := u
    rw [q] at h
    have hst := sExp_s q
    subst hst
    simp only [Bool.and_eq_true] at h
    have hi : i ∈ M := by simpa using h.1
    obtain ⟨x, px, ap, cp, rfl, hl, ho⟩ := chkM0_s hX h.2
    refine PS.imp (ps_expr (pe_bm0 PySem.F.plainAttrs_list PySem.F.slot_list_reverse PySem.F.type_list_reverse mt_reverse ho rfl hl)) fun Dd σ H ⟨ρ, Hs, I, hp⟩ => ?_
    rw [exec] at hp
    unfold revD at hp
    split at hp
    · rename_i xs q0
      obtain ⟨p, xs', vs, e, q1, b, c, f, g⟩ := I.own i _ hi q0
      cases e
      exact ⟨.ref p, q1, .inl ⟨rfl, vs, SqL.of f⟩, p, vs, rfl, rfl, f, hp _ _ _ (I.change hi q0 q1 g.reverse)⟩
    · exact hp.elim
theorem ok_apop (i j : Nat) (a : E) : SOk C cs kk M (.apop i j a) := fun X W st hX sx tk h Hs0 H0 => by
  rw [chkS] at h
  cases q : sExp st with
  | none => rw [q] at h; cases h
  | some u =>
    obtain ⟨e, p⟩ := u
    rw [q] at h
    have hst := sExp_s q
    subst hst
    simp only [Bool.and_eq_true, decide_eq_true_eq] at h
    obtain ⟨⟨⟨m1, m2⟩, hij⟩, h⟩ := h
    have hi : i ∈ M := by simpa using m1
    have hj : j ∈ M := by simpa using m2
    unfold chkAp at h
    cases z : xMeth e with
    | none => rw [z] at h; cases h
    | some w =>
      obtain ⟨o, n, xs, l⟩ := w
      rw [z] at h
      obtain ⟨ap, cp, rfl, hl⟩ := xMeth_s z
      simp only [Bool.and_eq_true, decide_eq_true_eq] at h
      obtain ⟨⟨⟨rfl, h1⟩, h2⟩, h3⟩ := h
      cases z2 : xName o with
      | none => rw [z2] at h2; cases h2
      | some x =>
        rw [z2] at h2
        obtain ⟨px, rfl⟩ := xName_s z2
        simp only [Bool.and_eq_true, decide_eq_true_eq] at h2
        obtain ⟨v1, v2, v3⟩ := vis_of h2.2
        have ho : PE X (.Name x px) (tVar i) := pe_var (by rw [hX.names]; exact h2.1) v1 v2 v3
        match xs, h3 with
        | [], h3 => cases h3
        | _ :: _ :: _, h3 => cases h3
        | [y], h3 =>
          obtain ⟨x2, px2, ap2, cp2, y2, rfl, hl2, ho2, hy2, hpl2⟩ := chkM_s hX tk h3
          have hpop := pe_bm PySem.F.plainAttrs_list PySem.F.slot_list_pop PySem.F.type_list_pop mt_popAt ho2 (pa_cons hy2 pa_nil (star_cons hpl2)) rfl (few1 hpl2) hl2 (star_cons hpl2) rfl
          refine PS.imp (ps_expr (pe_bm PySem.F.plainAttrs_list PySem.F.slot_list_append PySem.F.type_list_append mt_append ho (pa_cons hpop pa_nil (star_cons rfl)) rfl (few1 rfl) (by rw [← hl]; exact h1) (star_cons rfl) rfl)) fun Dd σ H ⟨ρ, Hs, I, hp⟩ => ?_
          rw [exec] at hp
          obtain ⟨xs, q0, hp⟩ := haveL_s hp
          obtain ⟨ys, qy, hp⟩ := haveL_s hp
          obtain ⟨p, xs', vs, e, q1, b, c, f, g⟩ := I.own i _ hi q0
          obtain ⟨p2, ys', ws, e', qs2, b2, c2, f2, g2⟩ := I.own j _ hj qy
          refine ⟨.ref p, q1, .inl ⟨rfl, vs, SqL.of f⟩, .ref p2, qs2, .inl ⟨rfl, ws, SqL.of f2⟩, use_D I hp fun d v Hj H' J r hp => ?_⟩
          unfold apopD at hp
          simp only [q0, qy] at hp
          cases d with
          | int k =>
            simp only at hp
            cases hs : seqIndex? k ys.length with
            | none => simp only [hs] at hp; exact hp.elim
            | some n =>
              simp only [hs] at hp
              cases hyn : ys[n]? with
              | none => simp only [hyn] at hp; exact hp.elim
              | some y =>
                simp only [hyn] at hp
                by_cases hz : xs.length < 16777216 ∧ -1000000 ≤ k ∧ k ≤ 1000000
                rotate_left
                · rw [if_neg hz] at hp
                  exact hp.elim
                rw [if_pos hz] at hp
                obtain ⟨p3, ys3, ws3, e3, q3, b3, c3, f3, g3⟩ := J.own j _ hj qy
                cases e3
                rw [qs2] at q3
                cases q3
                obtain ⟨yv, hyv, ry⟩ := g3.get hyn
                have J1 := J.change hj qy qs2 (g3.eraseIdx n)
                have q0' : (ρ.set j (some (.lst (ys.eraseIdx n))))[i]? = some (some (.lst xs)) := by
                  rw [List.getElem?_set_ne (Ne.symm hij)]
                  exact q0
                obtain ⟨p4, xs4, vs4, e4, q4, b4, c4, f4, g4⟩ := J1.own i _ hi q0'
                cases e4
                rw [q1] at q4
                cases q4
                refine ⟨p2, ws3, k, n, yv, rfl, by rw [r.intI], f3, by omega, by omega, by rw [← g3.length]; exact hs, hyv, ?_⟩
                exact ⟨p, vs4, yv, rfl, rfl, f4, by rw [size_eq, ← g4.length]; exact hz.1, hp _ _ _ (J1.change hi q0' q1 (g4.append (.cons ry .nil)))⟩
          | _ => exact hp.elim
mutual
theorem ok_S : ∀ s : S, SOk C cs kk M s
  | .asg cl t e => ok_asg cl t e
  | .own cl i o => ok_own cl i o
  | .app cl i e => ok_app cl i e
  | .ext cl i e => ok_ext cl i e
  | .put cl i j e => ok_put cl i j e
  | .ex e => ok_ex e
  | .ite c a b => ok_ite (ok_Ss a) (ok_Ss b)
  | .whl n c b => ok_whl n (ok_Ss b)
  | .for_ cl t it b => ok_for cl t it (ok_Ss b)
  | .ret e => ok_ret e
  | .retN => ok_retN
  | .pass => ok_pass
  | .brk => ok_brk
  | .cont => ok_cont
  | .nev => ok_nev
  | .clr i => ok_clr i
  | .pop i => ok_pop i
  | .exC e => ok_exC e
  | .retC e => ok_retC e
  | .rse cl c e => ok_rse cl c e
  | .rs0 c => ok_rs0 c
  | .tryx i j b => ok_tryx i j (ok_Ss b)
  | .forC t k es b => ok_forC t k es (ok_Ss b)
  | .apop i j e => ok_apop i j e
  | .unset i => ok_unset i
  | .rev i => ok_rev i
theorem ok_Ss : ∀ s : Ss, SsOk C cs kk M s
  | .nil => oks_nilS
  | .cons s ss => oks_consS (ok_S s) (ok_Ss ss)
end
end

/-! ## a def -/
def env0 (n : Nat) (ds : List D) : Env := ds.map some ++ List.replicate (n - ds.length) none
def outD (r : R Fl) : R D := match r with
  | .ok (.rt d) => .ok d
  | .ok (.nx _) => .ok .non
  | .ok (.xc x _) => .exc x
  | _ => .stuck
def runFn (Φ : Fns) (n : Nat) (M : List Nat) (body : Ss) (ds : List D) : R D := outD (execs Φ M body (env0 n ds))
structure Def where
  N : List Str
  np : Nat
  M : List Nat
  body : Ss
def Def.run (d : Def) (Φ : Fns) : List D → R D := runFn Φ d.N.length d.M d.body
theorem def_ok {P : Program} {w : World} {K : PySem.W.Frag} {mg : Str → Option Value} {base : Heap} {x qual : Str} {st : Stmt} {f : Addr} {fd : FuncData} {ps : List Str} {k : Nat} {C : Cfg} {cs : List Cal} {M : List Nat} {body : Ss}
    (F : Fun K x qual st f fd) (S : FnScope C.N ps (defScope st)) (fns : ∀ c ∈ cs, c.Ok P w K mg base k) (cn : C.cn = cs.map fun c => (c.name, c.ps.length)) (free : ∀ x ∈ C.bl, mg x = none) (glob : ∀ p ∈ C.gl, ∃ u, mg p.1 = some u ∧ RelV p.2.v u)
    (exs : C.ex = true → (∃ B, ExAll P w K mg base B) ∧ 2 ≤ k)
    (hb : chkSs C (defScope st) M body (defBody st) = true) (hm : (M.all fun i => decide (ps.length ≤ i)) = true) : FnOk P w K mg base (L2.CX P w) (k + 1) f fd ps (spOf K mg ps.length (runFn (fnsOf cs) C.N.length M body)) := by
  refine F.okX S (fun vs H Q E h => ?_) (fun cdv A outer s H vs Q E hr h => ?_)
  · obtain ⟨Hs, ds, he, r, hl, _⟩ := h
    rw [← r.length, hl]
  · obtain ⟨Hs, ds, he, r, hl, hp⟩ := h
    have hX : XOk (cxOf (L2.CX P w) P w K mg base C.N qual (defScope st) f cdv A outer s H E) C cs k := ⟨rfl, rfl, S.nd, hr, fns, cn, free, glob, exs⟩
    have sx : SX (cxOf (L2.CX P w) P w K mg base C.N qual (defScope st) f cdv A outer s H E) := ⟨fun _ => rfl, passes_of rfl, S.kind, rfl, rfl, rfl⟩
    refine ⟨_, ok_Ss body _ (fun c d _ H' => E c d H') _ hX sx (L2.takes_of rfl rfl rfl rfl) hb Hs H, env0 C.N.length ds, Hs, ?_, ?_⟩
    · have hN : ds.length = vs.length := r.length
      have low : ∀ i d, (env0 C.N.length ds)[i]? = some (some d) → i < ds.length ∧ ds[i]? = some d := fun i d q => by
        unfold env0 at q
        by_cases hi : i < ds.length
        · rw [List.getElem?_append_left (by simpa using hi), List.getElem?_map] at q
          cases z : ds[i]? with
          | none => rw [z] at q; cases q
          | some a => rw [z] at q; cases q; exact ⟨hi, rfl⟩
        · rw [List.getElem?_append_right (by simpa using hi), List.getElem?_replicate] at q
          split at q <;> cases q
      have noM : ∀ i d, i ∈ M → (env0 C.N.length ds)[i]? = some (some d) → False := fun i d hi q => by
        have h1 := (low i d q).1
        have h2 := List.all_eq_true.mp hm i hi
        have h2 : ps.length ≤ i := of_decide_eq_true h2
        omega
      refine ⟨Le.refl he, ?_, fun i d hi q => ?_, fun i d hi q => (noM i d hi q).elim, fun i j p d e hi hj q1 => (noM i d hi q1).elim⟩
      · show (env0 C.N.length ds).length ≤ (L2.start C.N vs).length
        unfold env0 L2.start
        simp [hN]
      · obtain ⟨h1, h2⟩ := low i d q
        obtain ⟨v, q1, q2⟩ := r.get h2
        refine ⟨v, ?_, q2⟩
        show (L2.start C.N vs)[i]? = _
        unfold L2.start
        rw [List.getElem?_append_left (by rw [List.length_map, ← hN]; exact h1), List.getElem?_map, q1]
        rfl
    · unfold runFn at hp
      show PstS K mg M Hs H (execs (fnsOf cs) M body (env0 C.N.length ds)) _ _
      cases z : execs (fnsOf cs) M body (env0 C.N.length ds) with
      | ok fl =>
        rw [z] at hp
        cases fl with
        | nx ρ => exact fun Hs σ H I => hp _ _ _ I.le .non
        | rt d => exact hp
        | xc x ρ => exact fun c d Hs σ H I xr => hp c d Hs H I.le xr
        | bk ρ => exact hp.elim
        | ct ρ => exact hp.elim
      | exc x => rw [z] at hp; exact hp.elim
      | stuck => rw [z] at hp; exact hp.elim
end Py

namespace Py
open PySem PySem.Spec PyProof.Rows L2
/-! ## what the top has written; calls; the end -/
theorem Cal.Ok.mono {c : Cal} {P : Program} {w : World} {K : PySem.W.Frag} {mg : Str → Option Value} {base : Heap} {j k : Nat} (h : c.Ok P w K mg base j) (l : j ≤ k) : c.Ok P w K mg base k := ⟨h.ok.mono l, h.gl, h.kp, h.bd⟩
structure FactP (K : PySem.W.Frag) (x : Str) (st : Stmt) (f : Addr) (fd : FuncData) : Prop where
  a : PySem.W.nsIn K mainGlobals x = some (some (.ref f))
  F : Fun K x x st f fd
theorem fact_mk {K : PySem.W.Frag} {x : Str} {st : Stmt} {f : Addr} {oc : Value} {od an : Option Addr} {osl : Array (Option Value)} {kV doc pm cdv ct : Value} (a : PySem.W.nsIn K mainGlobals x = some (some (.ref f)))
    (l : K.lookup f = some ⟨oc, od, .func (PySem.W.fnOf x x (defArgs st) (defBody st) (defScope st) .none kV doc pm an cdv ct), osl⟩)
    (c : PySem.W.codeIn K cdv x = true) (k : PySem.W.keepIn K (.ref f) = true) : FactP K x st f (PySem.W.fnOf x x (defArgs st) (defBody st) (defScope st) .none kV doc pm an cdv ct) := ⟨a, fun_mk l c k⟩
section
variable {P : Program} {w : World} {K : PySem.W.Frag} {mg : Str → Option Value} {base : Heap}
theorem fns_nil {k : Nat} : ∀ c ∈ ([] : List Cal), c.Ok P w K mg base k := fun c h => by cases h
theorem fns_cons {c : Cal} {cs : List Cal} {j k : Nat} (h : c.Ok P w K mg base j) (l : j ≤ k) (t : ∀ c ∈ cs, c.Ok P w K mg base k) : ∀ d ∈ c :: cs, d.Ok P w K mg base k := fun d hd => by
  rcases List.mem_cons.mp hd with rfl | hd
  · exact h.mono l
  · exact t d hd
theorem free_nil : ∀ x ∈ ([] : List Str), mg x = none := fun x hx => by cases hx
theorem free_cons {x : Str} {l : List Str} (h : mg x = none) (t : ∀ y ∈ l, mg y = none) : ∀ y ∈ x :: l, mg y = none := fun y hy => by
  rcases List.mem_cons.mp hy with rfl | hy
  · exact h
  · exact t y hy
theorem glob_nil : ∀ p ∈ ([] : List (Str × Cst)), ∃ u, mg p.1 = some u ∧ RelV p.2.v u := fun x hx => by cases hx
theorem glob_cons {x : Str} {c : Cst} {l : List (Str × Cst)} (h : ∃ u, mg x = some u ∧ RelV c.v u) (t : ∀ p ∈ l, ∃ u, mg p.1 = some u ∧ RelV p.2.v u) : ∀ p ∈ (x, c) :: l, ∃ u, mg p.1 = some u ∧ RelV p.2.v u := fun p hp => by
  rcases List.mem_cons.mp hp with rfl | hp
  · exact h
  · exact t p hp
theorem cal_ok {x : Str} {st : Stmt} {f : Addr} {fd : FuncData} {ps : List Str} {k : Nat} {C : Cfg} {cs : List Cal} {M : List Nat} {body : Ss} {n : Nat}
    (F : FactP K x st f fd) (gl : mg x = some (.ref f)) (S : FnScope C.N ps (defScope st)) (bd : Binds K fd ps []) (fns : ∀ c ∈ cs, c.Ok P w K mg base k) (cn : C.cn = cs.map fun c => (c.name, c.ps.length)) (free : ∀ x ∈ C.bl, mg x = none) (glob : ∀ p ∈ C.gl, ∃ u, mg p.1 = some u ∧ RelV p.2.v u)
    (exs : C.ex = true → (∃ B, ExAll P w K mg base B) ∧ 2 ≤ k)
    (hb : chkSs C (defScope st) M body (defBody st) = true) (hm : (M.all fun i => decide (ps.length ≤ i)) = true) (hn : C.N.length = n) {g : List D → R D} (hg : runFn (fnsOf cs) n M body = g) : (Cal.mk x f fd ps g).Ok P w K mg base (k + 1) :=
  ⟨by subst hn; subst hg; exact def_ok F.F S fns cn free glob exs hb hm, gl, F.F.kp, bd⟩
/-- the law's promise, by its script alone -/
def spL (K : PySem.W.Frag) (n : Nat) : Sp := fun vs H Q _ => ∃ (a : Addr) (ns : List Int), vs = [.ref a] ∧ ns.length ≤ n ∧ Only H ∧ SqL K H a (ns.map V.int) ∧ ∀ H', Q (.bl true) H'
theorem end_ok {c : Cal} {k n : Nat} (h : c.Ok P w K mg base k) {x : Str} (hx : c.ps = [x]) (hg : ∀ ns : List Int, ns.length ≤ n → c.g [.scr ns] = .ok (.bl true)) : FnOk P w K mg base (L2.CX P w) k c.f c.fd [x] (spL K n) := by
  have ho := h.ok
  rw [hx] at ho
  refine ho.imp fun vs H Q E q => ?_
  obtain ⟨a, ns, rfl, hl, hO, hS, hQ⟩ := q
  refine ⟨H, [.scr ns], Ex.refl _, .cons (.scr ?_) .nil, rfl, ?_⟩
  · rcases hS with hS | hS
    · rcases hS with hS | ⟨o, hS⟩
      · rcases hO a with q | ⟨o, xs, q⟩
        · rw [q] at hS; cases hS
        · rw [q] at hS; cases hS
      · exact .inl ⟨o, hS⟩
    · exact .inr fun H' => .inr hS
  · rw [hg ns hl]
    intro v Hi H' _ r
    rw [r.blI]
    exact hQ _
theorem cx_never {P : Program} {w : World} {H : Hp} {s : Shared} {e : Value} {s' : Shared} (h : L2.CX P w [] H s (fun _ _ _ => False) e s') : False := by
  obtain ⟨_, _, _, _, _, _, _, _, _, _, _, _, z⟩ := h
  exact z
end
/-! ## the exception classes' facts -/
def exNames : List Str := ["NoFloor", "NoMore", "NoPlace", "NoPair", "NoWay", "NoChange", "NoCount", "NoName", "NoRow"]
theorem exFld_mem {c : Str} {fo : Option Str} (h : exFld c = some fo) : c ∈ exNames := by
  unfold exFld at h
  unfold exNames
  repeat' split at h
  all_goals first | cases h; done | (subst_vars; simp)
def exFB (K : PySem.W.Frag) (c : Str) (C : Addr) : Bool := match exFld c with
  | some (some f) => oexB K C && (PySem.W.findIn K (.ref C) f == some none)
  | some none => PySem.W.excIn K C [.type "ValueError", .type "Exception", .type "BaseException", .type "object"] "ValueError.__new__"
  | none => false
def exBools (K : PySem.W.Frag) (B : Addr) (l : List (Str × Addr)) : Bool :=
  (l.all fun p => exB K B p.2 && exFB K p.1 p.2) && (l.all fun p => l.all fun q => PySem.W.kitOne K (.ref p.2) (.ref q.2) == some (decide (p.1 = q.1))) &&
  (l.all fun p => PySem.W.kitOne K (.type "NoneType") (.ref p.2) == some false) && (PySem.W.kitOne K (.type "NoneType") (.ref B) == some false) && (PySem.W.subIn K (.ref B) (.type "BaseException") == some true)
/-- an __init__ as it stands -/
def InitP (K : PySem.W.Frag) (qual : Str) (st : Stmt) (C : Addr) : Prop := ∃ (fI : Addr) (fd : FuncData), PySem.W.findIn K (.ref C) "__init__" = some (some (.ref fI)) ∧ PySem.W.typeIn K (.ref fI) = some (.type "function") ∧ Fun K "__init__" qual st fI fd
theorem init_mk {K : PySem.W.Frag} {qual : Str} {st : Stmt} {C fI : Addr} {oc : Value} {od an : Option Addr} {osl : Array (Option Value)} {kV doc pm cdv ct : Value} (a : PySem.W.findIn K (.ref C) "__init__" = some (some (.ref fI))) (t : PySem.W.typeIn K (.ref fI) = some (.type "function"))
    (l : K.lookup fI = some ⟨oc, od, .func (PySem.W.fnOf "__init__" qual (defArgs st) (defBody st) (defScope st) .none kV doc pm an cdv ct), osl⟩)
    (c : PySem.W.codeIn K cdv qual = true) (k : PySem.W.keepIn K (.ref fI) = true) : InitP K qual st C := ⟨fI, _, a, t, fun_mk l c k⟩
/-- .. walked -/
def InitO (P : Program) (w : World) (K : PySem.W.Frag) (mg : Str → Option Value) (base : Heap) (p : Str × Addr) : Prop := ∀ f, exFld p.1 = some (some f) → ∃ (fI : Addr) (fd : FuncData), PySem.W.findIn K (.ref p.2) "__init__" = some (some (.ref fI)) ∧ PySem.W.typeIn K (.ref fI) = some (.type "function") ∧
  FnOk P w K mg base (L2.CX P w) 1 fI fd ["self", f] (spI K f) ∧ Binds K fd ["self", f] []
section
variable {P : Program} {w : World} {K : PySem.W.Frag} {mg : Str → Option Value} {base : Heap}
theorem inito_mk {qual c f : Str} {st : Stmt} {C B : Addr} (I : InitP K qual st C) (hf : exFld c = some (some f)) (S : FnScope ["self", f] ["self", f] (defScope st)) (hb : chkI f (defScope st) (defBody st) = true)
    (bd : ∀ {fI : Addr} {fd : FuncData}, Fun K "__init__" qual st fI fd → Binds K fd ["self", f] []) (hm : mg "PurseError" = some (.ref B)) (T0 : BaseC K B) : InitO P w K mg base (c, C) := fun f' e => by
  rw [hf] at e
  cases e
  obtain ⟨fI, fd, h1, h2, h3⟩ := I
  exact ⟨fI, fd, h1, h2, init_ok h3 S hb hm T0, bd h3⟩
theorem inito_no {c : Str} {C : Addr} (h : exFld c = some none) : InitO P w K mg base (c, C) := fun f e => by
  rw [h] at e
  cases e
theorem exall_mk {h : Heap} {B : Addr} {l : List (Str × Addr)} (X : K.In h) (G : h.Ns mainGlobals mg) (xP : PySem.W.nsIn K mainGlobals "PurseError" = some (some (.ref B))) (hn : ∀ p ∈ l, PySem.W.nsIn K mainGlobals p.1 = some (some (.ref p.2))) (hl : l.map (·.1) = exNames)
    (hb : exBools K B l = true) (hi : ∀ p ∈ l, InitO P w K mg base p) : ExAll P w K mg base B := by
  unfold exBools at hb
  simp only [Bool.and_eq_true, List.all_eq_true, beq_iff_eq] at hb
  obtain ⟨⟨⟨⟨b1, b2⟩, b3⟩, b4⟩, b5⟩ := hb
  have look : ∀ c fo, exFld c = some fo → ∃ C, (c, C) ∈ l := fun c fo h => by
    have := exFld_mem h
    rw [← hl] at this
    obtain ⟨p, h1, h2⟩ := List.mem_map.mp this
    exact ⟨p.2, by rw [← h2]; exact h1⟩
  have uni : ∀ c C C', (c, C') ∈ l → PySem.W.nsIn K mainGlobals c = some (some (.ref C)) → C' = C := fun c C C' h1 h2 => by
    have := hn _ h1
    simp only at this
    rw [h2] at this
    cases this
    rfl
  refine ⟨PySem.W.mg_of X G xP, b5, fun c fo h => ?_, fun c c' C C' fo fo' h h' n n' => ?_, fun c C fo h n => ?_, b4⟩
  · obtain ⟨C, m⟩ := look c fo h
    have n := hn _ m
    obtain ⟨e1, e2⟩ := b1 _ m
    have T := exB_ok e1
    have e2 : exFB K c C = true := e2
    unfold exFB at e2
    rw [h] at e2
    refine ⟨C, n, PySem.W.mg_of X G n, T, fun f e => ?_, fun e => ?_⟩
    · subst e
      simp only [Bool.and_eq_true, beq_iff_eq] at e2
      exact ⟨oexB_ok e2.1 T, e2.2, hi _ m f h⟩
    · subst e
      exact e2
  · obtain ⟨D, m⟩ := look c fo h
    obtain ⟨D', m'⟩ := look c' fo' h'
    have e := uni _ _ _ m n
    have e' := uni _ _ _ m' n'
    subst e e'
    exact b2 _ m _ m'
  · obtain ⟨D, m⟩ := look c fo h
    have e := uni _ _ _ m n
    subst e
    exact b3 _ m
end
end Py

namespace Py
open PySem PySem.Spec PyProof.Rows L2
/-! ## plain lemmas for the pure part -/
theorem log2_small {n : Nat} (h : n < 18446744073709551616) : (n.log2 < 9000) = True := by
  refine eq_true ?_
  by_cases h0 : n = 0
  · subst h0; decide
  · have h1 : n.log2 < 64 := (Nat.log2_lt h0).mpr (by simpa using h)
    omega
/-- ints as data in lists -/
theorem forGo_nil {t : Tgt} {body : Env → R Fl} {ρ : Env} : forGo t body [] ρ = .ok (.nx ρ) := rfl
theorem forGo_cons {t : Tgt} {body : Env → R Fl} {d : D} {ds : List D} {ρ : Env} : forGo t body (d :: ds) ρ = bindT t d ρ fun ρ1 => match body ρ1 with
    | .ok (.nx ρ') => forGo t body ds ρ'
    | .ok (.ct ρ') => forGo t body ds ρ'
    | .ok (.bk ρ') => .ok (.nx ρ')
    | r => r := rfl
theorem forGo_nx {t : Tgt} {body : Env → R Fl} {d : D} {ds : List D} {ρ ρ1 ρ2 : Env} (h1 : t.bind d ρ = .ok ρ1) (h2 : body ρ1 = .ok (.nx ρ2)) : forGo t body (d :: ds) ρ = forGo t body ds ρ2 := by
  rw [forGo_cons, bindT, h1]
  show (match body ρ1 with | .ok (.nx ρ') => forGo t body ds ρ' | .ok (.ct ρ') => forGo t body ds ρ' | .ok (.bk ρ') => .ok (.nx ρ') | r => r) = _
  rw [h2]
theorem forGo_ct {t : Tgt} {body : Env → R Fl} {d : D} {ds : List D} {ρ ρ1 ρ2 : Env} (h1 : t.bind d ρ = .ok ρ1) (h2 : body ρ1 = .ok (.ct ρ2)) : forGo t body (d :: ds) ρ = forGo t body ds ρ2 := by
  rw [forGo_cons, bindT, h1]
  show (match body ρ1 with | .ok (.nx ρ') => forGo t body ds ρ' | .ok (.ct ρ') => forGo t body ds ρ' | .ok (.bk ρ') => .ok (.nx ρ') | r => r) = _
  rw [h2]
theorem forGo_rt {t : Tgt} {body : Env → R Fl} {d v : D} {ds : List D} {ρ ρ1 : Env} (h1 : t.bind d ρ = .ok ρ1) (h2 : body ρ1 = .ok (.rt v)) : forGo t body (d :: ds) ρ = .ok (.rt v) := by
  rw [forGo_cons, bindT, h1]
  show (match body ρ1 with | .ok (.nx ρ') => forGo t body ds ρ' | .ok (.ct ρ') => forGo t body ds ρ' | .ok (.bk ρ') => .ok (.nx ρ') | r => r) = _
  rw [h2]
theorem forGo_bk {t : Tgt} {body : Env → R Fl} {d : D} {ds : List D} {ρ ρ1 ρ2 : Env} (h1 : t.bind d ρ = .ok ρ1) (h2 : body ρ1 = .ok (.bk ρ2)) : forGo t body (d :: ds) ρ = .ok (.nx ρ2) := by
  rw [forGo_cons, bindT, h1]
  show (match body ρ1 with | .ok (.nx ρ') => forGo t body ds ρ' | .ok (.ct ρ') => forGo t body ds ρ' | .ok (.bk ρ') => .ok (.nx ρ') | r => r) = _
  rw [h2]
theorem lcGo_map {α : Type} {f : D → R (Option D)} {enc : α → D} {g : α → D} : ∀ (xs : List α), (∀ x ∈ xs, f (enc x) = .ok (some (g x))) → lcGo f (xs.map enc) = .ok (xs.map g)
  | [], _ => rfl
  | x :: xs, h => by
    have e := lcGo_map (f := f) (enc := enc) (g := g) xs fun y hy => h y (by simp [hy])
    rw [List.map_cons, lcGo, h x (by simp), e]
    rfl
theorem lcGo_mapD {f : D → R (Option D)} {g : D → D} : ∀ (xs : List D), (∀ x ∈ xs, f x = .ok (some (g x))) → lcGo f xs = .ok (xs.map g)
  | [], _ => rfl
  | x :: xs, h => by
    have e := lcGo_mapD (f := f) (g := g) xs fun y hy => h y (by simp [hy])
    rw [List.map_cons, lcGo, h x (by simp), e]
    rfl
theorem ev_lc_map {Φ : Fns} {t : Tgt} {it : It} {ifs : Es} {e : E} {ρ : Env} {α : Type} (enc : α → D) (g : α → D) (xs : List α) (hit : evIt Φ it ρ = .ok (xs.map enc)) (hlen : xs.length ≤ 16777215)
    (h : ∀ x ∈ xs, lcF (evTests Φ ifs) (ev Φ e) t ρ (enc x) = .ok (some (g x))) : ev Φ (.lc t it ifs e) ρ = .ok (.lst (xs.map g)) := by
  rw [ev, hit]
  show (if (xs.map enc).length ≤ 16777215 then (lcGo (lcF (evTests Φ ifs) (ev Φ e) t ρ) (xs.map enc) >>= fun l => R.ok (D.lst l)) else .stuck) = _
  rw [List.length_map, if_pos hlen, lcGo_map xs h]
  rfl
theorem lcGo_fm {α : Type} {f : D → R (Option D)} {enc : α → D} {g : α → Option D} : ∀ (xs : List α), (∀ x ∈ xs, f (enc x) = .ok (g x)) → lcGo f (xs.map enc) = .ok (xs.filterMap g)
  | [], _ => rfl
  | x :: xs, h => by
    have e := lcGo_fm (f := f) (enc := enc) (g := g) xs fun y hy => h y (by simp [hy])
    rw [List.map_cons, lcGo, h x (by simp), e, List.filterMap_cons]
    cases g x <;> rfl
theorem ev_lc_fm {Φ : Fns} {t : Tgt} {it : It} {ifs : Es} {e : E} {ρ : Env} {α : Type} (enc : α → D) (g : α → Option D) (xs : List α) (hit : evIt Φ it ρ = .ok (xs.map enc)) (hlen : xs.length ≤ 16777215)
    (h : ∀ x ∈ xs, lcF (evTests Φ ifs) (ev Φ e) t ρ (enc x) = .ok (g x)) : ev Φ (.lc t it ifs e) ρ = .ok (.lst (xs.filterMap g)) := by
  rw [ev, hit]
  show (if (xs.map enc).length ≤ 16777215 then (lcGo (lcF (evTests Φ ifs) (ev Φ e) t ρ) (xs.map enc) >>= fun l => R.ok (D.lst l)) else .stuck) = _
  rw [List.length_map, if_pos hlen, lcGo_fm xs h]
  rfl
theorem eqv_enc {α : Type} [DecidableEq α] (enc : α → PyData) (h : ∀ a b, PyData.eqv (enc a) (enc b) = decide (a = b)) : ∀ xs ys : List α, PyData.eqvAll (xs.map enc) (ys.map enc) = decide (xs = ys)
  | [], [] => rfl
  | [], _ :: _ => rfl
  | _ :: _, [] => rfl
  | x :: xs, y :: ys => by
    show (PyData.eqv (enc x) (enc y) && PyData.eqvAll (xs.map enc) (ys.map enc)) = _
    rw [h, eqv_enc enc h xs ys]
    by_cases h1 : x = y
    · by_cases h2 : xs = ys
      · simp [h1, h2]
      · simp [h1, h2]
    · simp [h1]
theorem rangeD_ok {lo hi : Int} (h : -1000000 ≤ lo) (h2 : hi ≤ 1000000) (h3 : lo ≤ 1000000) (h4 : -1000000 ≤ hi) : rangeD lo hi = .ok ((List.range (hi - lo).toNat).map fun i => .int (lo + (i : Nat))) := by
  unfold rangeD
  rw [if_pos (by omega)]
theorem rangeD_nat {n : Nat} (h : n ≤ 1000000) : rangeD 0 (n : Int) = .ok ((List.range n).map fun i => .int (i : Nat)) := by
  rw [rangeD_ok (by omega) (by omega) (by omega) (by omega)]
  simp
/-- pairs of ints -/
def pd2 (p : Int × Int) : D := .tup [.int p.1, .int p.2]
theorem sortOk_pd2 (xs : List (Int × Int)) : sortOk (xs.map pd2) = true := by
  unfold sortOk
  simp only [Bool.and_eq_true, List.all_eq_true, decide_eq_true_eq, Bool.or_eq_true, List.mem_map, forall_exists_index, and_imp, forall_apply_eq_imp_iff₂]
  refine ⟨⟨⟨fun a _ => rfl, fun a _ b _ => rfl⟩, fun a _ => Nat.le_of_ble_eq_true rfl⟩, .inl fun a _ => rfl⟩
theorem ix_tup_nat {xs : List D} {j : Nat} {d : D} (h : xs[j]? = some d) : D.ix (.tup xs) (.int (j : Int)) = .ok d := by
  show (match atI xs (j : Int) with | some d => R.ok d | none => .stuck) = _
  rw [atI_nat h]
theorem ix_lst_nat {xs : List D} {j : Nat} {d : D} (h : xs[j]? = some d) : D.ix (.lst xs) (.int (j : Int)) = .ok d := by
  show (match atI xs (j : Int) with | some d => R.ok d | none => .stuck) = _
  rw [atI_nat h]
theorem ix_scr_nat {xs : List Int} {j : Nat} {d : Int} (h : xs[j]? = some d) : D.ix (.scr xs) (.int (j : Int)) = .ok (.int d) := by
  show (match atI xs (j : Int) with | some n => R.ok (D.int n) | none => .stuck) = _
  rw [atI_nat h]
section
variable (a b c d e : D) (l xs ys : List D) (i j : Int) (p q : Bool) (ns : List Int)
theorem truth_non : D.truth .non = .ok false := Eq.trans rfl rfl
theorem truth_int : D.truth (.int i) = .ok (i != 0) := Eq.trans rfl rfl
theorem truth_lst : D.truth (.lst xs) = .ok (!xs.isEmpty) := Eq.trans rfl rfl
theorem truth_tup : D.truth (.tup xs) = .ok (!xs.isEmpty) := Eq.trans rfl rfl
theorem ix_t0 : D.ix (.tup (a :: l)) (.int 0) = .ok a := ix_tup_nat (j := 0) rfl
theorem ix_t1 : D.ix (.tup (a :: b :: l)) (.int 1) = .ok b := ix_tup_nat (j := 1) rfl
theorem ix_t2 : D.ix (.tup (a :: b :: c :: l)) (.int 2) = .ok c := ix_tup_nat (j := 2) rfl
theorem ix_t3 : D.ix (.tup (a :: b :: c :: d :: l)) (.int 3) = .ok d := ix_tup_nat (j := 3) rfl
theorem ix_t4 : D.ix (.tup (a :: b :: c :: d :: e :: l)) (.int 4) = .ok e := ix_tup_nat (j := 4) rfl
theorem ix_l0 : D.ix (.lst (a :: l)) (.int 0) = .ok a := ix_lst_nat (j := 0) rfl
theorem ix_l1 : D.ix (.lst (a :: b :: l)) (.int 1) = .ok b := ix_lst_nat (j := 1) rfl
theorem ix_l2 : D.ix (.lst (a :: b :: c :: l)) (.int 2) = .ok c := ix_lst_nat (j := 2) rfl
theorem ix_l3 : D.ix (.lst (a :: b :: c :: d :: l)) (.int 3) = .ok d := ix_lst_nat (j := 3) rfl
theorem len_lst : D.len (.lst xs) = .ok (.int xs.length) := Eq.trans rfl rfl
theorem len_tup : D.len (.tup xs) = .ok (.int xs.length) := Eq.trans rfl rfl
theorem len_scr : D.len (.scr ns) = .ok (.int ns.length) := Eq.trans rfl rfl
theorem ltD_int : D.lt (.int i) (.int j) = .ok (.bl (decide (i < j))) := Eq.trans rfl rfl
theorem eqD_int : D.eq (.int i) (.int j) = .ok (.bl (decide (i = j))) := Eq.trans rfl rfl
theorem eqD_bl : D.eq (.bl p) (.bl q) = .ok (.bl (decide (p = q))) := Eq.trans rfl rfl
theorem ne_int : D.ne (.int i) (.int j) = .ok (.bl (!decide (i = j))) := Eq.trans rfl rfl
theorem ne_bl : D.ne (.bl p) (.bl q) = .ok (.bl (!decide (p = q))) := Eq.trans rfl rfl
theorem cmpI_int (f : Int → Int → Bool) : D.cmpI f (.int i) (.int j) = .ok (.bl (f i j)) := Eq.trans rfl rfl
theorem add_int : D.add (.int i) (.int j) = .ok (.int (i + j)) := Eq.trans rfl rfl
theorem sub_int : D.sub (.int i) (.int j) = .ok (.int (i - j)) := Eq.trans rfl rfl
theorem add_lst : D.add (.lst xs) (.lst ys) = if xs.length + ys.length ≤ 16777216 then .ok (.lst (xs ++ ys)) else .stuck := Eq.trans rfl rfl
theorem add_tup : D.add (.tup xs) (.tup ys) = if xs.length + ys.length ≤ 16777216 then .ok (.tup (xs ++ ys)) else .stuck := Eq.trans rfl rfl
theorem mul_int : D.mul (.int i) (.int j) = if mulOk i j then .ok (.int (i * j)) else .stuck := Eq.trans rfl rfl
theorem fdiv_int : D.fdiv (.int i) (.int j) = if divOk j then .ok (.int (i / j)) else .stuck := Eq.trans rfl rfl
theorem mod_int : D.mod (.int i) (.int j) = if 0 < j then .ok (.int (i % j)) else .stuck := Eq.trans rfl rfl
theorem pow_int : D.pow (.int i) (.int j) = if powOk i j then .ok (.int (i ^ j.toNat)) else .stuck := Eq.trans rfl rfl
theorem shr_int : D.shr (.int i) (.int j) = if 0 ≤ j then .ok (.int (i / 2 ^ j.toNat)) else .stuck := Eq.trans rfl rfl
theorem negI_int : D.negI (.int i) = .ok (.int (-i)) := Eq.trans rfl rfl
theorem asB_bl : D.asB (.bl p) = .ok p := Eq.trans rfl rfl
theorem asI_int : D.asI (.int i) = .ok (some i) := Eq.trans rfl rfl
theorem items_lst : D.items (.lst xs) = .ok xs := Eq.trans rfl rfl
theorem items_tup : D.items (.tup xs) = .ok xs := Eq.trans rfl rfl
theorem listOf_lst : D.listOf (.lst xs) = .ok (.lst xs) := Eq.trans rfl rfl
theorem listOf_tup : D.listOf (.tup xs) = .ok (.lst xs) := Eq.trans rfl rfl
theorem tupOf_lst : D.tupOf (.lst xs) = .ok (.tup xs) := Eq.trans rfl rfl
theorem tupOf_tup : D.tupOf (.tup xs) = .ok (.tup xs) := Eq.trans rfl rfl
theorem rangeOf_1 : D.rangeOf [.int i] = rangeD 0 i := Eq.trans rfl rfl
theorem rangeOf_2 : D.rangeOf [.int i, .int j] = rangeD i j := Eq.trans rfl rfl
theorem f1_1 (f : D → R D) : f1 f [a] = f a := Eq.trans rfl rfl
theorem f2_2 (f : D → D → R D) : f2 f [a, b] = f a b := Eq.trans rfl rfl
theorem isNon_non : D.isNon .non = true := Eq.trans rfl rfl
theorem isNon_bl : D.isNon (.bl p) = false := Eq.trans rfl rfl
theorem isNon_int : D.isNon (.int i) = false := Eq.trans rfl rfl
theorem isNon_tup : D.isNon (.tup xs) = false := Eq.trans rfl rfl
theorem isNon_lst : D.isNon (.lst xs) = false := Eq.trans rfl rfl
end
theorem pd2_ix0 (p : Int × Int) : D.ix (pd2 p) (.int 0) = .ok (.int p.1) := ix_t0 _ _
theorem pd2_ix1 (p : Int × Int) : D.ix (pd2 p) (.int 1) = .ok (.int p.2) := ix_t1 _ _ _
theorem truth_bl (b : Bool) : D.truth (.bl b) = .ok b := Eq.trans rfl rfl
theorem allL_bl (bs : List Bool) : D.allL (.lst (bs.map D.bl)) = .ok (.bl (bs.all id)) := by
  unfold D.allL
  simp only [asBls_map]
theorem sorted_pd2 (xs : List (Int × Int)) : ∃ ys : List (Int × Int), ys.Perm xs ∧ D.sorted (.lst (xs.map pd2)) = .ok (.lst (ys.map pd2)) := by
  refine ⟨xs.mergeSort fun a b => leD (pd2 a) (pd2 b), List.mergeSort_perm _ _, ?_⟩
  unfold D.sorted
  simp only [sortOk_pd2, if_true]
  rw [List.map_mergeSort (r := fun a b => leD (pd2 a) (pd2 b)) (s := leD) (f := pd2) (fun a _ b _ => rfl)]
/-! ## plain data -/
theorem depthAll_le {n : Nat} : ∀ xs : List PyData, (∀ x ∈ xs, x.depth ≤ n) → PyData.depthAll xs ≤ n
  | [], _ => Nat.zero_le _
  | x :: xs, h => by
    have h1 := h x (by simp)
    have h2 := depthAll_le xs fun y hy => h y (by simp [hy])
    show max x.depth (PyData.depthAll xs) ≤ n
    omega
theorem canLayAll0_of : ∀ xs : List PyData, (∀ x ∈ xs, x.canLay0 = true) → PyData.canLayAll0 xs = true
  | [], _ => rfl
  | x :: xs, h => by
    show (x.canLay0 && PyData.canLayAll0 xs) = true
    rw [h x (by simp), canLayAll0_of xs fun y hy => h y (by simp [hy])]
    rfl
/-- data of that depth at most -/
def Dn (n : Nat) (d : D) : Prop := d.ns = true ∧ d.pd.canLay0 = true ∧ d.pd.depth ≤ n
theorem Dn.deep {n : Nat} {d : D} (h : Dn n d) (hn : n ≤ 60) : d.deep = true := by
  unfold D.deep SeqAt.shaped
  rw [h.1, h.2.1, decide_eq_true (show d.pd.depth ≤ 64 by have := h.2.2; omega)]
  rfl
theorem Dn.lst {n : Nat} {xs : List D} (h : ∀ x ∈ xs, Dn n x) : Dn (n + 1) (.lst xs) := by
  refine ⟨?_, ?_, ?_⟩
  · show D.nss xs = true
    rw [D.nss_eq, List.all_eq_true]
    exact fun x hx => (h x hx).1
  · show PyData.canLayAll0 (D.pds xs) = true
    rw [D.pds_eq]
    refine canLayAll0_of _ fun x hx => ?_
    obtain ⟨y, hy, rfl⟩ := List.mem_map.mp hx
    exact (h y hy).2.1
  · show PyData.depthAll (D.pds xs) + 1 ≤ n + 1
    rw [D.pds_eq]
    have := depthAll_le (n := n) (xs.map D.pd) fun x hx => by
      obtain ⟨y, hy, rfl⟩ := List.mem_map.mp hx
      exact (h y hy).2.2
    omega
theorem Dn.tup {n : Nat} {xs : List D} (h : ∀ x ∈ xs, Dn n x) : Dn (n + 1) (.tup xs) := by
  obtain ⟨a, b, c⟩ := Dn.lst h
  exact ⟨a, b, c⟩
theorem Dn.int (i : Int) (n : Nat) : Dn n (.int i) := ⟨rfl, rfl, Nat.zero_le _⟩
theorem Dn.non (n : Nat) : Dn n .non := ⟨rfl, rfl, Nat.zero_le _⟩
theorem Dn.bl (b : Bool) (n : Nat) : Dn n (.bl b) := ⟨rfl, rfl, Nat.zero_le _⟩
theorem eqLst {xs ys : List D} {n : Nat} (h1 : Dn n (.lst xs)) (h2 : Dn n (.lst ys)) (hn : n ≤ 60) : D.eq (.lst xs) (.lst ys) = .ok (.bl (PyData.eqvAll (xs.map D.pd) (ys.map D.pd))) := by
  show (if (D.lst xs).deep && (D.lst ys).deep then R.ok (D.bl (PyData.eqv (D.lst xs).pd (D.lst ys).pd)) else .stuck) = _
  rw [h1.deep hn, h2.deep hn]
  show R.ok (D.bl (PyData.eqvAll (D.pds xs) (D.pds ys))) = _
  rw [D.pds_eq, D.pds_eq]
theorem isinLst {x : D} {ys : List D} {n : Nat} (h1 : Dn n x) (h2 : Dn n (.lst ys)) (hn : n ≤ 60) : D.isin x (.lst ys) = .ok (.bl (ys.any fun y => PyData.eqv y.pd x.pd)) := by
  have e : D.isin x (.lst ys) = if x.deep && (D.lst ys).deep then .ok (.bl (ys.any fun y => PyData.eqv y.pd x.pd)) else .stuck := by
    cases x <;> rfl
  rw [e, h1.deep hn, h2.deep hn]
  rfl
/-! ## names of the top that keep a text, a number -/
theorem glob_str {K : PySem.W.Frag} {x s : Str} {t : Tok} (h : PySem.W.nsIn K mainGlobals x = some (some (.str s t))) : ∃ u, PySem.W.nsIn K mainGlobals x = some (some u) ∧ RelV (Cst.v (.str s)) u := ⟨_, h, _, rfl⟩
theorem glob_int {K : PySem.W.Frag} {x : Str} {i : Int} {t : Tok} (h : PySem.W.nsIn K mainGlobals x = some (some (.int i t))) : ∃ u, PySem.W.nsIn K mainGlobals x = some (some u) ∧ RelV (Cst.v (.int i)) u := ⟨_, h, _, rfl⟩
end Py

namespace Py
/-! ## floors, plainly -/
abbrev Low := List (Option Int)
abbrev Pr := Int × Int
structure Wy where
  s : Nat
  e : Nat
  f : Int
  g : Int
  deriving DecidableEq
structure St where
  p : Nat
  k : Bool
  give : Nat
  get : Nat
  deriving DecidableEq
structure Flr where
  b0 : Nat
  b1 : Nat
  own : List Bool
  ways : List Wy
  sts : List St
structure Flr.Ok (F : Flr) : Prop where
  b0 : F.b0 ≤ 12
  b1 : F.b1 ≤ 12
  one : 1 ≤ F.own.length
  many : F.own.length ≤ 8
  few : F.ways.length ≤ 100
  ends : ∀ w ∈ F.ways, w.s < F.own.length ∧ w.e < F.own.length
  has : ∀ p, p < F.own.length → ∃ w ∈ F.ways, w.s = p
  st : ∀ s ∈ F.sts, s.p < F.own.length ∧ F.own.getD s.p false = true ∧ 1 ≤ s.give ∧ s.give ≤ 12 ∧ s.get ≤ 12
  nd : F.sts.Pairwise fun a b => a.p < b.p
/-- what a pair needs to go a way: one entry -/
def cut (b1 : Int) (s : Int) : Option Int → Option Int
  | none => none
  | some n => if b1 < max 0 (n - s) then none else some (max 0 (n - s))
def thr1 (b0 : Nat) (b1 f s : Int) (low : Low) (c : Nat) : Option Int := if 0 ≤ (c : Int) + f then cut b1 s (low.getD (min ((c : Int) + f) b0).toNat none) else none
def thru (b0 : Nat) (b1 f s : Int) (low : Low) : Low := (List.range (b0 + 1)).map (thr1 b0 b1 f s low)
def somes (l : Low) : List Int := l.filterMap id
def leastO (l : Low) : Option Int := match somes l with
  | [] => none
  | n :: ns => some (ns.foldl min n)
def greatO (l : Low) : Option Int := if none ∈ l then none else match somes l with
  | [] => none
  | n :: ns => some (ns.foldl max n)
def colOf (ls : List Low) (c : Nat) : Low := ls.map fun l => l.getD c none
def Flr.at (F : Flr) (p : Nat) : List Wy := F.ways.filter fun w => decide (w.s = p)
def Flr.stall (F : Flr) (p : Nat) : Option St := F.sts.find? fun s => decide (s.p = p)
def waysOf (F : Flr) (lows : List Low) (p : Nat) : List Low := (F.at p).map fun w => thru F.b0 F.b1 w.f w.g (lows.getD w.e [])
def base (F : Flr) (lows : List Low) (p : Nat) : Low := (List.range (F.b0 + 1)).map fun c => if F.own.getD p false then leastO (colOf (waysOf F lows p) c) else greatO (colOf (waysOf F lows p) c)
def gF (s : St) (low : Low) (c t : Nat) : Option Int := (low.getD (c - t * s.give) none).map fun n => max 0 (n - (t : Int) * s.get)
def givFs (s : St) (low : Low) (c : Nat) : List Int := (List.range (c / s.give + 1)).filterMap (gF s low c)
def givF (s : St) (low : Low) (c : Nat) : Option Int := leastO ((givFs s low c).map some)
def gS (b1 : Nat) (s : St) (low : Low) (c t : Nat) : Option Int := match low.getD (min (c + t * s.get) (low.length - 1)) none with
  | none => none
  | some n => if n + (t : Int) * s.give ≤ b1 then some (n + (t : Int) * s.give) else none
def givSs (b1 : Nat) (s : St) (low : Low) (c : Nat) : List Int := (List.range (b1 / s.give + 1)).filterMap (gS b1 s low c)
def givS (b1 : Nat) (s : St) (low : Low) (c : Nat) : Option Int := leastO ((givSs b1 s low c).map some)
def nextLow (F : Flr) (lows : List Low) (p : Nat) : Low := if F.own.getD p false then match F.stall p with
    | none => base F lows p
    | some s => (List.range (F.b0 + 1)).map (if s.k then givS F.b1 s (base F lows p) else givF s (base F lows p))
  else base F lows p
def stepL (F : Flr) (lows : List Low) : List Low := (List.range lows.length).map (nextLow F lows)
def lows0 (F : Flr) : List Low := F.own.map fun _ => List.replicate (F.b0 + 1) (some 0)
def lowsN (F : Flr) : Nat → List Low
  | 0 => lows0 F
  | k + 1 => stepL F (lowsN F k)
/-! ### least, greatest -/
def leB : Option Int → Int → Bool
  | none, _ => false
  | some n, y => decide (n ≤ y)
theorem foldl_min : ∀ (ns : List Int) (n : Int), (ns.foldl min n ≤ n ∧ ∀ m ∈ ns, ns.foldl min n ≤ m) ∧ ns.foldl min n ∈ n :: ns
  | [], n => ⟨⟨Int.le_refl n, fun m hm => by cases hm⟩, by simp⟩
  | k :: ns, n => by
    obtain ⟨⟨h1, h2⟩, h3⟩ := foldl_min ns (min n k)
    rw [List.foldl_cons]
    refine ⟨⟨by omega, fun m hm => ?_⟩, ?_⟩
    · rcases List.mem_cons.mp hm with rfl | hm
      · omega
      · exact h2 m hm
    · rcases List.mem_cons.mp h3 with e | e
      · rw [e]
        by_cases h : n ≤ k
        · rw [Int.min_eq_left h]; simp
        · rw [Int.min_eq_right (by omega)]; simp
      · simp [e]
theorem foldl_max : ∀ (ns : List Int) (n : Int), (n ≤ ns.foldl max n ∧ ∀ m ∈ ns, m ≤ ns.foldl max n) ∧ ns.foldl max n ∈ n :: ns
  | [], n => ⟨⟨Int.le_refl n, fun m hm => by cases hm⟩, by simp⟩
  | k :: ns, n => by
    obtain ⟨⟨h1, h2⟩, h3⟩ := foldl_max ns (max n k)
    rw [List.foldl_cons]
    refine ⟨⟨by omega, fun m hm => ?_⟩, ?_⟩
    · rcases List.mem_cons.mp hm with rfl | hm
      · omega
      · exact h2 m hm
    · rcases List.mem_cons.mp h3 with e | e
      · rw [e]
        by_cases h : n ≤ k
        · rw [Int.max_eq_right h]; simp
        · rw [Int.max_eq_left (by omega)]; simp
      · simp [e]
theorem mem_somes {l : Low} {n : Int} : n ∈ somes l ↔ some n ∈ l := by
  simp [somes]
theorem leB_iff {o : Option Int} {y : Int} : leB o y = true ↔ ∃ n, o = some n ∧ n ≤ y := by
  cases o <;> simp [leB]
theorem leastO_mem {l : Low} {n : Int} (h : leastO l = some n) : some n ∈ l := by
  unfold leastO at h
  cases e : somes l with
  | nil => rw [e] at h; cases h
  | cons k ks =>
    rw [e] at h
    cases h
    refine mem_somes.mp ?_
    rw [e]
    exact (foldl_min ks k).2
theorem leastO_le {l : Low} {n : Int} (h : some n ∈ l) : ∃ m, leastO l = some m ∧ m ≤ n := by
  have hn := mem_somes.mpr h
  unfold leastO
  cases e : somes l with
  | nil => rw [e] at hn; cases hn
  | cons k ks =>
    rw [e] at hn
    obtain ⟨⟨h1, h2⟩, _⟩ := foldl_min ks k
    refine ⟨_, rfl, ?_⟩
    rcases List.mem_cons.mp hn with rfl | hn
    · exact h1
    · exact h2 n hn
theorem leB_least (l : Low) (y : Int) : leB (leastO l) y = l.any fun o => leB o y := by
  rw [Bool.eq_iff_iff, leB_iff, List.any_eq_true]
  constructor
  · rintro ⟨n, h1, h2⟩
    exact ⟨_, leastO_mem h1, leB_iff.mpr ⟨n, rfl, h2⟩⟩
  · rintro ⟨o, h1, h2⟩
    obtain ⟨n, rfl, h2⟩ := leB_iff.mp h2
    obtain ⟨m, h3, h4⟩ := leastO_le h1
    exact ⟨m, h3, by omega⟩
theorem greatO_mem {l : Low} (hne : l ≠ []) : greatO l ∈ l := by
  unfold greatO
  by_cases hn : none ∈ l
  · rw [if_pos hn]; exact hn
  · rw [if_neg hn]
    cases e : somes l with
    | nil =>
      cases l with
      | nil => exact absurd rfl hne
      | cons a l =>
        cases a with
        | none => exact absurd (by simp) hn
        | some n => simp [somes] at e
    | cons k ks =>
      refine mem_somes.mp ?_
      rw [e]
      exact (foldl_max ks k).2
theorem leB_great (l : Low) (hne : l ≠ []) (y : Int) : leB (greatO l) y = l.all fun o => leB o y := by
  rw [Bool.eq_iff_iff, leB_iff, List.all_eq_true]
  constructor
  · rintro ⟨n, h1, h2⟩ o ho
    unfold greatO at h1
    by_cases hn : none ∈ l
    · rw [if_pos hn] at h1; cases h1
    · rw [if_neg hn] at h1
      cases o with
      | none => exact absurd ho hn
      | some m =>
        have hm := mem_somes.mpr ho
        cases e : somes l with
        | nil => rw [e] at hm; cases hm
        | cons k ks =>
          rw [e] at h1 hm
          cases h1
          obtain ⟨⟨h3, h4⟩, _⟩ := foldl_max ks k
          refine leB_iff.mpr ⟨m, rfl, ?_⟩
          rcases List.mem_cons.mp hm with rfl | hm
          · omega
          · have := h4 m hm; omega
  · intro h
    exact leB_iff.mp (h _ (greatO_mem hne))
/-! ### what it means -/
def heldL (low : Low) (pr : Pr) : Bool := leB (low.getD pr.1.toNat none) pr.2
def heldAt (lows : List Low) (p : Nat) (pr : Pr) : Bool := heldL (lows.getD p []) pr
def Flr.In (F : Flr) (pr : Pr) : Prop := 0 ≤ pr.1 ∧ pr.1 ≤ F.b0 ∧ 0 ≤ pr.2 ∧ pr.2 ≤ F.b1
def behind (F : Flr) (pr : Pr) (w : Wy) : Option Pr := if pr.1 + w.f < 0 ∨ pr.2 + w.g < 0 then none else some (min (pr.1 + w.f) F.b0, min (pr.2 + w.g) F.b1)
def leads (F : Flr) (h : Nat → Pr → Bool) (pr : Pr) (w : Wy) : Bool := match behind F pr w with
  | none => false
  | some q => h w.e q
def trade (F : Flr) (s : St) (pr : Pr) (t : Nat) : Pr := if s.k then (min (pr.1 + (t : Int) * s.get) F.b0, pr.2 - (t : Int) * s.give) else (pr.1 - (t : Int) * s.give, min (pr.2 + (t : Int) * s.get) F.b1)
def tradesN (s : St) (pr : Pr) : Nat := (if s.k then pr.2.toNat else pr.1.toNat) / s.give
def trades (F : Flr) (p : Nat) (pr : Pr) : List Pr := match F.stall p with
  | none => [pr]
  | some s => (List.range (tradesN s pr + 1)).map (trade F s pr)
def goes (F : Flr) (h : Nat → Pr → Bool) (p : Nat) (pr : Pr) : Bool := if F.own.getD p false then (trades F p pr).any fun q => (F.at p).any (leads F h q) else (F.at p).all (leads F h pr)
/-- values within the brims -/
def Bd (F : Flr) (l : Low) : Prop := ∀ c n, l.getD c none = some n → 0 ≤ n ∧ n ≤ F.b1
structure LowOk (F : Flr) (l : Low) : Prop where
  len : l.length = F.b0 + 1
  bd : Bd F l
  up : ∀ pr pr' : Pr, F.In pr → F.In pr' → pr.1 ≤ pr'.1 → pr.2 ≤ pr'.2 → heldL l pr = true → heldL l pr' = true
theorem behind_in {F : Flr} {pr q : Pr} {w : Wy} (h : behind F pr w = some q) : F.In q := by
  unfold behind at h
  split at h
  · cases h
  · cases h
    unfold Flr.In
    simp only
    omega
theorem getD_map_range {f : Nat → Option Int} {n c : Nat} : ((List.range n).map f).getD c none = if c < n then f c else none := by
  rw [List.getD_eq_getElem?_getD, List.getElem?_map]
  by_cases h : c < n
  · rw [if_pos h, List.getElem?_range h]; rfl
  · rw [if_neg h, List.getElem?_eq_none (by simpa using h)]; rfl
theorem leB_thr1 (F : Flr) (low : Low) (hb : Bd F low) (w : Wy) (c : Nat) (y : Int) (hc : c ≤ F.b0) (h0 : 0 ≤ y) (h1 : y ≤ F.b1) :
    leB (thr1 F.b0 F.b1 w.f w.g low c) y = leads F (fun _ => heldL low) (c, y) w := by
  unfold thr1 leads behind
  by_cases h : 0 ≤ (c : Int) + w.f
  · rw [if_pos h]
    have e : (min ((c : Int) + w.f) F.b0).toNat = (min ((c : Int) + w.f) F.b0).toNat := rfl
    by_cases hy : y + w.g < 0
    · rw [if_pos (Or.inr hy)]
      show leB _ y = false
      cases hn : low.getD (min ((c : Int) + w.f) F.b0).toNat none with
      | none => rfl
      | some n =>
        have := hb _ _ hn
        show leB (if (F.b1 : Int) < max 0 (n - w.g) then none else some (max 0 (n - w.g))) y = false
        by_cases hz : (F.b1 : Int) < max 0 (n - w.g)
        · rw [if_pos hz]; rfl
        · rw [if_neg hz]
          show decide (_ ≤ y) = false
          exact decide_eq_false (by omega)
    · rw [if_neg (show ¬ ((c : Int) + w.f < 0 ∨ y + w.g < 0) by omega)]
      show leB _ y = leB (low.getD (min ((c : Int) + w.f) F.b0).toNat none) (min (y + w.g) F.b1)
      cases hn : low.getD (min ((c : Int) + w.f) F.b0).toNat none with
      | none => rfl
      | some n =>
        have := hb _ _ hn
        show leB (if (F.b1 : Int) < max 0 (n - w.g) then none else some (max 0 (n - w.g))) y = decide (n ≤ min (y + w.g) F.b1)
        by_cases hz : (F.b1 : Int) < max 0 (n - w.g)
        · rw [if_pos hz]
          symm
          exact decide_eq_false (by omega)
        · rw [if_neg hz]
          show decide (_ ≤ y) = decide (n ≤ min (y + w.g) F.b1)
          exact decide_eq_decide.mpr (by omega)
  · rw [if_neg h, if_pos (Or.inl (by simp only; omega))]
    rfl
theorem thru_get (F : Flr) (w : Wy) (low : Low) {c : Nat} (hc : c ≤ F.b0) : (thru F.b0 F.b1 w.f w.g low).getD c none = thr1 F.b0 F.b1 w.f w.g low c := by
  unfold thru
  rw [getD_map_range, if_pos (by omega)]
theorem at_ne (F : Flr) (hF : F.Ok) {p : Nat} (hp : p < F.own.length) : F.at p ≠ [] := fun e => by
  obtain ⟨w, hw, hs⟩ := hF.has p hp
  have : w ∈ F.at p := List.mem_filter.mpr ⟨hw, by simpa using hs⟩
  rw [e] at this
  cases this
theorem at_mem {F : Flr} {p : Nat} {w : Wy} : w ∈ F.at p ↔ w ∈ F.ways ∧ w.s = p := by
  simp [Flr.at]
def LowsOk (F : Flr) (lows : List Low) : Prop := lows.length = F.own.length ∧ ∀ l ∈ lows, LowOk F l
theorem LowsOk.at {F : Flr} {lows : List Low} (h : LowsOk F lows) {p : Nat} (hp : p < F.own.length) : LowOk F (lows.getD p []) := by
  have hx : p < lows.length := by rw [h.1]; exact hp
  rw [List.getD_eq_getElem?_getD, List.getElem?_eq_getElem hx]
  exact h.2 _ (List.getElem_mem hx)
theorem col_at (F : Flr) (lows : List Low) (p c : Nat) (hc : c ≤ F.b0) : colOf (waysOf F lows p) c = (F.at p).map fun w => thr1 F.b0 F.b1 w.f w.g (lows.getD w.e []) c := by
  unfold colOf waysOf
  rw [List.map_map]
  refine List.map_congr_left fun w _ => ?_
  exact thru_get F w _ hc
theorem any_congr' {α : Type} {l : List α} {f g : α → Bool} (h : ∀ x ∈ l, f x = g x) : l.any f = l.any g := by
  induction l with
  | nil => rfl
  | cons a l ih => rw [List.any_cons, List.any_cons, h a (by simp), ih fun x hx => h x (by simp [hx])]
theorem all_congr' {α : Type} {l : List α} {f g : α → Bool} (h : ∀ x ∈ l, f x = g x) : l.all f = l.all g := by
  induction l with
  | nil => rfl
  | cons a l ih => rw [List.all_cons, List.all_cons, h a (by simp), ih fun x hx => h x (by simp [hx])]
theorem leads_congr {F : Flr} {h h' : Nat → Pr → Bool} {pr : Pr} {w : Wy} (e : ∀ q, F.In q → h w.e q = h' w.e q) : leads F h pr w = leads F h' pr w := by
  unfold leads
  cases hb : behind F pr w with
  | none => rfl
  | some q => exact e q (behind_in hb)
theorem leB_base (F : Flr) (hF : F.Ok) (lows : List Low) (hl : LowsOk F lows) (p : Nat) (hp : p < F.own.length) (c : Nat) (y : Int) (hc : c ≤ F.b0) (h0 : 0 ≤ y) (h1 : y ≤ F.b1) :
    leB ((base F lows p).getD c none) y = if F.own.getD p false then (F.at p).any (leads F (heldAt lows) (c, y)) else (F.at p).all (leads F (heldAt lows) (c, y)) := by
  have key : ∀ w ∈ F.at p, leB (thr1 F.b0 F.b1 w.f w.g (lows.getD w.e []) c) y = leads F (heldAt lows) (c, y) w := fun w hw => by
    rw [leB_thr1 F _ (hl.at (hF.ends w (at_mem.mp hw).1).2).bd w c y hc h0 h1]
    exact leads_congr (F := F) (h := fun _ => heldL (lows.getD w.e [])) (h' := heldAt lows) fun q _ => rfl
  unfold base
  rw [getD_map_range, if_pos (by omega), col_at F lows p c hc]
  cases F.own.getD p false with
  | true =>
    simp only [if_true]
    rw [leB_least, List.any_map]
    exact any_congr' key
  | false =>
    simp only [Bool.false_eq_true, if_false]
    rw [leB_great _ (fun e => at_ne F hF hp (List.map_eq_nil_iff.mp e)), List.all_map]
    exact all_congr' key
theorem bd_range {F : Flr} {f : Nat → Option Int} {m : Nat} (h : ∀ c n, c < m → f c = some n → 0 ≤ n ∧ n ≤ F.b1) : Bd F ((List.range m).map f) := fun c n e => by
  rw [getD_map_range] at e
  split at e
  · exact h c n (by assumption) e
  · cases e
theorem thr1_bd {b0 : Nat} {b1 f s : Int} {low : Low} {c : Nat} {n : Int} (h : thr1 b0 b1 f s low c = some n) : 0 ≤ n ∧ n ≤ b1 := by
  unfold thr1 at h
  split at h
  · unfold cut at h
    split at h
    · cases h
    · split at h
      · cases h
      · cases h
        omega
  · cases h
theorem base_bd (F : Flr) (hF : F.Ok) (lows : List Low) (p : Nat) (hp : p < F.own.length) : Bd F (base F lows p) := bd_range fun c n hc e => by
  rw [col_at F lows p c (by omega)] at e
  have : some n ∈ (F.at p).map fun w => thr1 F.b0 F.b1 w.f w.g (lows.getD w.e []) c := by
    split at e
    · exact leastO_mem e
    · rw [← e]
      exact greatO_mem fun e => at_ne F hF hp (List.map_eq_nil_iff.mp e)
  obtain ⟨w, _, e2⟩ := List.mem_map.mp this
  exact thr1_bd e2
theorem base_len (F : Flr) (lows : List Low) (p : Nat) : (base F lows p).length = F.b0 + 1 := by simp [base]
theorem div_le_iff {t g c : Nat} (hg : 1 ≤ g) : t < c / g + 1 ↔ t * g ≤ c := by
  rw [Nat.lt_succ_iff, Nat.le_div_iff_mul_le hg]
theorem leB_givF (F : Flr) (s : St) (hs : 1 ≤ s.give) (low : Low) (hb : Bd F low) (c : Nat) (y : Int) (hc : c ≤ F.b0) (h0 : 0 ≤ y) (h1 : y ≤ F.b1) :
    leB (givF s low c) y = (List.range (c / s.give + 1)).any fun t => heldL low ((c : Int) - (t : Int) * s.give, min (y + (t : Int) * s.get) F.b1) := by
  unfold givF givFs
  rw [leB_least, Bool.eq_iff_iff, List.any_eq_true, List.any_eq_true]
  have ix : ∀ t : Nat, t * s.give ≤ c → ((c : Int) - (t : Int) * s.give).toNat = c - t * s.give := fun t h => by
    have : ((t * s.give : Nat) : Int) = (t : Int) * s.give := Int.natCast_mul _ _
    omega
  constructor
  · rintro ⟨o, ho, hy⟩
    obtain ⟨m, hm, rfl⟩ := List.mem_map.mp ho
    obtain ⟨t, ht, e⟩ := List.mem_filterMap.mp hm
    unfold gF at e
    refine ⟨t, ht, ?_⟩
    have ht := (div_le_iff hs).mp (List.mem_range.mp ht)
    unfold heldL
    simp only [ix t ht]
    cases hn : low.getD (c - t * s.give) none with
    | none => rw [hn] at e; cases e
    | some n =>
      rw [hn] at e
      have hbn := hb _ _ hn
      cases e
      have hy : max 0 (n - (t : Int) * s.get) ≤ y := of_decide_eq_true hy
      exact decide_eq_true (by omega)
  · rintro ⟨t, ht, hh⟩
    have ht' := (div_le_iff hs).mp (List.mem_range.mp ht)
    unfold heldL at hh
    simp only [ix t ht'] at hh
    obtain ⟨n, hn, hy⟩ := leB_iff.mp hh
    refine ⟨some (max 0 (n - (t : Int) * s.get)), List.mem_map.mpr ⟨_, List.mem_filterMap.mpr ⟨t, ht, by unfold gF; rw [hn]; rfl⟩, rfl⟩, ?_⟩
    exact decide_eq_true (by omega)
theorem leB_givS (F : Flr) (s : St) (hs : 1 ≤ s.give) (low : Low) (hl : low.length = F.b0 + 1) (hb : Bd F low) (c : Nat) (y : Int) (hc : c ≤ F.b0) (h0 : 0 ≤ y) (h1 : y ≤ F.b1) :
    leB (givS F.b1 s low c) y = (List.range (y.toNat / s.give + 1)).any fun t => heldL low (min ((c : Int) + (t : Int) * s.get) F.b0, y - (t : Int) * s.give) := by
  unfold givS givSs
  rw [leB_least, Bool.eq_iff_iff, List.any_eq_true, List.any_eq_true]
  have ix : ∀ t : Nat, (min ((c : Int) + (t : Int) * s.get) F.b0).toNat = min (c + t * s.get) (F.b0 + 1 - 1) := fun t => by
    have : ((t * s.get : Nat) : Int) = (t : Int) * s.get := Int.natCast_mul _ _
    omega
  have cs : ∀ t : Nat, ((t * s.give : Nat) : Int) = (t : Int) * s.give := fun t => Int.natCast_mul _ _
  constructor
  · rintro ⟨o, ho, hy⟩
    obtain ⟨m, hm, rfl⟩ := List.mem_map.mp ho
    obtain ⟨t, ht, e⟩ := List.mem_filterMap.mp hm
    unfold gS at e
    rw [hl] at e
    cases hn : low.getD (min (c + t * s.get) (F.b0 + 1 - 1)) none with
    | none => rw [hn] at e; cases e
    | some n =>
      rw [hn] at e
      have hbn := hb _ _ hn
      simp only at e
      split at e
      · cases e
        have hy : n + (t : Int) * s.give ≤ y := of_decide_eq_true hy
        have := cs t
        refine ⟨t, List.mem_range.mpr ((div_le_iff hs).mpr (by omega)), ?_⟩
        unfold heldL
        simp only [ix t, hn]
        exact decide_eq_true (by omega)
      · cases e
  · rintro ⟨t, ht, hh⟩
    have ht' := (div_le_iff hs).mp (List.mem_range.mp ht)
    unfold heldL at hh
    simp only [ix t] at hh
    obtain ⟨n, hn, hy⟩ := leB_iff.mp hh
    have hbn := hb _ _ hn
    have := cs t
    refine ⟨some (n + (t : Int) * s.give), List.mem_map.mpr ⟨_, List.mem_filterMap.mpr ⟨t, List.mem_range.mpr ((div_le_iff hs).mpr (by omega)), ?_⟩, rfl⟩, decide_eq_true (by omega)⟩
    unfold gS
    rw [hl, hn]
    simp only
    rw [if_pos (by omega)]
theorem nextLow_len (F : Flr) (lows : List Low) (p : Nat) : (nextLow F lows p).length = F.b0 + 1 := by
  unfold nextLow
  split
  · split
    · exact base_len ..
    · simp
  · exact base_len ..
theorem stall_mem {F : Flr} {p : Nat} {s : St} (h : F.stall p = some s) : s ∈ F.sts ∧ s.p = p := by
  unfold Flr.stall at h
  exact ⟨List.mem_of_find?_eq_some h, by simpa using List.find?_some h⟩
theorem heldL_base (F : Flr) (hF : F.Ok) (lows : List Low) (hl : LowsOk F lows) (p : Nat) (hp : p < F.own.length) (pr : Pr) (hi : F.In pr) :
    heldL (base F lows p) pr = if F.own.getD p false then (F.at p).any (leads F (heldAt lows) pr) else (F.at p).all (leads F (heldAt lows) pr) := by
  obtain ⟨x, y⟩ := pr
  obtain ⟨a, b, c, d⟩ := hi
  simp only at a b c d
  obtain ⟨n, rfl⟩ := Int.eq_ofNat_of_zero_le a
  exact leB_base F hF lows hl p hp n y (by omega) c d
theorem trade_in {F : Flr} {s : St} {pr : Pr} {t : Nat} (hi : F.In pr) (hs : 1 ≤ s.give) (ht : t < tradesN s pr + 1) : F.In (trade F s pr t) := by
  obtain ⟨a, b, c, d⟩ := hi
  have ht := (div_le_iff hs).mp ht
  have := Int.natCast_mul t s.give
  have e := Int.natCast_mul t s.get
  unfold trade Flr.In
  cases hk : s.k with
  | true =>
    simp only [hk, if_true] at ht ⊢
    omega
  | false =>
    simp only [hk, Bool.false_eq_true, if_false] at ht ⊢
    omega
theorem next_held (F : Flr) (hF : F.Ok) (lows : List Low) (hl : LowsOk F lows) (p : Nat) (hp : p < F.own.length) (pr : Pr) (hi : F.In pr) : heldL (nextLow F lows p) pr = goes F (heldAt lows) p pr := by
  have hb := base_bd F hF lows p hp
  have hB := fun q hq => heldL_base F hF lows hl p hp q hq
  unfold nextLow goes
  cases ho : F.own.getD p false with
  | false =>
    simp only [Bool.false_eq_true, if_false]
    rw [hB pr hi, ho]
    rfl
  | true =>
    simp only [if_true]
    rw [ho] at hB
    simp only [if_true] at hB
    unfold trades
    cases hs : F.stall p with
    | none =>
      simp only [List.any_cons, List.any_nil, Bool.or_false]
      exact hB pr hi
    | some s =>
      obtain ⟨hm, _⟩ := stall_mem hs
      have hg := (hF.st s hm).2.2.1
      simp only
      rw [List.any_map]
      obtain ⟨x, y⟩ := pr
      have hi' := hi
      obtain ⟨a, b, c, d⟩ := hi'
      simp only at a b c d
      obtain ⟨n, rfl⟩ := Int.eq_ofNat_of_zero_le a
      have e1 : ∀ f : Nat → Option Int, heldL ((List.range (F.b0 + 1)).map f) ((n : Int), y) = leB (f n) y := fun f => by
        unfold heldL
        rw [getD_map_range]
        simp only [Int.toNat_natCast]
        rw [if_pos (by omega)]
      rw [e1]
      have e2 : ∀ t, t ∈ List.range (tradesN s ((n : Int), y) + 1) → ((fun q => (F.at p).any (leads F (heldAt lows) q)) ∘ trade F s ((n : Int), y)) t = heldL (base F lows p) (trade F s ((n : Int), y) t) := fun t ht => by
        rw [hB _ (trade_in hi hg (List.mem_range.mp ht))]
        rfl
      rw [any_congr' e2]
      cases hk : s.k with
      | true =>
        simp only [if_true]
        rw [leB_givS F s hg _ (base_len ..) hb n y (by omega) c d]
        unfold tradesN trade
        simp only [hk, if_true]
      | false =>
        simp only [Bool.false_eq_true, if_false]
        rw [leB_givF F s hg _ hb n y (by omega) c d]
        unfold tradesN trade
        simp only [hk, Bool.false_eq_true, if_false, Int.toNat_natCast]
theorem next_bd (F : Flr) (hF : F.Ok) (lows : List Low) (p : Nat) (hp : p < F.own.length) : Bd F (nextLow F lows p) := by
  have hb := base_bd F hF lows p hp
  unfold nextLow
  split
  · split
    · exact hb
    · rename_i s hs
      refine bd_range fun c n _ e => ?_
      split at e
      · have := leastO_mem e
        obtain ⟨m, hm, e2⟩ := List.mem_map.mp this
        obtain ⟨t, _, e3⟩ := List.mem_filterMap.mp hm
        cases e2
        unfold gS at e3
        split at e3
        · cases e3
        · rename_i k hk
          have := hb _ _ hk
          split at e3
          · cases e3
            have := Int.natCast_mul t s.give
            omega
          · cases e3
      · have := leastO_mem e
        obtain ⟨m, hm, e2⟩ := List.mem_map.mp this
        obtain ⟨t, _, e3⟩ := List.mem_filterMap.mp hm
        cases e2
        unfold gF at e3
        cases hk : (base F lows p).getD (c - t * s.give) none with
        | none => rw [hk] at e3; cases e3
        | some k =>
          rw [hk] at e3
          have hh := hb _ _ hk
          have e3 : some (max 0 (k - (t : Int) * s.get)) = some n := e3
          cases e3
          have := Int.natCast_mul t s.get
          omega
  · exact hb
/-! ### up-closed, monotone -/
def Up (F : Flr) (h : Nat → Pr → Bool) : Prop := ∀ p, p < F.own.length → ∀ pr pr' : Pr, F.In pr → F.In pr' → pr.1 ≤ pr'.1 → pr.2 ≤ pr'.2 → h p pr = true → h p pr' = true
theorem leads_up {F : Flr} {h : Nat → Pr → Bool} (hu : Up F h) {w : Wy} (hw : w.e < F.own.length) {pr pr' : Pr} (h1 : pr.1 ≤ pr'.1) (h2 : pr.2 ≤ pr'.2) (hl : leads F h pr w = true) : leads F h pr' w = true := by
  unfold leads at hl ⊢
  cases hb : behind F pr w with
  | none => rw [hb] at hl; cases hl
  | some q =>
    rw [hb] at hl
    have hb' : ∃ q', behind F pr' w = some q' ∧ q.1 ≤ q'.1 ∧ q.2 ≤ q'.2 := by
      unfold behind at hb ⊢
      split at hb
      · cases hb
      · cases hb
        rw [if_neg (by omega)]
        exact ⟨_, rfl, by simp only; omega, by simp only; omega⟩
    obtain ⟨q', e, g1, g2⟩ := hb'
    rw [e]
    exact hu w.e hw q q' (behind_in hb) (behind_in e) g1 g2 hl
theorem mem_trades {F : Flr} {p : Nat} {pr q : Pr} : q ∈ trades F p pr ↔ (F.stall p = none ∧ q = pr) ∨ ∃ s t, F.stall p = some s ∧ t < tradesN s pr + 1 ∧ q = trade F s pr t := by
  unfold trades
  cases hs : F.stall p with
  | none => simp
  | some s =>
    simp only [List.mem_map, List.mem_range]
    constructor
    · rintro ⟨t, h1, h2⟩
      exact .inr ⟨s, t, rfl, h1, h2.symm⟩
    · rintro (⟨h, _⟩ | ⟨s', t, h1, h2, h3⟩)
      · cases h
      · cases h1
        exact ⟨t, h2, h3.symm⟩
theorem trades_in {F : Flr} (hF : F.Ok) {p : Nat} {pr q : Pr} (hi : F.In pr) (h : q ∈ trades F p pr) : F.In q := by
  rcases mem_trades.mp h with ⟨_, rfl⟩ | ⟨s, t, h1, h2, rfl⟩
  · exact hi
  · exact trade_in hi (hF.st s (stall_mem h1).1).2.2.1 h2
theorem goes_up {F : Flr} (hF : F.Ok) {h : Nat → Pr → Bool} (hu : Up F h) : Up F (goes F h) := fun p hp pr pr' hi hi' h1 h2 hg => by
  unfold goes at hg ⊢
  have he : ∀ w ∈ F.at p, w.e < F.own.length := fun w hw => (hF.ends w (at_mem.mp hw).1).2
  cases ho : F.own.getD p false with
  | false =>
    rw [ho] at hg
    simp only [Bool.false_eq_true, if_false, List.all_eq_true] at hg ⊢
    exact fun w hw => leads_up hu (he w hw) h1 h2 (hg w hw)
  | true =>
    rw [ho] at hg
    simp only [if_true, List.any_eq_true] at hg ⊢
    obtain ⟨q, hq, w, hw, hl⟩ := hg
    have : ∃ q', q' ∈ trades F p pr' ∧ q.1 ≤ q'.1 ∧ q.2 ≤ q'.2 := by
      rcases mem_trades.mp hq with ⟨hs, rfl⟩ | ⟨s, t, hs, ht, rfl⟩
      · exact ⟨pr', mem_trades.mpr (.inl ⟨hs, rfl⟩), h1, h2⟩
      · have hgv := (hF.st s (stall_mem hs).1).2.2.1
        refine ⟨trade F s pr' t, mem_trades.mpr (.inr ⟨s, t, hs, ?_, rfl⟩), ?_⟩
        · have ht := (div_le_iff hgv).mp ht
          refine (div_le_iff hgv).mpr ?_
          cases hk : s.k <;> simp only [hk, if_true, Bool.false_eq_true, if_false] at ht ⊢ <;> omega
        · unfold trade
          cases hk : s.k <;> simp only [hk, if_true, Bool.false_eq_true, if_false] <;> omega
    obtain ⟨q', hq', g1, g2⟩ := this
    exact ⟨q', hq', w, hw, leads_up hu (he w hw) g1 g2 hl⟩
/-- less held, less goes -/
theorem leads_mono {F : Flr} {h h' : Nat → Pr → Bool} {w : Wy} (e : ∀ q, F.In q → h w.e q = true → h' w.e q = true) {pr : Pr} (hl : leads F h pr w = true) : leads F h' pr w = true := by
  unfold leads at hl ⊢
  cases hb : behind F pr w with
  | none => rw [hb] at hl; cases hl
  | some q => rw [hb] at hl; exact e q (behind_in hb) hl
theorem goes_mono {F : Flr} (hF : F.Ok) {h h' : Nat → Pr → Bool} (e : ∀ p, p < F.own.length → ∀ q, F.In q → h p q = true → h' p q = true) {p : Nat} {pr : Pr} (hg : goes F h p pr = true) : goes F h' p pr = true := by
  have he : ∀ w ∈ F.at p, w.e < F.own.length := fun w hw => (hF.ends w (at_mem.mp hw).1).2
  unfold goes at hg ⊢
  cases ho : F.own.getD p false with
  | false =>
    rw [ho] at hg
    simp only [Bool.false_eq_true, if_false, List.all_eq_true] at hg ⊢
    exact fun w hw => leads_mono (e w.e (he w hw)) (hg w hw)
  | true =>
    rw [ho] at hg
    simp only [if_true, List.any_eq_true] at hg ⊢
    obtain ⟨q, hq, w, hw, hl⟩ := hg
    exact ⟨q, hq, w, hw, leads_mono (e w.e (he w hw)) hl⟩
theorem goes_congr {F : Flr} (hF : F.Ok) {h h' : Nat → Pr → Bool} (e : ∀ p, p < F.own.length → ∀ q, F.In q → h p q = h' p q) (p : Nat) (pr : Pr) : goes F h p pr = goes F h' p pr := by
  rw [Bool.eq_iff_iff]
  exact ⟨goes_mono hF fun p hp q hq z => by rw [← e p hp q hq]; exact z, goes_mono hF fun p hp q hq z => by rw [e p hp q hq]; exact z⟩
theorem LowsOk.up {F : Flr} {lows : List Low} (h : LowsOk F lows) : Up F (heldAt lows) := fun p hp pr pr' hi hi' h1 h2 hh => (h.at hp).up pr pr' hi hi' h1 h2 hh
theorem nextLow_ok (F : Flr) (hF : F.Ok) (lows : List Low) (hl : LowsOk F lows) (p : Nat) (hp : p < F.own.length) : LowOk F (nextLow F lows p) := by
  refine ⟨nextLow_len .., next_bd F hF lows p hp, fun pr pr' hi hi' h1 h2 hh => ?_⟩
  rw [next_held F hF lows hl p hp pr hi] at hh
  rw [next_held F hF lows hl p hp pr' hi']
  exact goes_up hF hl.up p hp pr pr' hi hi' h1 h2 hh
theorem step_ok (F : Flr) (hF : F.Ok) (lows : List Low) (hl : LowsOk F lows) : LowsOk F (stepL F lows) := by
  refine ⟨by simp [stepL, hl.1], fun l h => ?_⟩
  obtain ⟨p, hp, rfl⟩ := List.mem_map.mp h
  exact nextLow_ok F hF lows hl p (by have := List.mem_range.mp hp; have := hl.1; omega)
theorem step_at (F : Flr) (lows : List Low) {p : Nat} (hp : p < lows.length) : (stepL F lows).getD p [] = nextLow F lows p := by
  unfold stepL
  rw [List.getD_eq_getElem?_getD, List.getElem?_map, List.getElem?_range hp]
  rfl
theorem lows0_at (F : Flr) {p : Nat} (hp : p < F.own.length) : (lows0 F).getD p [] = List.replicate (F.b0 + 1) (some 0) := by
  unfold lows0
  rw [List.getD_eq_getElem?_getD, List.getElem?_map, List.getElem?_eq_getElem hp]
  rfl
theorem rep_get {n c : Nat} : (List.replicate n (some (0 : Int))).getD c none = if c < n then some 0 else none := by
  rw [List.getD_eq_getElem?_getD]
  by_cases h : c < n
  · rw [if_pos h, List.getElem?_replicate_of_lt h]; rfl
  · rw [if_neg h, List.getElem?_eq_none (by simpa using h)]; rfl
theorem lows0_held (F : Flr) {p : Nat} (hp : p < F.own.length) {pr : Pr} (hi : F.In pr) : heldAt (lows0 F) p pr = true := by
  unfold heldAt heldL
  obtain ⟨a, b, c, d⟩ := hi
  rw [lows0_at F hp, rep_get, if_pos (by omega)]
  exact decide_eq_true c
theorem lows0_ok (F : Flr) : LowsOk F (lows0 F) := by
  refine ⟨by simp [lows0], fun l hl => ?_⟩
  obtain ⟨o, _, rfl⟩ := List.mem_map.mp hl
  refine ⟨by simp, fun c n e => ?_, fun pr pr' hi hi' _ _ _ => ?_⟩
  · rw [rep_get] at e
    split at e
    · cases e; omega
    · cases e
  · unfold heldL
    obtain ⟨a, b, c, d⟩ := hi'
    rw [rep_get, if_pos (by omega)]
    exact decide_eq_true c
theorem lowsN_ok (F : Flr) (hF : F.Ok) : ∀ k, LowsOk F (lowsN F k)
  | 0 => lows0_ok F
  | k + 1 => step_ok F hF _ (lowsN_ok F hF k)
/-- held in the round k -/
def hk (F : Flr) : Nat → Nat → Pr → Bool
  | 0 => fun _ _ => true
  | k + 1 => goes F (hk F k)
theorem lowsN_held (F : Flr) (hF : F.Ok) : ∀ (k p : Nat), p < F.own.length → ∀ pr, F.In pr → heldAt (lowsN F k) p pr = hk F k p pr
  | 0, p, hp, pr, hi => lows0_held F hp hi
  | k + 1, p, hp, pr, hi => by
    have hok := lowsN_ok F hF k
    show heldL ((stepL F (lowsN F k)).getD p []) pr = goes F (hk F k) p pr
    rw [step_at F _ (by rw [hok.1]; exact hp), next_held F hF _ hok p hp pr hi]
    exact goes_congr hF (fun q hq r hr => lowsN_held F hF k q hq r hr) p pr
theorem hk_up (F : Flr) (hF : F.Ok) : ∀ k, Up F (hk F k)
  | 0 => fun _ _ _ _ _ _ _ _ _ => rfl
  | k + 1 => goes_up hF (hk_up F hF k)
theorem hk_down (F : Flr) (hF : F.Ok) : ∀ (k p : Nat), p < F.own.length → ∀ pr, F.In pr → hk F (k + 1) p pr = true → hk F k p pr = true
  | 0, _, _, _, _, _ => rfl
  | k + 1, p, hp, pr, hi, h => goes_mono hF (fun q hq r hr => hk_down F hF k q hq r hr) h
theorem hk_le (F : Flr) (hF : F.Ok) {j k : Nat} (h : j ≤ k) {p : Nat} (hp : p < F.own.length) {pr : Pr} (hi : F.In pr) (hh : hk F k p pr = true) : hk F j p pr = true := by
  induction h with
  | refl => exact hh
  | step _ ih => exact ih (hk_down F hF _ p hp pr hi hh)
/-! ### lows and what they hold -/
theorem low_le {F : Flr} {a b : Low} (ha : LowOk F a) (hb : LowOk F b) (h : ∀ pr, F.In pr → heldL b pr = true → heldL a pr = true) {c : Nat} {n : Int} (hc : c ≤ F.b0) (e : b.getD c none = some n) : ∃ m, a.getD c none = some m ∧ m ≤ n := by
  have hn := hb.bd c n e
  have := h ((c : Int), n) ⟨by simp only; omega, by simp only; omega, hn.1, hn.2⟩ (by
    unfold heldL
    simp only [Int.toNat_natCast, e]
    exact decide_eq_true (Int.le_refl n))
  unfold heldL at this
  simp only [Int.toNat_natCast] at this
  exact leB_iff.mp this
theorem low_ext {F : Flr} {a b : Low} (ha : LowOk F a) (hb : LowOk F b) (h : ∀ pr, F.In pr → heldL a pr = heldL b pr) : a = b := by
  refine List.ext_getElem? fun c => ?_
  by_cases hc : c < F.b0 + 1
  · have h1 : c < a.length := by rw [ha.len]; exact hc
    have h2 : c < b.length := by rw [hb.len]; exact hc
    have g1 : a.getD c none = a[c] := by rw [List.getD_eq_getElem?_getD, List.getElem?_eq_getElem h1]; rfl
    have g2 : b.getD c none = b[c] := by rw [List.getD_eq_getElem?_getD, List.getElem?_eq_getElem h2]; rfl
    rw [List.getElem?_eq_getElem h1, List.getElem?_eq_getElem h2, ← g1, ← g2]
    congr 1
    cases ea : a.getD c none with
    | some n =>
      obtain ⟨m, e1, l1⟩ := low_le hb ha (fun pr hi z => by rw [← h pr hi]; exact z) (by omega) ea
      obtain ⟨k, e2, l2⟩ := low_le ha hb (fun pr hi z => by rw [h pr hi]; exact z) (by omega) e1
      rw [ea] at e2
      cases e2
      rw [e1]
      congr 1
      omega
    | none =>
      cases eb : b.getD c none with
      | none => rfl
      | some n =>
        obtain ⟨k, e2, _⟩ := low_le ha hb (fun pr hi z => by rw [h pr hi]; exact z) (by omega) eb
        rw [ea] at e2
        cases e2
  · rw [List.getElem?_eq_none (by rw [ha.len]; omega), List.getElem?_eq_none (by rw [hb.len]; omega)]
theorem lows_ext {F : Flr} {a b : List Low} (ha : LowsOk F a) (hb : LowsOk F b) (h : ∀ p, p < F.own.length → ∀ pr, F.In pr → heldAt a p pr = heldAt b p pr) : a = b := by
  refine List.ext_getElem? fun p => ?_
  by_cases hp : p < F.own.length
  · have h1 : p < a.length := by rw [ha.1]; exact hp
    have h2 : p < b.length := by rw [hb.1]; exact hp
    have g1 : a.getD p [] = a[p] := by rw [List.getD_eq_getElem?_getD, List.getElem?_eq_getElem h1]; rfl
    have g2 : b.getD p [] = b[p] := by rw [List.getD_eq_getElem?_getD, List.getElem?_eq_getElem h2]; rfl
    rw [List.getElem?_eq_getElem h1, List.getElem?_eq_getElem h2, ← g1, ← g2]
    exact congrArg some (low_ext (ha.at hp) (hb.at hp) (h p hp))
  · rw [List.getElem?_eq_none (by rw [ha.1]; omega), List.getElem?_eq_none (by rw [hb.1]; omega)]
/-! ### the rounds end -/
def wgt (b1 : Nat) : Option Int → Nat
  | none => b1 + 1
  | some n => n.toNat
def wgtL (b1 : Nat) (l : Low) : Nat := (l.map (wgt b1)).sum
def wgtLs (b1 : Nat) (ls : List Low) : Nat := (ls.map (wgtL b1)).sum
theorem sum_le {l l' : List Nat} (hl : l.length = l'.length) (h : ∀ i, l.getD i 0 ≤ l'.getD i 0) : l.sum ≤ l'.sum ∧ (l.sum = l'.sum → l = l') := by
  induction l generalizing l' with
  | nil =>
    cases l' with
    | nil => exact ⟨Nat.le_refl _, fun _ => rfl⟩
    | cons _ _ => cases hl
  | cons a l ih =>
    cases l' with
    | nil => cases hl
    | cons b l' =>
      have h0 := h 0
      simp only [List.getD_cons_zero] at h0
      obtain ⟨h1, h2⟩ := ih (l' := l') (by simpa using hl) fun i => by simpa using h (i + 1)
      rw [List.sum_cons, List.sum_cons]
      refine ⟨by omega, fun e => ?_⟩
      have : a = b := by omega
      rw [this, h2 (by omega)]
theorem sum_bd {l : List Nat} {m : Nat} (h : ∀ x ∈ l, x ≤ m) : l.sum ≤ l.length * m := by
  induction l with
  | nil => simp
  | cons a l ih =>
    have h1 := h a (by simp)
    have h2 := ih fun x hx => h x (by simp [hx])
    rw [List.sum_cons, List.length_cons, Nat.succ_mul]
    omega
theorem getD_map0 {α : Type} (f : α → Nat) (l : List α) (i : Nat) (d : α) (h : i < l.length) : (l.map f).getD i 0 = f (l.getD i d) := by
  rw [List.getD_eq_getElem?_getD, List.getD_eq_getElem?_getD, List.getElem?_map, List.getElem?_eq_getElem h]
  rfl
theorem wgtL_le {F : Flr} {a b : Low} (ha : LowOk F a) (hb : LowOk F b) (h : ∀ pr, F.In pr → heldL b pr = true → heldL a pr = true) : wgtL F.b1 a ≤ wgtL F.b1 b := by
  refine (sum_le (by simp [ha.len, hb.len]) fun i => ?_).1
  by_cases hi : i < F.b0 + 1
  · rw [getD_map0 _ a i none (by rw [ha.len]; exact hi), getD_map0 _ b i none (by rw [hb.len]; exact hi)]
    cases eb : b.getD i none with
    | none =>
      cases ea : a.getD i none with
      | none => exact Nat.le_refl _
      | some n =>
        have := ha.bd i n ea
        show n.toNat ≤ F.b1 + 1
        omega
    | some n =>
      obtain ⟨m, e, l⟩ := low_le ha hb h (by omega) eb
      rw [e]
      show m.toNat ≤ n.toNat
      omega
  · rw [List.getD_eq_getElem?_getD, List.getElem?_eq_none (by simp [ha.len]; omega)]
    exact Nat.zero_le _
theorem wgtL_eq {F : Flr} {a b : Low} (ha : LowOk F a) (hb : LowOk F b) (e : wgtL F.b1 a = wgtL F.b1 b) (h : ∀ pr, F.In pr → heldL b pr = true → heldL a pr = true) : a = b := by
  have key : ∀ i, (a.map (wgt F.b1)).getD i 0 ≤ (b.map (wgt F.b1)).getD i 0 := fun i => by
    by_cases hi : i < F.b0 + 1
    · rw [getD_map0 _ a i none (by rw [ha.len]; exact hi), getD_map0 _ b i none (by rw [hb.len]; exact hi)]
      cases eb : b.getD i none with
      | none =>
        cases ea : a.getD i none with
        | none => exact Nat.le_refl _
        | some n =>
          have := ha.bd i n ea
          show n.toNat ≤ F.b1 + 1
          omega
      | some n =>
        obtain ⟨m, e, l⟩ := low_le ha hb h (by omega) eb
        rw [e]
        show m.toNat ≤ n.toNat
        omega
    · rw [List.getD_eq_getElem?_getD, List.getElem?_eq_none (by simp [ha.len]; omega)]
      exact Nat.zero_le _
  have em := (sum_le (by simp [ha.len, hb.len]) key).2 e
  refine low_ext ha hb fun pr hi => ?_
  unfold heldL
  have hi1 : pr.1.toNat < F.b0 + 1 := by obtain ⟨a, b, c, d⟩ := hi; omega
  have ew : wgt F.b1 (a.getD pr.1.toNat none) = wgt F.b1 (b.getD pr.1.toNat none) := by
    rw [← getD_map0 (wgt F.b1) a _ none (by rw [ha.len]; exact hi1), ← getD_map0 (wgt F.b1) b _ none (by rw [hb.len]; exact hi1), em]
  cases ea : a.getD pr.1.toNat none with
  | none =>
    cases eb : b.getD pr.1.toNat none with
    | none => rfl
    | some n =>
      rw [ea, eb] at ew
      have ew : F.b1 + 1 = n.toNat := ew
      have := hb.bd _ n eb
      omega
  | some n =>
    have hn := ha.bd _ n ea
    cases eb : b.getD pr.1.toNat none with
    | none =>
      rw [ea, eb] at ew
      have ew : n.toNat = F.b1 + 1 := ew
      omega
    | some m =>
      rw [ea, eb] at ew
      have ew : n.toNat = m.toNat := ew
      have := hb.bd _ m eb
      have : n = m := by omega
      rw [this]
theorem wgtLs_bd {F : Flr} {a : List Low} (ha : LowsOk F a) : wgtLs F.b1 a ≤ F.own.length * ((F.b0 + 1) * (F.b1 + 1)) := by
  unfold wgtLs
  have := sum_bd (l := a.map (wgtL F.b1)) (m := (F.b0 + 1) * (F.b1 + 1)) fun x hx => by
    obtain ⟨l, hl, rfl⟩ := List.mem_map.mp hx
    have hl := ha.2 l hl
    have := sum_bd (l := l.map (wgt F.b1)) (m := F.b1 + 1) fun x hx => by
      obtain ⟨o, ho, rfl⟩ := List.mem_map.mp hx
      cases o with
      | none => exact Nat.le_refl _
      | some n =>
        obtain ⟨i, hi, e⟩ := List.getElem_of_mem ho
        have := hl.bd i n (by rw [List.getD_eq_getElem?_getD, List.getElem?_eq_getElem hi, e]; rfl)
        show n.toNat ≤ F.b1 + 1
        omega
    rw [List.length_map, hl.len] at this
    exact this
  rw [List.length_map, ha.1] at this
  exact this
theorem lowsN_down (F : Flr) (hF : F.Ok) (k : Nat) {p : Nat} (hp : p < F.own.length) {pr : Pr} (hi : F.In pr) (h : heldAt (lowsN F (k + 1)) p pr = true) : heldAt (lowsN F k) p pr = true := by
  rw [lowsN_held F hF _ p hp pr hi] at h ⊢
  exact hk_down F hF k p hp pr hi h
theorem wgt_grows (F : Flr) (hF : F.Ok) (k : Nat) (h : lowsN F (k + 1) ≠ lowsN F k) : wgtLs F.b1 (lowsN F k) < wgtLs F.b1 (lowsN F (k + 1)) := by
  have h0 := lowsN_ok F hF k
  have h1 := lowsN_ok F hF (k + 1)
  have key : ∀ i, ((lowsN F k).map (wgtL F.b1)).getD i 0 ≤ ((lowsN F (k + 1)).map (wgtL F.b1)).getD i 0 := fun i => by
    by_cases hi : i < F.own.length
    · rw [getD_map0 _ _ i [] (by rw [h0.1]; exact hi), getD_map0 _ _ i [] (by rw [h1.1]; exact hi)]
      exact wgtL_le (h0.at hi) (h1.at hi) fun pr hp z => lowsN_down F hF k hi hp z
    · rw [List.getD_eq_getElem?_getD, List.getElem?_eq_none (by simp [h0.1]; omega)]
      exact Nat.zero_le _
  obtain ⟨a, b⟩ := sum_le (by simp [h0.1, h1.1]) key
  refine Nat.lt_of_le_of_ne a fun e => h ?_
  have em := b e
  refine (lows_ext h0 h1 fun p hp pr hi => ?_).symm
  have ew : wgtL F.b1 ((lowsN F k).getD p []) = wgtL F.b1 ((lowsN F (k + 1)).getD p []) := by
    rw [← getD_map0 (wgtL F.b1) (lowsN F k) p [] (by rw [h0.1]; exact hp), ← getD_map0 (wgtL F.b1) (lowsN F (k + 1)) p [] (by rw [h1.1]; exact hp), em]
  have := wgtL_eq (h0.at hp) (h1.at hp) ew fun pr hi z => lowsN_down F hF k hp hi z
  unfold heldAt
  rw [this]
theorem ends_ex (F : Flr) (hF : F.Ok) : ∃ T, T ≤ 1352 ∧ lowsN F (T + 1) = lowsN F T ∧ ∀ k, k < T → lowsN F (k + 1) ≠ lowsN F k := by
  have key : ∀ n, (∃ T, T < n ∧ lowsN F (T + 1) = lowsN F T ∧ ∀ k, k < T → lowsN F (k + 1) ≠ lowsN F k) ∨ ((∀ k, k < n → lowsN F (k + 1) ≠ lowsN F k) ∧ n ≤ wgtLs F.b1 (lowsN F n)) := fun n => by
    induction n with
    | zero => exact .inr ⟨fun k hk => by omega, Nat.zero_le _⟩
    | succ n ih =>
      rcases ih with ⟨T, h1, h2⟩ | ⟨h1, h2⟩
      · exact .inl ⟨T, by omega, h2⟩
      · by_cases e : lowsN F (n + 1) = lowsN F n
        · exact .inl ⟨n, by omega, e, h1⟩
        · refine .inr ⟨fun k hk => ?_, ?_⟩
          · by_cases hkn : k = n
            · rw [hkn]; exact e
            · exact h1 k (by omega)
          · have := wgt_grows F hF n e
            omega
  rcases key 1353 with ⟨T, h1, h2⟩ | ⟨_, h2⟩
  · exact ⟨T, by omega, h2⟩
  · have h3 := wgtLs_bd (lowsN_ok F hF 1353)
    have h4 : F.own.length * ((F.b0 + 1) * (F.b1 + 1)) ≤ 8 * (13 * 13) := Nat.mul_le_mul hF.many (Nat.mul_le_mul (by have := hF.b0; omega) (by have := hF.b1; omega))
    omega
open Classical in
noncomputable def rT (F : Flr) : Nat := if h : ∃ T, T ≤ 1352 ∧ lowsN F (T + 1) = lowsN F T ∧ ∀ k, k < T → lowsN F (k + 1) ≠ lowsN F k then h.choose else 0
theorem rT_spec (F : Flr) (hF : F.Ok) : rT F ≤ 1352 ∧ lowsN F (rT F + 1) = lowsN F (rT F) ∧ ∀ k, k < rT F → lowsN F (k + 1) ≠ lowsN F k := by
  have h := ends_ex F hF
  unfold rT
  rw [dif_pos h]
  exact h.choose_spec
theorem lowsN_stay (F : Flr) (hF : F.Ok) : ∀ d, lowsN F (rT F + d) = lowsN F (rT F)
  | 0 => rfl
  | d + 1 => by
    show stepL F (lowsN F (rT F + d)) = _
    rw [lowsN_stay F hF d]
    exact (rT_spec F hF).2.1
/-- enough for ever -/
noncomputable def hw (F : Flr) (p : Nat) (pr : Pr) : Bool := heldAt (lowsN F (rT F)) p pr
theorem hw_hk (F : Flr) (hF : F.Ok) {p : Nat} (hp : p < F.own.length) {pr : Pr} (hi : F.In pr) : hw F p pr = hk F (rT F) p pr := lowsN_held F hF _ p hp pr hi
theorem hw_all (F : Flr) (hF : F.Ok) {p : Nat} (hp : p < F.own.length) {pr : Pr} (hi : F.In pr) : hw F p pr = true ↔ ∀ k, hk F k p pr = true := by
  constructor
  · intro h k
    by_cases hk' : k ≤ rT F
    · rw [hw_hk F hF hp hi] at h
      exact hk_le F hF hk' hp hi h
    · rw [← lowsN_held F hF k p hp pr hi]
      have : k = rT F + (k - rT F) := by omega
      rw [this, lowsN_stay F hF]
      exact h
  · intro h
    rw [hw_hk F hF hp hi]
    exact h _
theorem hw_goes (F : Flr) (hF : F.Ok) {p : Nat} (hp : p < F.own.length) {pr : Pr} (hi : F.In pr) : hw F p pr = goes F (hw F) p pr := by
  have e : hw F p pr = hk F (rT F + 1) p pr := by
    rw [← lowsN_held F hF _ p hp pr hi, (rT_spec F hF).2.1]
    rfl
  rw [e]
  exact goes_congr hF (fun q hq r hr => (hw_hk F hF hq hr).symm) p pr
theorem hw_up (F : Flr) (hF : F.Ok) : Up F (hw F) := (lowsN_ok F hF _).up
end Py

namespace Py
/-! ## borders, plainly -/
def aoa (p q : Pr) : Bool := decide (q.1 ≤ p.1) && decide (q.2 ≤ p.2)
def hld (b : List Pr) (p : Pr) : Bool := b.any fun l => aoa p l
theorem aoa_iff {p q : Pr} : aoa p q = true ↔ q.1 ≤ p.1 ∧ q.2 ≤ p.2 := by simp [aoa]
theorem hld_iff {b : List Pr} {p : Pr} : hld b p = true ↔ ∃ l ∈ b, l.1 ≤ p.1 ∧ l.2 ≤ p.2 := by
  unfold hld
  rw [List.any_eq_true]
  exact ⟨fun ⟨l, h1, h2⟩ => ⟨l, h1, aoa_iff.mp h2⟩, fun ⟨l, h1, h2⟩ => ⟨l, h1, aoa_iff.mpr h2⟩⟩
def bstep (low : Low) (acc : List Pr) (c : Nat) : List Pr := match low.getD c none with
  | none => acc
  | some n => match acc.getLast? with
    | none => acc ++ [((c : Int), n)]
    | some p => if n < p.2 then acc ++ [((c : Int), n)] else acc
def bord (low : Low) : List Pr := (List.range low.length).foldl (bstep low) []
def Ris (b : List Pr) : Prop := b.Pairwise fun e e' => e.1 < e'.1 ∧ e'.2 < e.2
theorem low_anti {F : Flr} {low : Low} (h : LowOk F low) {c c' : Nat} {n : Int} (h1 : c ≤ c') (h2 : c' ≤ F.b0) (e : low.getD c none = some n) : ∃ m, low.getD c' none = some m ∧ m ≤ n := by
  have hn := h.bd c n e
  have := h.up ((c : Int), n) ((c' : Int), n) ⟨by simp only; omega, by simp only; omega, hn.1, hn.2⟩ ⟨by simp only; omega, by simp only; omega, hn.1, hn.2⟩ (by simp only; omega) (Int.le_refl _) (by
    unfold heldL
    simp only [Int.toNat_natCast, e]
    exact decide_eq_true (Int.le_refl n))
  unfold heldL at this
  simp only [Int.toNat_natCast] at this
  exact leB_iff.mp this
structure BInv (low : Low) (m : Nat) (acc : List Pr) : Prop where
  mem : ∀ e ∈ acc, ∃ c n, c < m ∧ e = ((c : Int), n) ∧ low.getD c none = some n
  ris : Ris acc
  last : ∀ e, acc.getLast? = some e → 0 < m ∧ low.getD (m - 1) none = some e.2
  has : ∀ x n, x < m → low.getD x none = some n → ∃ e ∈ acc, e.1 ≤ (x : Int) ∧ e.2 = n
theorem bstep_inv {F : Flr} {low : Low} (h : LowOk F low) {m : Nat} {acc : List Pr} (hm : m ≤ F.b0) (I : BInv low m acc) : BInv low (m + 1) (bstep low acc m) := by
  have wk : ∀ e ∈ acc, ∃ c n, c < m + 1 ∧ e = ((c : Int), n) ∧ low.getD c none = some n := fun e he => by
    obtain ⟨c, n, h1, h2, h3⟩ := I.mem e he
    exact ⟨c, n, by omega, h2, h3⟩
  unfold bstep
  cases hg : low.getD m none with
  | none =>
    have nil : acc = [] := by
      cases acc with
      | nil => rfl
      | cons e l =>
        obtain ⟨c, n, h1, h2, h3⟩ := I.mem e (by simp)
        obtain ⟨m', e', _⟩ := low_anti h (c' := m) (by omega) hm h3
        rw [hg] at e'
        cases e'
    subst nil
    refine ⟨wk, List.Pairwise.nil, fun e he => by simp at he, fun x n hx hn => ?_⟩
    by_cases hxm : x = m
    · subst hxm
      rw [hg] at hn
      cases hn
    · exact I.has x n (by omega) hn
  | some n =>
    simp only
    have add : (∀ e ∈ acc, e.1 < (m : Int) ∧ n < e.2) → BInv low (m + 1) (acc ++ [((m : Int), n)]) := fun hall => by
      refine ⟨fun e he => ?_, ?_, fun e he => ?_, fun x k hx hn => ?_⟩
      · rcases List.mem_append.mp he with he | he
        · exact wk e he
        · rw [List.mem_singleton] at he
          exact ⟨m, n, by omega, he, hg⟩
      · refine List.pairwise_append.mpr ⟨I.ris, by simp, fun e he e' he' => ?_⟩
        rw [List.mem_singleton] at he'
        rw [he']
        exact hall e he
      · rw [List.getLast?_append, List.getLast?_singleton] at he
        simp at he
        subst he
        exact ⟨by omega, hg⟩
      · by_cases hxm : x = m
        · subst hxm
          rw [hg] at hn
          cases hn
          exact ⟨((x : Int), n), by simp, Int.le_refl _, rfl⟩
        · obtain ⟨e, he, h1⟩ := I.has x k (by omega) hn
          exact ⟨e, by simp [he], h1⟩
    cases hl : acc.getLast? with
    | none =>
      have : acc = [] := List.getLast?_eq_none_iff.mp hl
      subst this
      exact add fun e he => by cases he
    | some p =>
      obtain ⟨h0, hp⟩ := I.last p hl
      simp only
      have hpm : p ∈ acc := List.mem_of_getLast? hl
      have hlt : ∀ e ∈ acc, e.1 < (m : Int) ∧ p.2 ≤ e.2 := fun e he => by
        obtain ⟨c, k, h1, h2, h3⟩ := I.mem e he
        subst h2
        obtain ⟨q, e2, h4⟩ := low_anti h (c' := m - 1) (by omega) (by omega) h3
        rw [hp] at e2
        cases e2
        exact ⟨by simp only; omega, h4⟩
      by_cases hn : n < p.2
      · rw [if_pos hn]
        exact add fun e he => ⟨(hlt e he).1, by have := (hlt e he).2; omega⟩
      · rw [if_neg hn]
        obtain ⟨q, e2, h4⟩ := low_anti h (c := m - 1) (c' := m) (by omega) hm hp
        rw [hg] at e2
        cases e2
        have hnp : n = p.2 := by omega
        refine ⟨wk, I.ris, fun e he => ?_, fun x k hx hk => ?_⟩
        · rw [hl] at he
          cases he
          exact ⟨by omega, by simp only [Nat.add_sub_cancel]; rw [hg, hnp]⟩
        · by_cases hxm : x = m
          · subst hxm
            rw [hg] at hk
            cases hk
            exact ⟨p, hpm, by have := (hlt p hpm).1; omega, hnp.symm⟩
          · exact I.has x k (by omega) hk
theorem bord_inv {F : Flr} {low : Low} (h : LowOk F low) : BInv low (F.b0 + 1) (bord low) := by
  have key : ∀ m, m ≤ F.b0 + 1 → BInv low m ((List.range m).foldl (bstep low) []) := fun m => by
    induction m with
    | zero =>
      intro _
      exact ⟨fun e he => (nomatch he), List.Pairwise.nil, fun e he => (nomatch he), fun x n hx => by omega⟩
    | succ m ih =>
      intro hm
      rw [List.range_succ, List.foldl_append]
      exact bstep_inv h (by omega) (ih (by omega))
  unfold bord
  rw [h.len]
  exact key _ (Nat.le_refl _)
theorem bord_mem {F : Flr} {low : Low} (h : LowOk F low) {e : Pr} (he : e ∈ bord low) : F.In e ∧ heldL low e = true := by
  obtain ⟨c, n, h1, rfl, h3⟩ := (bord_inv h).mem e he
  have := h.bd c n h3
  refine ⟨⟨by simp only; omega, by simp only; omega, this.1, this.2⟩, ?_⟩
  unfold heldL
  simp only [Int.toNat_natCast, h3]
  exact decide_eq_true (Int.le_refl n)
theorem hld_bord {F : Flr} {low : Low} (h : LowOk F low) {pr : Pr} (hi : F.In pr) : hld (bord low) pr = heldL low pr := by
  rw [Bool.eq_iff_iff, hld_iff]
  constructor
  · rintro ⟨e, he, h1, h2⟩
    obtain ⟨hie, hh⟩ := bord_mem h he
    exact h.up e pr hie hi h1 h2 hh
  · intro hh
    obtain ⟨a, b, c, d⟩ := hi
    unfold heldL at hh
    obtain ⟨n, hn, hy⟩ := leB_iff.mp hh
    obtain ⟨e, he, h1, h2⟩ := (bord_inv h).has pr.1.toNat n (by omega) hn
    exact ⟨e, he, by omega, by omega⟩
theorem bord_ris {F : Flr} {low : Low} (h : LowOk F low) : Ris (bord low) := (bord_inv h).ris
theorem ris_eq {b : List Pr} (h : Ris b) {e e' : Pr} (he : e ∈ b) (he' : e' ∈ b) (h1 : e.1 ≤ e'.1) (h2 : e.2 ≤ e'.2) : e = e' := by
  induction h with
  | nil => cases he
  | cons hx _ ih =>
    rcases List.mem_cons.mp he with q | q
    · rcases List.mem_cons.mp he' with q' | q'
      · rw [q, q']
      · have := hx e' q'
        subst q
        omega
    · rcases List.mem_cons.mp he' with q' | q'
      · have := hx e q
        subst q'
        omega
      · exact ih q q'
/-- none below a border's pair is held -/
theorem bord_least {F : Flr} {low : Low} (h : LowOk F low) {e pr : Pr} (he : e ∈ bord low) (hi : F.In pr) (h1 : pr.1 ≤ e.1) (h2 : pr.2 ≤ e.2) (hh : heldL low pr = true) : pr = e := by
  rw [← hld_bord h hi] at hh
  obtain ⟨e', he', g1, g2⟩ := hld_iff.mp hh
  have := ris_eq (bord_ris h) he' he (by omega) (by omega)
  subst this
  exact Prod.ext (by omega) (by omega)
theorem bord_len (low : Low) : (bord low).length ≤ low.length := by
  have key : ∀ (cs : List Nat) (acc : List Pr), (cs.foldl (bstep low) acc).length ≤ acc.length + cs.length := fun cs => by
    induction cs with
    | nil => exact fun acc => Nat.le_refl _
    | cons c cs ih =>
      intro acc
      have h1 := ih (bstep low acc c)
      have h2 : (bstep low acc c).length ≤ acc.length + 1 := by
        unfold bstep
        split
        · omega
        · split
          · simp
          · split
            · simp
            · omega
      rw [List.foldl_cons, List.length_cons]
      omega
  have := key (List.range low.length) []
  simpa [bord] using this
theorem bord_ne {F : Flr} {low : Low} (h : LowOk F low) : bord low = [] ↔ heldL low ((F.b0 : Int), (F.b1 : Int)) = false := by
  have hi : F.In ((F.b0 : Int), (F.b1 : Int)) := ⟨by simp only; omega, by simp only; omega, by simp only; omega, by simp only; omega⟩
  rw [← hld_bord h hi]
  constructor
  · intro e; rw [e]; rfl
  · intro e
    cases hb : bord low with
    | nil => rfl
    | cons x l =>
      have hx : x ∈ bord low := by rw [hb]; simp
      obtain ⟨a, b, c, d⟩ := (bord_mem h hx).1
      rw [hld_iff.mpr ⟨x, hx, b, d⟩] at e
      cases e
/-- equal holdings, equal borders -/
theorem bord_ext {F : Flr} {a b : Low} (ha : LowOk F a) (hb : LowOk F b) (h : bord a = bord b) : a = b :=
  low_ext ha hb fun pr hi => by rw [← hld_bord ha hi, ← hld_bord hb hi, h]
/-! ## how long a pair lasts -/
def tell (lows : List Low) : List (List Pr) := lows.map bord
theorem tell_at (lows : List Low) (p : Nat) (hp : p < lows.length) : (tell lows).getD p [] = bord (lows.getD p []) := by
  unfold tell
  rw [List.getD_eq_getElem?_getD, List.getD_eq_getElem?_getD, List.getElem?_map, List.getElem?_eq_getElem hp]
  rfl
/-- the rounds -/
noncomputable def rds (F : Flr) : List (List (List Pr)) := (List.range (rT F + 1)).map fun k => tell (lowsN F k)
theorem rds_len (F : Flr) : (rds F).length = rT F + 1 := by simp [rds]
theorem rds_at (F : Flr) {k : Nat} (h : k ≤ rT F) : (rds F).getD k [] = tell (lowsN F k) := by
  unfold rds
  rw [List.getD_eq_getElem?_getD, List.getElem?_map, List.getElem?_range (by omega)]
  rfl
noncomputable def bds (F : Flr) : List (List Pr) := tell (lowsN F (rT F))
noncomputable def bd (F : Flr) (p : Nat) : List Pr := bord ((lowsN F (rT F)).getD p [])
theorem bds_len (F : Flr) (hF : F.Ok) : (bds F).length = F.own.length := by simp [bds, tell, (lowsN_ok F hF _).1]
theorem bds_at (F : Flr) (hF : F.Ok) {p : Nat} (hp : p < F.own.length) : (bds F).getD p [] = bd F p := tell_at _ _ (by rw [(lowsN_ok F hF _).1]; exact hp)
theorem hld_bd (F : Flr) (hF : F.Ok) {p : Nat} (hp : p < F.own.length) {pr : Pr} (hi : F.In pr) : hld (bd F p) pr = hw F p pr := hld_bord ((lowsN_ok F hF _).at hp) hi
theorem hld_rd (F : Flr) (hF : F.Ok) (k : Nat) {p : Nat} (hp : p < F.own.length) {pr : Pr} (hi : F.In pr) : hld (bord ((lowsN F k).getD p [])) pr = hk F k p pr := by
  rw [hld_bord ((lowsN_ok F hF _).at hp) hi]
  exact lowsN_held F hF k p hp pr hi
noncomputable def lst (F : Flr) (p : Nat) (pr : Pr) : Option Nat := (List.range (rT F + 1)).find? fun k => !hk F k p pr
theorem find_range {n : Nat} {f : Nat → Bool} {k : Nat} : (List.range n).find? f = some k ↔ k < n ∧ f k = true ∧ ∀ j, j < k → f j = false := by
  rw [List.find?_range_eq_some]
  constructor
  · rintro ⟨h1, h2, h3⟩
    exact ⟨by simpa using h2, h1, fun j hj => by simpa using h3 j hj⟩
  · rintro ⟨h1, h2, h3⟩
    exact ⟨h2, by simpa using h1, fun j hj => by simpa using h3 j hj⟩
theorem lst_some (F : Flr) (hF : F.Ok) {p : Nat} (hp : p < F.own.length) {pr : Pr} (hi : F.In pr) {k : Nat} : lst F p pr = some k ↔ hk F k p pr = false ∧ ∀ j, j < k → hk F j p pr = true := by
  unfold lst
  rw [find_range]
  constructor
  · rintro ⟨h1, h2, h3⟩
    exact ⟨by simpa using h2, fun j hj => by simpa using h3 j hj⟩
  · rintro ⟨h1, h2⟩
    refine ⟨?_, by simpa using h1, fun j hj => by simpa using h2 j hj⟩
    refine Nat.lt_of_not_le fun hk' => ?_
    have h3 := h2 (rT F) (by omega)
    rw [← hw_hk F hF hp hi] at h3
    rw [(hw_all F hF hp hi).mp h3 k] at h1
    cases h1
theorem lst_none (F : Flr) (hF : F.Ok) {p : Nat} (hp : p < F.own.length) {pr : Pr} (hi : F.In pr) : lst F p pr = none ↔ hw F p pr = true := by
  unfold lst
  rw [List.find?_eq_none]
  constructor
  · intro h
    rw [hw_hk F hF hp hi]
    have := h (rT F) (by simp)
    simpa using this
  · intro h k _
    rw [(hw_all F hF hp hi).mp h k]
    decide
theorem lst_pos (F : Flr) {p : Nat} {pr : Pr} {k : Nat} (h : lst F p pr = some k) : 1 ≤ k := by
  have := (find_range.mp h).2.1
  cases k with
  | zero => cases this
  | succ k => omega
/-- the lasting number, None above all -/
theorem lst_hk (F : Flr) (hF : F.Ok) {p : Nat} (hp : p < F.own.length) {pr : Pr} (hi : F.In pr) {k j : Nat} (h : lst F p pr = some k) : hk F j p pr = decide (j < k) := by
  obtain ⟨h1, h2⟩ := (lst_some F hF hp hi).mp h
  by_cases hj : j < k
  · rw [h2 j hj, decide_eq_true hj]
  · rw [decide_eq_false hj]
    cases hh : hk F j p pr with
    | false => rfl
    | true =>
      rw [hk_le F hF (by omega : k ≤ j) hp hi hh] at h1
      cases h1
end Py

namespace Py
open PySem PySem.Spec PyProof.Rows L2
/-! ## loops, by an invariant -/
theorem forGo_inv {α : Type} {t : Tgt} {body : Env → R Fl} {enc : α → D} (I : List α → Env → Prop) : ∀ (xs done : List α), (∀ d x r, done ++ xs = d ++ x :: r → ∀ ρ, I d ρ → ∃ ρ1 ρ2, t.bind (enc x) ρ = .ok ρ1 ∧ (body ρ1 = .ok (.nx ρ2) ∨ body ρ1 = .ok (.ct ρ2)) ∧ I (d ++ [x]) ρ2) → ∀ ρ, I done ρ →
    ∃ ρ', forGo t body (xs.map enc) ρ = .ok (.nx ρ') ∧ I (done ++ xs) ρ'
  | [], done, _, ρ, h0 => ⟨ρ, rfl, by simpa using h0⟩
  | x :: xs, done, h, ρ, h0 => by
    obtain ⟨ρ1, ρ2, e1, e2, e3⟩ := h done x xs rfl ρ h0
    obtain ⟨ρ', e4, e5⟩ := forGo_inv I xs (done ++ [x]) (fun d y r e => h d y r (by rw [← e]; simp)) ρ2 e3
    refine ⟨ρ', ?_, by simpa using e5⟩
    rw [List.map_cons]
    rcases e2 with e2 | e2
    · rw [forGo_nx e1 e2, e4]
    · rw [forGo_ct e1 e2, e4]
/-- a loop that returns at the first that answers -/
theorem forGo_first {α : Type} {t : Tgt} {body : Env → R Fl} {enc : α → D} (I : Env → Prop) (ret : α → Option D) : ∀ (xs : List α), (∀ x ∈ xs, ∀ ρ, I ρ → ∃ ρ1, t.bind (enc x) ρ = .ok ρ1 ∧ (∀ d, ret x = some d → body ρ1 = .ok (.rt d)) ∧ (ret x = none → ∃ ρ2, (body ρ1 = .ok (.nx ρ2) ∨ body ρ1 = .ok (.ct ρ2)) ∧ I ρ2)) → ∀ ρ, I ρ →
    (∀ d, xs.findSome? ret = some d → forGo t body (xs.map enc) ρ = .ok (.rt d)) ∧ (xs.findSome? ret = none → ∃ ρ', forGo t body (xs.map enc) ρ = .ok (.nx ρ') ∧ I ρ')
  | [], _, ρ, h0 => ⟨fun d e => by simp at e, fun _ => ⟨ρ, rfl, h0⟩⟩
  | x :: xs, h, ρ, h0 => by
    obtain ⟨ρ1, e1, e2, e3⟩ := h x (by simp) ρ h0
    cases hr : ret x with
    | some d =>
      refine ⟨fun d' e => ?_, fun e => ?_⟩
      · rw [List.findSome?_cons, hr] at e
        cases e
        rw [List.map_cons, forGo_rt e1 (e2 d hr)]
      · rw [List.findSome?_cons, hr] at e
        cases e
    | none =>
      obtain ⟨ρ2, e4, e5⟩ := e3 hr
      obtain ⟨i1, i2⟩ := forGo_first I ret xs (fun y hy => h y (by simp [hy])) ρ2 e5
      have go : forGo t body ((x :: xs).map enc) ρ = forGo t body (xs.map enc) ρ2 := by
        rw [List.map_cons]
        rcases e4 with e4 | e4
        · exact forGo_nx e1 e4
        · exact forGo_ct e1 e4
      rw [List.findSome?_cons, hr, go]
      exact ⟨i1, i2⟩
theorem execs_cons {Φ : Fns} {M : List Nat} {s : S} {ss : Ss} {ρ ρ' : Py.Env} (h : Py.exec Φ M s ρ = .ok (.nx ρ')) : Py.execs Φ M (.cons s ss) ρ = Py.execs Φ M ss ρ' := by
  rw [Py.execs, h]
theorem execs_rt {Φ : Fns} {M : List Nat} {s : S} {ss : Ss} {ρ : Py.Env} {d : D} (h : Py.exec Φ M s ρ = .ok (.rt d)) : Py.execs Φ M (.cons s ss) ρ = .ok (.rt d) := by
  rw [Py.execs, h]
theorem while_true (Φ : Fns) (M : List Nat) (body : Py.Env → R Fl) (n : Nat) (ρ : Py.Env) : whileN (fun ρ => tst Φ (.cst (.bl true)) (view M false ρ)) body (n + 1) ρ = match body ρ with
    | .ok (.nx ρ') => whileN (fun ρ => tst Φ (.cst (.bl true)) (view M false ρ)) body n ρ'
    | .ok (.ct ρ') => whileN (fun ρ => tst Φ (.cst (.bl true)) (view M false ρ)) body n ρ'
    | .ok (.bk ρ') => .ok (.nx ρ')
    | r => r := by
  rw [whileN]
  have e : tst Φ (.cst (.bl true)) (view M false ρ) = .ok true := by simp [tst, ev, Cst.d, truth_bl]
  rw [e]
  rfl
theorem whileN_no {c : Env → R Bool} {body : Env → R Fl} {n : Nat} {ρ : Env} (h : c ρ = .ok false) : whileN c body (n + 1) ρ = .ok (.nx ρ) := by
  rw [whileN, h]
  rfl
theorem whileN_nx {c : Env → R Bool} {body : Env → R Fl} {n : Nat} {ρ ρ' : Env} (h : c ρ = .ok true) (h2 : body ρ = .ok (.nx ρ')) : whileN c body (n + 1) ρ = whileN c body n ρ' := by
  rw [whileN, h]
  show (match body ρ with | .ok (.nx ρ') => whileN c body n ρ' | .ok (.ct ρ') => whileN c body n ρ' | .ok (.bk ρ') => .ok (.nx ρ') | r => r) = _
  rw [h2]
theorem whileN_rt {c : Env → R Bool} {body : Env → R Fl} {n : Nat} {ρ : Env} {d : D} (h : c ρ = .ok true) (h2 : body ρ = .ok (.rt d)) : whileN c body (n + 1) ρ = .ok (.rt d) := by
  rw [whileN, h]
  show (match body ρ with | .ok (.nx ρ') => whileN c body n ρ' | .ok (.ct ρ') => whileN c body n ρ' | .ok (.bk ρ') => .ok (.nx ρ') | r => r) = _
  rw [h2]
/-! ## floors as data -/
def encO : Option Int → D
  | none => .non
  | some i => .int i
def lowD (l : List (Option Int)) : D := .lst (l.map encO)
def lowsD (lows : List (List (Option Int))) : D := .lst (lows.map lowD)
def wyD (w : Wy) : D := .tup [.int w.s, .int w.e, .int w.f, .int w.g]
def stD (s : St) : D := .tup [.int s.p, .int (if s.k then 1 else 0), .int s.give, .int s.get]
def ownD (k : Bool) : D := .str (if k then "keeper" else "taker")
def brimsD (F : Flr) : D := .tup [.int F.b0, .int F.b1]
def flrD (F : Flr) : D := .tup [brimsD F, .tup (F.own.map ownD), .tup (F.ways.map wyD), .tup (F.sts.map stD)]
def bordD (b : List (Int × Int)) : D := .tup (b.map pd2)
def tellD (bs : List (List Pr)) : D := .lst (bs.map bordD)
def rdsD (rs : List (List (List Pr))) : D := .lst (rs.map tellD)
def optP : Option Pr → D
  | none => .non
  | some p => pd2 p
def optN : Option Nat → D
  | none => .non
  | some n => .int n
theorem flr_0 (F : Flr) : D.ix (flrD F) (.int 0) = .ok (brimsD F) := ix_t0 _ _
theorem flr_1 (F : Flr) : D.ix (flrD F) (.int 1) = .ok (.tup (F.own.map ownD)) := ix_t1 _ _ _
theorem flr_2 (F : Flr) : D.ix (flrD F) (.int 2) = .ok (.tup (F.ways.map wyD)) := ix_t2 _ _ _ _
theorem flr_3 (F : Flr) : D.ix (flrD F) (.int 3) = .ok (.tup (F.sts.map stD)) := ix_t3 _ _ _ _ _
theorem brims_0 (F : Flr) : D.ix (brimsD F) (.int 0) = .ok (.int F.b0) := ix_t0 _ _
theorem brims_1 (F : Flr) : D.ix (brimsD F) (.int 1) = .ok (.int F.b1) := ix_t1 _ _ _
theorem wy_0 (w : Wy) : D.ix (wyD w) (.int 0) = .ok (.int w.s) := ix_t0 _ _
theorem wy_1 (w : Wy) : D.ix (wyD w) (.int 1) = .ok (.int w.e) := ix_t1 _ _ _
theorem wy_2 (w : Wy) : D.ix (wyD w) (.int 2) = .ok (.int w.f) := ix_t2 _ _ _ _
theorem wy_3 (w : Wy) : D.ix (wyD w) (.int 3) = .ok (.int w.g) := ix_t3 _ _ _ _ _
theorem st_0 (s : St) : D.ix (stD s) (.int 0) = .ok (.int s.p) := ix_t0 _ _
theorem st_1 (s : St) : D.ix (stD s) (.int 1) = .ok (.int (if s.k then 1 else 0)) := ix_t1 _ _ _
theorem st_2 (s : St) : D.ix (stD s) (.int 2) = .ok (.int s.give) := ix_t2 _ _ _ _
theorem st_3 (s : St) : D.ix (stD s) (.int 3) = .ok (.int s.get) := ix_t3 _ _ _ _ _
theorem max2_ok (i j : Int) : D.max2 (.int i) (.int j) = .ok (.int (max i j)) := by
  show R.ok (D.int (if j > i then j else i)) = _
  congr 2
  by_cases h : j > i
  · rw [if_pos h]; omega
  · rw [if_neg h]; omega
theorem min2_ok (i j : Int) : D.min2 (.int i) (.int j) = .ok (.int (min i j)) := by
  show R.ok (D.int (if j < i then j else i)) = _
  congr 2
  by_cases h : j < i
  · rw [if_pos h]; omega
  · rw [if_neg h]; omega
theorem low_ix {low : List (Option Int)} {i : Int} (h0 : 0 ≤ i) (h1 : i < low.length) : D.ix (lowD low) (.int i) = .ok (encO (low.getD i.toNat none)) := by
  obtain ⟨j, rfl⟩ := Int.eq_ofNat_of_zero_le h0
  have hj : j < low.length := by omega
  refine ix_lst_nat ?_
  show (low.map encO)[j]? = _
  rw [List.getElem?_map, List.getElem?_eq_getElem hj]
  simp [List.getD_eq_getElem?_getD, hj]
theorem low_at {low : List (Option Int)} {c : Nat} (hc : c < low.length) : D.ix (lowD low) (.int c) = .ok (encO (low.getD c none)) := by
  refine ix_lst_nat ?_
  rw [List.getElem?_map, List.getElem?_eq_getElem hc]
  simp [List.getD_eq_getElem?_getD, hc]
theorem lows_ix {lows : List (List (Option Int))} {e : Nat} (h : e < lows.length) : D.ix (lowsD lows) (.int e) = .ok (lowD (lows.getD e [])) := by
  refine ix_lst_nat ?_
  rw [List.getElem?_map, List.getElem?_eq_getElem h]
  simp [List.getD_eq_getElem?_getD, h]
theorem tell_ix {bs : List (List Pr)} {p : Nat} (h : p < bs.length) : D.ix (tellD bs) (.int p) = .ok (bordD (bs.getD p [])) := by
  refine ix_lst_nat ?_
  rw [List.getElem?_map, List.getElem?_eq_getElem h]
  simp [List.getD_eq_getElem?_getD, h]
theorem rds_ix {rs : List (List (List Pr))} {p : Nat} (h : p < rs.length) : D.ix (rdsD rs) (.int p) = .ok (tellD (rs.getD p [])) := by
  refine ix_lst_nat ?_
  rw [List.getElem?_map, List.getElem?_eq_getElem h]
  simp [List.getD_eq_getElem?_getD, h]
theorem ways_ix {F : Flr} {p : Nat} {w : Wy} (h : F.ways[p]? = some w) : D.ix (.tup (F.ways.map wyD)) (.int p) = .ok (wyD w) := by
  refine ix_tup_nat ?_
  rw [List.getElem?_map, h]
  rfl
theorem own_ix (F : Flr) {p : Nat} (hp : p < F.own.length) : D.ix (.tup (F.own.map ownD)) (.int p) = .ok (ownD (F.own.getD p false)) := by
  refine ix_tup_nat ?_
  rw [List.getElem?_map, List.getElem?_eq_getElem hp]
  simp [List.getD_eq_getElem?_getD, hp]
theorem len_map_tup {α : Type} (f : α → D) (l : List α) : D.len (.tup (l.map f)) = .ok (.int l.length) := by
  rw [len_tup, List.length_map]
theorem len_map_lst {α : Type} (f : α → D) (l : List α) : D.len (.lst (l.map f)) = .ok (.int l.length) := by
  rw [len_lst, List.length_map]
theorem ne_keeper (k : Bool) : D.ne (ownD k) (.str "keeper") = .ok (.bl (!k)) := by cases k <;> rfl
theorem eq_keeper (k : Bool) : D.eq (ownD k) (.str "keeper") = .ok (.bl k) := by cases k <;> rfl
theorem eq_taker (k : Bool) : D.eq (ownD k) (.str "taker") = .ok (.bl (!k)) := by cases k <;> rfl
theorem ne_taker (k : Bool) : D.ne (ownD k) (.str "taker") = .ok (.bl k) := by cases k <;> rfl
theorem encO_D (o : Option Int) (n : Nat) : Dn n (encO o) := by
  cases o with
  | none => exact Dn.non n
  | some i => exact Dn.int i n
theorem lowD_D (l : List (Option Int)) (n : Nat) : Dn (n + 1) (lowD l) := Dn.lst fun x hx => by
  obtain ⟨o, _, rfl⟩ := List.mem_map.mp hx
  exact encO_D o n
theorem low_isin (l : List (Option Int)) : D.isin .non (lowD l) = .ok (.bl (decide (none ∈ l))) := by
  rw [lowD, isinLst (n := 1) (Dn.non 1) (lowD_D l 0) (by omega)]
  congr 2
  rw [List.any_map]
  induction l with
  | nil => rfl
  | cons o l ih =>
    rw [List.any_cons, ih]
    cases o with
    | none => simp [encO, D.pd, PySem.PyData.eqv]
    | some i => simp [encO, D.pd, PySem.PyData.eqv]
theorem low_ints : ∀ (l : List (Option Int)), none ∉ l → l.map encO = (somes l).map D.int
  | [], _ => rfl
  | none :: l, h => absurd (by simp) h
  | some n :: l, h => by
    have e := low_ints l fun z => h (by simp [z])
    unfold somes at e ⊢
    rw [List.map_cons, e]
    rfl
theorem pd2_D (p : Int × Int) (n : Nat) : Dn (n + 1) (pd2 p) := Dn.tup fun x hx => by
  rcases List.mem_cons.mp hx with rfl | hx
  · exact Dn.int _ n
  · rcases List.mem_cons.mp hx with rfl | hx
    · exact Dn.int _ n
    · cases hx
theorem eq_nil (acc : List (Int × Int)) : D.eq (.lst (acc.map pd2)) (.lst []) = .ok (.bl (decide (acc = []))) := by
  rw [eqLst (n := 2) (Dn.lst fun x hx => by
    obtain ⟨p, _, rfl⟩ := List.mem_map.mp hx
    exact pd2_D p 0) (Dn.lst fun x hx => by cases hx) (by omega)]
  cases acc <;> simp [PySem.PyData.eqvAll]
theorem encO_eqv (a b : Option Int) : PySem.PyData.eqv (encO a).pd (encO b).pd = decide (a = b) := by
  cases a with
  | none => cases b <;> simp [encO, D.pd, PySem.PyData.eqv]
  | some i =>
    cases b with
    | none => simp [encO, D.pd, PySem.PyData.eqv]
    | some j =>
      show (i == j) = decide (some i = some j)
      by_cases h : i = j
      · simp [h]
      · simp [h]
theorem low_eqv (a b : List (Option Int)) : PySem.PyData.eqv (lowD a).pd (lowD b).pd = decide (a = b) := by
  show PySem.PyData.eqvAll (D.pds (a.map encO)) (D.pds (b.map encO)) = _
  rw [D.pds_eq, D.pds_eq, List.map_map, List.map_map]
  exact eqv_enc (fun o => (encO o).pd) encO_eqv a b
theorem lowsD_D (lows : List (List (Option Int))) : Dn 2 (lowsD lows) := Dn.lst fun x hx => by
  obtain ⟨l, _, rfl⟩ := List.mem_map.mp hx
  exact lowD_D l 0
theorem lows_eq (a b : List (List (Option Int))) : D.eq (lowsD a) (lowsD b) = .ok (.bl (decide (a = b))) := by
  have h1 := lowsD_D a
  have h2 := lowsD_D b
  unfold lowsD at h1 h2 ⊢
  rw [eqLst h1 h2 (by omega), List.map_map, List.map_map]
  exact congrArg (fun k => R.ok (D.bl k)) (eqv_enc (fun l => (lowD l).pd) low_eqv a b)
theorem pd2_eqv (a b : Pr) : PySem.PyData.eqv (pd2 a).pd (pd2 b).pd = decide (a = b) := by
  show ((a.1 == b.1) && ((a.2 == b.2) && true)) = _
  by_cases h1 : a.1 = b.1
  · by_cases h2 : a.2 = b.2
    · rw [decide_eq_true (Prod.ext h1 h2)]; simp [h1, h2]
    · rw [decide_eq_false (fun e => h2 (by rw [e]))]; simp [h2]
  · rw [decide_eq_false (fun e => h1 (by rw [e]))]; simp [h1]
theorem bord_eqv (a b : List Pr) : PySem.PyData.eqv (bordD a).pd (bordD b).pd = decide (a = b) := by
  show PySem.PyData.eqvAll (D.pds (a.map pd2)) (D.pds (b.map pd2)) = _
  rw [D.pds_eq, D.pds_eq, List.map_map, List.map_map]
  exact eqv_enc (fun o => (pd2 o).pd) pd2_eqv a b
theorem tell_eqv (a b : List (List Pr)) : PySem.PyData.eqv (tellD a).pd (tellD b).pd = decide (a = b) := by
  show PySem.PyData.eqvAll (D.pds (a.map bordD)) (D.pds (b.map bordD)) = _
  rw [D.pds_eq, D.pds_eq, List.map_map, List.map_map]
  exact eqv_enc (fun o => (bordD o).pd) bord_eqv a b
theorem bordD_D (b : List Pr) (n : Nat) : Dn (n + 2) (bordD b) := Dn.tup fun x hx => by
  obtain ⟨p, _, rfl⟩ := List.mem_map.mp hx
  exact pd2_D p n
theorem tellD_D (b : List (List Pr)) (n : Nat) : Dn (n + 3) (tellD b) := Dn.lst fun x hx => by
  obtain ⟨p, _, rfl⟩ := List.mem_map.mp hx
  exact bordD_D p n
theorem rdsD_D (b : List (List (List Pr))) : Dn 4 (rdsD b) := Dn.lst fun x hx => by
  obtain ⟨p, _, rfl⟩ := List.mem_map.mp hx
  exact tellD_D p 0
theorem tell_eq (a b : List (List Pr)) : D.eq (tellD a) (tellD b) = .ok (.bl (decide (a = b))) := by
  have h1 := tellD_D a 0
  have h2 := tellD_D b 0
  unfold tellD at h1 h2 ⊢
  rw [eqLst h1 h2 (by omega), List.map_map, List.map_map]
  exact congrArg (fun k => R.ok (D.bl k)) (eqv_enc (fun l => (bordD l).pd) bord_eqv a b)
theorem rds_eq (a b : List (List (List Pr))) : D.eq (rdsD a) (rdsD b) = .ok (.bl (decide (a = b))) := by
  have h1 := rdsD_D a
  have h2 := rdsD_D b
  unfold rdsD at h1 h2 ⊢
  rw [eqLst h1 h2 (by omega), List.map_map, List.map_map]
  exact congrArg (fun k => R.ok (D.bl k)) (eqv_enc (fun l => (tellD l).pd) tell_eqv a b)
theorem eqTup {xs ys : List D} {n : Nat} (h1 : Dn n (.tup xs)) (h2 : Dn n (.tup ys)) (hn : n ≤ 60) : D.eq (.tup xs) (.tup ys) = .ok (.bl (PyData.eqvAll (xs.map D.pd) (ys.map D.pd))) := by
  show (if (D.tup xs).deep && (D.tup ys).deep then R.ok (D.bl (PyData.eqv (D.tup xs).pd (D.tup ys).pd)) else .stuck) = _
  rw [h1.deep hn, h2.deep hn]
  show R.ok (D.bl (PyData.eqvAll (D.pds xs) (D.pds ys))) = _
  rw [D.pds_eq, D.pds_eq]
theorem bord_eq (a b : List Pr) : D.eq (bordD a) (bordD b) = .ok (.bl (decide (a = b))) := by
  have h1 := bordD_D a 0
  have h2 := bordD_D b 0
  unfold bordD at h1 h2 ⊢
  rw [eqTup h1 h2 (by omega), List.map_map, List.map_map]
  exact congrArg (fun k => R.ok (D.bl k)) (eqv_enc (fun l => (pd2 l).pd) pd2_eqv a b)
theorem pd2_eq (a b : Pr) : D.eq (pd2 a) (pd2 b) = .ok (.bl (decide (a = b))) := by
  have h1 := pd2_D a 0
  have h2 := pd2_D b 0
  have e := pd2_eqv a b
  unfold pd2 at h1 h2 ⊢
  rw [eqTup h1 h2 (by omega)]
  exact congrArg (fun k => R.ok (D.bl k)) e
theorem last_ix {α : Type} (f : α → D) (as : List α) (p : α) : D.ix (.lst ((as ++ [p]).map f)) (.int (-1)) = .ok (f p) := by
  rw [List.map_append]
  show (match atI (as.map f ++ [f p]) (-1) with | some d => R.ok d | none => .stuck) = _
  rw [atI_last]
theorem rangeD_nat1 {n : Nat} (h : n ≤ 100000) : rangeD 0 ((n : Int) + 1) = .ok ((List.range (n + 1)).map fun i : Nat => D.int (i : Int)) := by
  have := rangeD_nat (n := n + 1) (by omega)
  simpa using this
theorem mul_ok {i j : Int} (hi : i.natAbs < 18446744073709551616) (hj : j.natAbs < 18446744073709551616) : D.mul (.int i) (.int j) = .ok (.int (i * j)) := by
  have l : ∀ n : Nat, n < 18446744073709551616 → n.log2 < 9000 := fun n h => of_eq_true (log2_small h)
  have h1 := l _ hi
  have h2 := l _ hj
  rw [mul_int, if_pos]
  unfold mulOk
  exact decide_eq_true (by omega)
theorem fdiv_ok {i j : Int} (hj : 0 < j) (h2 : j.natAbs < 18446744073709551616) : D.fdiv (.int i) (.int j) = .ok (.int (i / j)) := by
  rw [fdiv_int, if_pos]
  unfold divOk
  rw [decide_eq_true hj, decide_eq_true (of_eq_true (log2_small h2))]
  rfl
theorem mod_ok {i j : Int} (hj : 0 < j) : D.mod (.int i) (.int j) = .ok (.int (i % j)) := by
  rw [mod_int, if_pos hj]
theorem encO_lf (o : Option Int) : (encO o).lf = true := by cases o <;> rfl
theorem isNon_encO (o : Option Int) : (encO o).isNon = o.isNone := by cases o <;> rfl
theorem isNon_pd2 (p : Pr) : (pd2 p).isNon = false := rfl
theorem isNon_optP (o : Option Pr) : (optP o).isNon = o.isNone := by cases o <;> rfl
theorem isNon_stD (s : St) : (stD s).isNon = false := rfl
theorem pd2_lf (p : Pr) : (pd2 p).lf = true := rfl
theorem bordD_lf (b : List Pr) : (bordD b).lf = true := by
  show D.lfs (b.map pd2) = true
  rw [D.lfs_eq, List.all_eq_true]
  intro x hx
  obtain ⟨p, _, rfl⟩ := List.mem_map.mp hx
  rfl
end Py

namespace Py
open PySem PySem.Spec PyProof.Rows L2
/-! ## terms that the laws share, printed by gen.py -/
def L_border_of_0 : Ss := (.cons (.ite (.and (.cons (.isn true (.ix (.var 0) (.var 2))) (.cons (.or (.cons (.cmp .eq (.var 1) (.lst .nil)) (.cons (.cmp .lt (.ix (.var 0) (.var 2)) (.ix (.ix (.var 1) (.neg (.cst (.int 1)))) (.cst (.int 1)))) .nil))) .nil))) (.cons (.app true 1 (.tup (.cons (.var 2) (.cons (.ix (.var 0) (.var 2)) .nil)))) .nil) .nil) .nil)
def b_border_of : Ss := (.cons (.own true 1 (.disp .nil)) (.cons (.for_ true (.nm 2) (.range (.cons (.bi .len (.cons (.var 0) .nil)) .nil)) L_border_of_0) (.cons (.ret (.bi .tuple (.cons (.var 1) .nil))) .nil)))
def g_border_of : List D → R D := runFn [] 3 [1] b_border_of
def L_through_0 : Ss := (.cons (.asg true (.nm 7) (.cst .non)) (.cons (.ite (.cmp .ge (.bin .add (.var 4) (.ix (.var 1) (.cst (.int 2)))) (.cst (.int 0))) (.cons (.asg true (.nm 7) (.ix (.var 2) (.bi .min2 (.cons (.bin .add (.var 4) (.ix (.var 1) (.cst (.int 2)))) (.cons (.var 5) .nil))))) .nil) .nil) (.cons (.ite (.isn true (.var 7)) (.cons (.asg true (.nm 7) (.bi .max2 (.cons (.cst (.int 0)) (.cons (.bin .sub (.var 7) (.ix (.var 1) (.cst (.int 3)))) .nil)))) (.cons (.ite (.cmp .gt (.var 7) (.var 6)) (.cons (.asg true (.nm 7) (.cst .non)) .nil) .nil) .nil)) .nil) (.cons (.app true 3 (.var 7)) .nil))))
def b_through : Ss := (.cons (.asg true (.tp [5, 6]) (.ix (.var 0) (.cst (.int 0)))) (.cons (.own true 3 (.disp .nil)) (.cons (.for_ true (.nm 4) (.range (.cons (.bin .add (.var 5) (.cst (.int 1))) .nil)) L_through_0) (.cons (.ret (.var 3)) .nil))))
def g_through : List D → R D := runFn [] 8 [3] b_through
def b_greatest_of : Ss := (.cons (.ite (.cmp .isin (.cst .non) (.var 0)) (.cons (.ret (.cst .non)) .nil) .nil) (.cons (.ret (.bi .maxL (.cons (.var 0) .nil))) .nil))
def g_greatest_of : List D → R D := runFn [] 1 [] b_greatest_of
def lc_least_of_0 : E := .lc (.nm 1) (.val (.var 0)) (.cons (.isn true (.var 1)) .nil) (.var 1)
def b_least_of : Ss := (.cons (.ret (.minD lc_least_of_0)) .nil)
def g_least_of : List D → R D := runFn [] 2 [] b_least_of
def b_is_whole : Ss := (.cons (.ret (.and (.cons (.isi (.var 0) .int) (.cons (.not (.isi (.var 0) .bool)) .nil)))) .nil)
def g_is_whole : List D → R D := runFn [] 1 [] b_is_whole
def b_is_within : Ss := (.cons (.ret (.and (.cons (.call 0 (.cons (.var 0) .nil)) (.cons (.cmp .le (.var 1) (.var 0)) (.cons (.cmp .le (.var 0) (.var 2)) .nil))))) .nil)
def g_is_within : List D → R D := runFn [(1, g_is_whole)] 3 [] b_is_within
def b_check_place : Ss := (.cons (.ite (.not (.call 0 (.cons (.var 1) (.cons (.cst (.int 0)) (.cons (.bin .sub (.bi .len (.cons (.ix (.var 0) (.cst (.int 1))) .nil)) (.cst (.int 1))) .nil))))) (.cons .nev .nil) .nil) .nil)
def g_check_place : List D → R D := runFn [(3, g_is_within)] 2 [] b_check_place
def L_stall_at_0 : Ss := (.cons (.ite (.cmp .eq (.ix (.var 2) (.cst (.int 0))) (.var 1)) (.cons (.ret (.var 2)) .nil) .nil) .nil)
def b_stall_at : Ss := (.cons (.ex (.call 0 (.cons (.var 0) (.cons (.var 1) .nil)))) (.cons (.for_ true (.nm 2) (.val (.ix (.var 0) (.cst (.int 3)))) L_stall_at_0) (.cons (.ret (.cst .non)) .nil)))
def g_stall_at : List D → R D := runFn [(2, g_check_place)] 3 [] b_stall_at
def L_given_first_0 : Ss := (.cons (.asg true (.nm 6) (.ix (.var 1) (.bin .sub (.var 3) (.bin .mul (.var 5) (.ix (.var 0) (.cst (.int 2))))))) (.cons (.ite (.isn true (.var 6)) (.cons (.app true 4 (.bi .max2 (.cons (.cst (.int 0)) (.cons (.bin .sub (.var 6) (.bin .mul (.var 5) (.ix (.var 0) (.cst (.int 3))))) .nil)))) .nil) .nil) .nil))
def L_given_first_1 : Ss := (.cons (.own true 4 (.disp .nil)) (.cons (.for_ true (.nm 5) (.range (.cons (.bin .add (.bin .fdiv (.var 3) (.ix (.var 0) (.cst (.int 2)))) (.cst (.int 1))) .nil)) L_given_first_0) (.cons (.app false 2 (.call 0 (.cons (.var 4) .nil))) .nil)))
def b_given_first : Ss := (.cons (.own true 2 (.disp .nil)) (.cons (.for_ true (.nm 3) (.range (.cons (.bi .len (.cons (.var 1) .nil)) .nil)) L_given_first_1) (.cons (.ret (.var 2)) .nil)))
def g_given_first : List D → R D := runFn [(1, g_least_of)] 7 [2, 4] b_given_first
def L_given_second_0 : Ss := (.cons (.asg true (.nm 7) (.ix (.var 1) (.bi .min2 (.cons (.bin .add (.var 4) (.bin .mul (.var 6) (.ix (.var 0) (.cst (.int 3))))) (.cons (.bin .sub (.bi .len (.cons (.var 1) .nil)) (.cst (.int 1))) .nil))))) (.cons (.ite (.and (.cons (.isn true (.var 7)) (.cons (.cmp .le (.bin .add (.var 7) (.bin .mul (.var 6) (.ix (.var 0) (.cst (.int 2))))) (.var 2)) .nil))) (.cons (.app true 5 (.bin .add (.var 7) (.bin .mul (.var 6) (.ix (.var 0) (.cst (.int 2)))))) .nil) .nil) .nil))
def L_given_second_1 : Ss := (.cons (.own true 5 (.disp .nil)) (.cons (.for_ true (.nm 6) (.range (.cons (.bin .add (.bin .fdiv (.var 2) (.ix (.var 0) (.cst (.int 2)))) (.cst (.int 1))) .nil)) L_given_second_0) (.cons (.app false 3 (.call 0 (.cons (.var 5) .nil))) .nil)))
def b_given_second : Ss := (.cons (.own true 3 (.disp .nil)) (.cons (.for_ true (.nm 4) (.range (.cons (.bi .len (.cons (.var 1) .nil)) .nil)) L_given_second_1) (.cons (.ret (.var 3)) .nil)))
def g_given_second : List D → R D := runFn [(1, g_least_of)] 8 [3, 5] b_given_second
def lc_next_low_0 : E := .lc (.nm 7) (.val (.ix (.var 0) (.cst (.int 2)))) (.cons (.cmp .eq (.ix (.var 7) (.cst (.int 0))) (.var 1)) .nil) (.call 0 (.cons (.var 0) (.cons (.var 7) (.cons (.ix (.var 2) (.ix (.var 7) (.cst (.int 1)))) .nil))))
def lc_next_low_1 : E := .lc (.nm 5) (.val (.var 3)) .nil (.ix (.var 5) (.var 8))
def lc_next_low_2 : E := .lc (.nm 8) (.range (.cons (.bin .add (.ix (.ix (.var 0) (.cst (.int 0))) (.cst (.int 0))) (.cst (.int 1))) .nil)) .nil lc_next_low_1
def lc_next_low_3 : E := .lc (.nm 9) (.val (.var 4)) .nil (.call 1 (.cons (.var 9) .nil))
def lc_next_low_4 : E := .lc (.nm 9) (.val (.var 4)) .nil (.call 2 (.cons (.var 9) .nil))
def b_next_low : Ss := (.cons (.asg true (.nm 3) lc_next_low_0) (.cons (.asg true (.nm 4) lc_next_low_2) (.cons (.ite (.cmp .ne (.ix (.ix (.var 0) (.cst (.int 1))) (.var 1)) (.glo "KEEPER" (.str ("keeper" : Str)))) (.cons (.ret lc_next_low_3) .nil) .nil) (.cons (.asg true (.nm 5) lc_next_low_4) (.cons (.asg true (.nm 6) (.call 3 (.cons (.var 0) (.cons (.var 1) .nil)))) (.cons (.ite (.isn false (.var 6)) (.cons (.ret (.var 5)) .nil) .nil) (.cons (.ite (.cmp .eq (.ix (.var 6) (.cst (.int 1))) (.cst (.int 0))) (.cons (.ret (.call 4 (.cons (.var 6) (.cons (.var 5) .nil)))) .nil) .nil) (.cons (.ret (.call 5 (.cons (.var 6) (.cons (.var 5) (.cons (.ix (.ix (.var 0) (.cst (.int 0))) (.cst (.int 1))) .nil))))) .nil))))))))
def g_next_low : List D → R D := runFn [(3, g_through), (1, g_greatest_of), (1, g_least_of), (2, g_stall_at), (2, g_given_first), (3, g_given_second)] 10 [] b_next_low
def lc_rounds_0 : E := .lc (.nm 4) (.val (.ix (.var 0) (.cst (.int 1)))) .nil (.bin .mul (.lst (.cons (.cst (.int 0)) .nil)) (.bin .add (.ix (.ix (.var 0) (.cst (.int 0))) (.cst (.int 0))) (.cst (.int 1))))
def lc_rounds_1 : E := .lc (.nm 6) (.val (.var 1)) .nil (.call 0 (.cons (.var 6) .nil))
def lc_rounds_2 : E := .lc (.nm 5) (.range (.cons (.bi .len (.cons (.var 1) .nil)) .nil)) .nil (.call 1 (.cons (.var 0) (.cons (.var 5) (.cons (.var 1) .nil))))
def L_rounds_0 : Ss := (.cons (.app true 2 lc_rounds_1) (.cons (.asg true (.nm 3) lc_rounds_2) (.cons (.ite (.cmp .eq (.var 3) (.var 1)) (.cons (.ret (.var 2)) .nil) .nil) (.cons (.asg true (.nm 1) (.var 3)) .nil))))
def b_rounds : Ss := (.cons (.asg true (.nm 1) lc_rounds_0) (.cons (.own true 2 (.disp .nil)) (.cons (.whl 100000 (.cst (.bl true)) L_rounds_0) .nil)))
def g_rounds : List D → R D := runFn [(1, g_border_of), (3, g_next_low)] 7 [2] b_rounds
def b_borders : Ss := (.cons (.ret (.ix (.call 0 (.cons (.var 0) .nil)) (.neg (.cst (.int 1))))) .nil)
def g_borders : List D → R D := runFn [(1, g_rounds)] 1 [] b_borders
def lc_ways_from_0 : E := .lc (.nm 2) (.range (.cons (.bi .len (.cons (.ix (.var 0) (.cst (.int 2))) .nil)) .nil)) (.cons (.cmp .eq (.ix (.ix (.ix (.var 0) (.cst (.int 2))) (.var 2)) (.cst (.int 0))) (.var 1)) .nil) (.var 2)
def b_ways_from : Ss := (.cons (.ex (.call 0 (.cons (.var 0) (.cons (.var 1) .nil)))) (.cons (.ret lc_ways_from_0) .nil))
def g_ways_from : List D → R D := runFn [(2, g_check_place)] 3 [] b_ways_from
def b_after : Ss := (.cons (.asg true (.nm 3) (.bin .add (.ix (.var 1) (.cst (.int 0))) (.ix (.var 2) (.cst (.int 2))))) (.cons (.asg true (.nm 4) (.bin .add (.ix (.var 1) (.cst (.int 1))) (.ix (.var 2) (.cst (.int 3))))) (.cons (.ite (.or (.cons (.cmp .lt (.var 3) (.cst (.int 0))) (.cons (.cmp .lt (.var 4) (.cst (.int 0))) .nil))) (.cons (.ret (.cst .non)) .nil) .nil) (.cons (.ret (.tup (.cons (.bi .min2 (.cons (.var 3) (.cons (.ix (.ix (.var 0) (.cst (.int 0))) (.cst (.int 0))) .nil))) (.cons (.bi .min2 (.cons (.var 4) (.cons (.ix (.ix (.var 0) (.cst (.int 0))) (.cst (.int 1))) .nil))) .nil)))) .nil))))
def g_after : List D → R D := runFn [] 5 [] b_after
def b_at_or_above : Ss := (.cons (.ret (.and (.cons (.cmp .ge (.ix (.var 0) (.cst (.int 0))) (.ix (.var 1) (.cst (.int 0)))) (.cons (.cmp .ge (.ix (.var 0) (.cst (.int 1))) (.ix (.var 1) (.cst (.int 1)))) .nil)))) .nil)
def g_at_or_above : List D → R D := runFn [] 2 [] b_at_or_above
def L_holds_0 : Ss := (.cons (.ite (.call 0 (.cons (.var 1) (.cons (.var 2) .nil))) (.cons (.ret (.cst (.bl true))) .nil) .nil) .nil)
def b_holds : Ss := (.cons (.for_ true (.nm 2) (.val (.var 0)) L_holds_0) (.cons (.ret (.cst (.bl false))) .nil))
def g_holds : List D → R D := runFn [(2, g_at_or_above)] 3 [] b_holds
def L_way_within_0 : Ss := (.cons (.asg true (.nm 5) (.ix (.ix (.var 0) (.cst (.int 2))) (.var 4))) (.cons (.asg true (.nm 6) (.call 1 (.cons (.var 0) (.cons (.var 3) (.cons (.var 5) .nil))))) (.cons (.ite (.and (.cons (.isn true (.var 6)) (.cons (.call 2 (.cons (.ix (.var 1) (.ix (.var 5) (.cst (.int 1)))) (.cons (.var 6) .nil))) .nil))) (.cons (.ret (.var 4)) .nil) .nil) .nil)))
def b_way_within : Ss := (.cons (.for_ true (.nm 4) (.val (.call 0 (.cons (.var 0) (.cons (.var 2) .nil)))) L_way_within_0) (.cons (.ret (.cst .non)) .nil))
def g_way_within : List D → R D := runFn [(2, g_ways_from), (3, g_after), (2, g_holds)] 7 [] b_way_within
def b_traded : Ss := (.cons (.ite (.cmp .eq (.var 3) (.cst (.int 0))) (.cons (.ret (.var 2)) .nil) .nil) (.cons (.ite (.isn false (.var 1)) (.cons (.ret (.cst .non)) .nil) .nil) (.cons (.asg true (.nm 4) (.ix (.var 1) (.cst (.int 1)))) (.cons (.asg true (.nm 5) (.bin .sub (.ix (.var 2) (.var 4)) (.bin .mul (.var 3) (.ix (.var 1) (.cst (.int 2)))))) (.cons (.ite (.cmp .lt (.var 5) (.cst (.int 0))) (.cons (.ret (.cst .non)) .nil) .nil) (.cons (.asg true (.nm 6) (.bi .min2 (.cons (.bin .add (.ix (.var 2) (.bin .sub (.cst (.int 1)) (.var 4))) (.bin .mul (.var 3) (.ix (.var 1) (.cst (.int 3))))) (.cons (.ix (.ix (.var 0) (.cst (.int 0))) (.bin .sub (.cst (.int 1)) (.var 4))) .nil)))) (.cons (.ite (.cmp .eq (.var 4) (.cst (.int 0))) (.cons (.ret (.tup (.cons (.var 5) (.cons (.var 6) .nil)))) .nil) .nil) (.cons (.ret (.tup (.cons (.var 6) (.cons (.var 5) .nil)))) .nil))))))))
def g_traded : List D → R D := runFn [] 7 [] b_traded
def L_deed_within_0 : Ss := (.cons (.asg true (.nm 7) (.call 1 (.cons (.var 0) (.cons (.var 1) (.cons (.var 2) (.cons (.var 6) .nil)))))) (.cons (.ite (.isn true (.var 7)) (.cons (.ret (.tup (.cons (.var 5) (.cons (.var 7) .nil)))) .nil) .nil) (.cons (.asg true (.nm 5) (.bin .add (.var 5) (.cst (.int 1)))) (.cons (.asg true (.nm 6) (.call 2 (.cons (.var 0) (.cons (.var 4) (.cons (.var 3) (.cons (.var 5) .nil)))))) .nil))))
def b_deed_within : Ss := (.cons (.asg true (.nm 4) (.call 0 (.cons (.var 0) (.cons (.var 2) .nil)))) (.cons (.asg true (.nm 5) (.cst (.int 0))) (.cons (.asg true (.nm 6) (.var 3)) (.cons (.whl 100000 (.isn true (.var 6)) L_deed_within_0) (.cons (.ret (.cst .non)) .nil)))))
def g_deed_within : List D → R D := runFn [(2, g_stall_at), (4, g_way_within), (4, g_traded)] 8 [] b_deed_within
def lc_table_0 : E := .lc (.nm 5) (.val (.ix (.var 1) (.var 3))) .nil (.bin .add (.tup (.cons (.var 5) .nil)) (.call 1 (.cons (.var 0) (.cons (.var 1) (.cons (.var 3) (.cons (.var 5) .nil))))))
def L_table_0 : Ss := (.cons (.asg true (.nm 4) (.tup .nil)) (.cons (.ite (.cmp .eq (.ix (.ix (.var 0) (.cst (.int 1))) (.var 3)) (.glo "KEEPER" (.str ("keeper" : Str)))) (.cons (.asg true (.nm 4) (.bi .tuple (.cons lc_table_0 .nil))) .nil) .nil) (.cons (.app true 2 (.var 4)) .nil)))
def b_table : Ss := (.cons (.asg true (.nm 1) (.call 0 (.cons (.var 0) .nil))) (.cons (.own true 2 (.disp .nil)) (.cons (.for_ true (.nm 3) (.range (.cons (.bi .len (.cons (.var 1) .nil)) .nil)) L_table_0) (.cons (.ret (.var 2)) .nil))))
def g_table : List D → R D := runFn [(1, g_borders), (4, g_deed_within)] 6 [2] b_table
def b_is_row : Ss := (.cons (.ret (.and (.cons (.isi (.var 0) .tuple) (.cons (.cmp .eq (.bi .len (.cons (.var 0) .nil)) (.var 1)) .nil)))) .nil)
def g_is_row : List D → R D := runFn [] 2 [] b_is_row
def b_check_pair : Ss := (.cons (.ite (.or (.cons (.not (.call 0 (.cons (.var 1) (.cons (.cst (.int 2)) .nil)))) (.cons (.not (.call 1 (.cons (.ix (.var 1) (.cst (.int 0))) (.cons (.cst (.int 0)) (.cons (.ix (.ix (.var 0) (.cst (.int 0))) (.cst (.int 0))) .nil))))) (.cons (.not (.call 1 (.cons (.ix (.var 1) (.cst (.int 1))) (.cons (.cst (.int 0)) (.cons (.ix (.ix (.var 0) (.cst (.int 0))) (.cst (.int 1))) .nil))))) .nil)))) (.cons .nev .nil) .nil) .nil)
def g_check_pair : List D → R D := runFn [(2, g_is_row), (3, g_is_within)] 2 [] b_check_pair
def b_keeper_deed : Ss := (.cons (.ex (.call 0 (.cons (.var 0) (.cons (.var 1) .nil)))) (.cons (.ex (.call 1 (.cons (.var 0) (.cons (.var 2) .nil)))) (.cons (.ite (.cmp .ne (.ix (.ix (.var 0) (.cst (.int 1))) (.var 1)) (.glo "KEEPER" (.str ("keeper" : Str)))) (.cons (.ret (.cst .non)) .nil) .nil) (.cons (.ret (.call 2 (.cons (.var 0) (.cons (.call 3 (.cons (.var 0) .nil)) (.cons (.var 1) (.cons (.var 2) .nil)))))) .nil))))
def g_keeper_deed : List D → R D := runFn [(2, g_check_place), (2, g_check_pair), (4, g_deed_within), (1, g_borders)] 3 [] b_keeper_deed
def L_lasting_in_0 : Ss := (.cons (.ite (.not (.call 0 (.cons (.ix (.ix (.var 0) (.var 3)) (.var 1)) (.cons (.var 2) .nil)))) (.cons (.ret (.var 3)) .nil) .nil) .nil)
def b_lasting_in : Ss := (.cons (.for_ true (.nm 3) (.range (.cons (.bi .len (.cons (.var 0) .nil)) .nil)) L_lasting_in_0) (.cons (.ret (.cst .non)) .nil))
def g_lasting_in : List D → R D := runFn [(2, g_holds)] 4 [] b_lasting_in
def L_taker_way_0 : Ss := (.cons (.asg true (.nm 6) (.ix (.ix (.var 0) (.cst (.int 2))) (.var 5))) (.cons (.asg true (.nm 7) (.call 5 (.cons (.var 0) (.cons (.var 2) (.cons (.var 6) .nil))))) (.cons (.ite (.isn false (.var 7)) (.cons (.ret (.var 5)) .nil) .nil) (.cons (.asg true (.nm 8) (.call 3 (.cons (.var 3) (.cons (.ix (.var 6) (.cst (.int 1))) (.cons (.var 7) .nil))))) (.cons (.ite (.and (.cons (.isn true (.var 8)) (.cons (.cmp .lt (.var 8) (.var 4)) .nil))) (.cons (.ret (.var 5)) .nil) .nil) .nil)))))
def b_taker_way : Ss := (.cons (.ex (.call 0 (.cons (.var 0) (.cons (.var 1) .nil)))) (.cons (.ex (.call 1 (.cons (.var 0) (.cons (.var 2) .nil)))) (.cons (.asg true (.nm 3) (.call 2 (.cons (.var 0) .nil))) (.cons (.asg true (.nm 4) (.call 3 (.cons (.var 3) (.cons (.var 1) (.cons (.var 2) .nil))))) (.cons (.ite (.or (.cons (.cmp .eq (.ix (.ix (.var 0) (.cst (.int 1))) (.var 1)) (.glo "KEEPER" (.str ("keeper" : Str)))) (.cons (.isn false (.var 4)) .nil))) (.cons (.ret (.cst .non)) .nil) .nil) (.cons (.for_ true (.nm 5) (.val (.call 4 (.cons (.var 0) (.cons (.var 1) .nil)))) L_taker_way_0) (.cons (.ret (.cst .non)) .nil)))))))
def g_taker_way : List D → R D := runFn [(2, g_check_place), (2, g_check_pair), (1, g_rounds), (3, g_lasting_in), (2, g_ways_from), (3, g_after)] 9 [] b_taker_way
def b_lasts : Ss := (.cons (.ex (.call 0 (.cons (.var 0) (.cons (.var 1) .nil)))) (.cons (.ex (.call 1 (.cons (.var 0) (.cons (.var 2) .nil)))) (.cons (.ret (.call 2 (.cons (.call 3 (.cons (.var 0) .nil)) (.cons (.var 1) (.cons (.var 2) .nil))))) .nil)))
def g_lasts : List D → R D := runFn [(2, g_check_place), (2, g_check_pair), (3, g_lasting_in), (1, g_rounds)] 3 [] b_lasts
def b_enough : Ss := (.cons (.ex (.call 0 (.cons (.var 0) (.cons (.var 1) .nil)))) (.cons (.ex (.call 1 (.cons (.var 0) (.cons (.var 2) .nil)))) (.cons (.ret (.call 2 (.cons (.ix (.call 3 (.cons (.var 0) .nil)) (.var 1)) (.cons (.var 2) .nil)))) .nil)))
def g_enough : List D → R D := runFn [(2, g_check_place), (2, g_check_pair), (2, g_holds), (1, g_borders)] 3 [] b_enough
def b_count_of : Ss := (.cons (.ite (.not (.call 0 (.cons (.var 0) (.cons (.var 1) (.cons (.var 2) .nil))))) (.cons .nev .nil) .nil) (.cons (.ret (.var 0)) .nil))
def g_count_of : List D → R D := runFn [(3, g_is_within)] 3 [] b_count_of
def L_least_pairs_0 : Ss := (.cons (.ite (.not (.call 0 (.cons (.var 1) (.cons (.var 2) .nil)))) (.cons (.app true 1 (.var 2)) .nil) .nil) .nil)
def b_least_pairs : Ss := (.cons (.own true 1 (.disp .nil)) (.cons (.for_ true (.nm 2) (.val (.sset (.var 0))) L_least_pairs_0) (.cons (.ret (.bi .tuple (.cons (.var 1) .nil))) .nil)))
def g_least_pairs : List D → R D := runFn [(2, g_holds)] 3 [1] b_least_pairs
def L_least_brims_0 : Ss := (.cons (.asg true (.nm 6) (.tup (.cons (.var 4) (.cons (.var 5) .nil)))) (.cons (.ite (.call 2 (.cons (.ix (.call 3 (.cons (.tup (.cons (.var 6) (.cons (.ix (.var 0) (.cst (.int 1))) (.cons (.ix (.var 0) (.cst (.int 2))) (.cons (.ix (.var 0) (.cst (.int 3))) .nil))))) .nil)) (.var 1)) (.cons (.var 6) .nil))) (.cons (.app true 3 (.var 6)) .nil) .nil) .nil))
def L_least_brims_1 : Ss := (.cons (.for_ true (.nm 5) (.range (.cons (.bin .add (.var 2) (.cst (.int 1))) .nil)) L_least_brims_0) .nil)
def b_least_brims : Ss := (.cons (.ex (.call 0 (.cons (.var 0) (.cons (.var 1) .nil)))) (.cons (.ex (.call 1 (.cons (.var 2) (.cons (.cst (.int 0)) (.cons (.cst (.int 3)) .nil))))) (.cons (.own true 3 (.disp .nil)) (.cons (.for_ true (.nm 4) (.range (.cons (.bin .add (.var 2) (.cst (.int 1))) .nil)) L_least_brims_1) (.cons (.ret (.call 4 (.cons (.var 3) .nil))) .nil)))))
def g_least_brims : List D → R D := runFn [(2, g_check_place), (3, g_count_of), (2, g_holds), (1, g_borders), (1, g_least_pairs)] 7 [3] b_least_brims
def L_left_alone_0 : Ss := (.cons (.own true 8 (.disp (.cons (.cst (.int 0)) (.cons (.cst (.int 0)) .nil)))) (.cons (.put true 8 (.var 1) (.ix (.tup (.cons (.var 6) (.cons (.var 7) .nil))) (.var 1))) (.cons (.app false 3 (.tup (.cons (.var 4) (.cons (.var 5) (.cons (.ix (.var 8) (.cst (.int 0))) (.cons (.ix (.var 8) (.cst (.int 1))) .nil)))))) .nil)))
def b_left_alone : Ss := (.cons (.own true 2 (.disp (.cons (.cst (.int 0)) (.cons (.cst (.int 0)) .nil)))) (.cons (.put true 2 (.var 1) (.ix (.ix (.var 0) (.cst (.int 0))) (.var 1))) (.cons (.own true 3 (.disp .nil)) (.cons (.for_ true (.tp [4, 5, 6, 7]) (.val (.ix (.var 0) (.cst (.int 2)))) L_left_alone_0) (.cons (.ret (.tup (.cons (.bi .tuple (.cons (.var 2) .nil)) (.cons (.ix (.var 0) (.cst (.int 1))) (.cons (.bi .tuple (.cons (.sset (.var 3)) .nil)) (.cons (.tup .nil) .nil)))))) .nil)))))
def g_left_alone : List D → R D := runFn [] 9 [2, 8, 3] b_left_alone
def L_alone_0 : Ss := (.cons (.ite (.cmp .eq (.var 3) (.tup .nil)) (.cons (.app true 2 (.cst .non)) .nil) (.cons (.app true 2 (.ix (.ix (.var 3) (.cst (.int 0))) (.var 1))) .nil)) .nil)
def b_alone : Ss := (.cons (.ex (.call 0 (.cons (.var 1) (.cons (.cst (.int 0)) (.cons (.cst (.int 1)) .nil))))) (.cons (.own true 2 (.disp .nil)) (.cons (.for_ true (.nm 3) (.val (.call 1 (.cons (.call 2 (.cons (.var 0) (.cons (.var 1) .nil))) .nil))) L_alone_0) (.cons (.ret (.bi .tuple (.cons (.var 2) .nil))) .nil))))
def g_alone : List D → R D := runFn [(3, g_count_of), (1, g_borders), (2, g_left_alone)] 4 [2] b_alone
def b_t_law_cell : Ss := (.cons (.ite (.cmp .lt (.var 1) (.bi .len (.cons (.var 0) .nil))) (.cons (.ret (.bin .mod (.ix (.var 0) (.var 1)) (.bin .pow (.cst (.int 10)) (.cst (.int 40))))) .nil) .nil) (.cons (.ret (.cst (.int 0))) .nil))
def g_t_law_cell : List D → R D := runFn [] 2 [] b_t_law_cell
def L_t_law_owners_0 : Ss := (.cons (.app true 3 (.ix (.lst (.cons (.cst (.str ("keeper" : Str))) (.cons (.cst (.str ("taker" : Str))) .nil))) (.bin .mod (.var 2) (.cst (.int 2))))) (.cons (.asg true (.nm 2) (.bin .fdiv (.var 2) (.cst (.int 2)))) .nil))
def b_t_law_owners : Ss := (.cons (.asg true (.nm 2) (.call 0 (.cons (.var 0) (.cons (.cst (.int 2)) .nil)))) (.cons (.own true 3 (.disp .nil)) (.cons (.for_ true (.nm 4) (.range (.cons (.var 1) .nil)) L_t_law_owners_0) (.cons (.ret (.bi .tuple (.cons (.var 3) .nil))) .nil))))
def g_t_law_owners : List D → R D := runFn [(2, g_t_law_cell)] 5 [3] b_t_law_owners
def b_t_law_brims : Ss := (.cons (.asg true (.nm 2) (.call 0 (.cons (.var 0) (.cons (.cst (.int 1)) .nil)))) (.cons (.asg true (.nm 3) (.lst (.cons (.ix (.lst (.cons (.cst (.int 3)) (.cons (.cst (.int 2)) (.cons (.cst (.int 4)) (.cons (.cst (.int 1)) (.cons (.cst (.int 5)) (.cons (.cst (.int 2)) (.cons (.cst (.int 3)) (.cons (.cst (.int 0)) .nil))))))))) (.bin .mod (.var 2) (.cst (.int 8)))) (.cons (.ix (.lst (.cons (.cst (.int 2)) (.cons (.cst (.int 3)) (.cons (.cst (.int 1)) (.cons (.cst (.int 4)) (.cons (.cst (.int 2)) (.cons (.cst (.int 5)) (.cons (.cst (.int 3)) (.cons (.cst (.int 0)) .nil))))))))) (.bin .mod (.bin .fdiv (.var 2) (.cst (.int 8))) (.cst (.int 8)))) .nil)))) (.cons (.ite (.cmp .gt (.var 1) (.cst (.int 4))) (.cons (.ret (.tup (.cons (.bi .min2 (.cons (.ix (.var 3) (.cst (.int 0))) (.cons (.cst (.int 2)) .nil))) (.cons (.bi .min2 (.cons (.ix (.var 3) (.cst (.int 1))) (.cons (.cst (.int 2)) .nil))) .nil)))) .nil) .nil) (.cons (.ite (.cmp .eq (.bin .mod (.bin .fdiv (.var 2) (.cst (.int 64))) (.cst (.int 10))) (.cst (.int 1))) (.cons (.ret (.tup (.cons (.cst (.int 12)) (.cons (.bin .mod (.ix (.var 3) (.cst (.int 1))) (.cst (.int 3))) .nil)))) .nil) .nil) (.cons (.ite (.cmp .eq (.bin .mod (.bin .fdiv (.var 2) (.cst (.int 64))) (.cst (.int 10))) (.cst (.int 2))) (.cons (.ret (.tup (.cons (.bin .mod (.ix (.var 3) (.cst (.int 0))) (.cst (.int 3))) (.cons (.cst (.int 12)) .nil)))) .nil) .nil) (.cons (.ite (.and (.cons (.cmp .eq (.bin .mod (.bin .fdiv (.var 2) (.cst (.int 64))) (.cst (.int 10))) (.cst (.int 3))) (.cons (.cmp .lt (.var 1) (.cst (.int 3))) .nil))) (.cons (.ret (.tup (.cons (.cst (.int 12)) (.cons (.cst (.int 12)) .nil)))) .nil) .nil) (.cons (.ret (.bi .tuple (.cons (.var 3) .nil))) .nil)))))))
def g_t_law_brims : List D → R D := runFn [(2, g_t_law_cell)] 4 [] b_t_law_brims
def b_t_law_coins : Ss := (.cons (.ite (.cmp .eq (.bin .mod (.var 0) (.cst (.int 5))) (.cst (.int 1))) (.cons (.ret (.bin .sub (.bin .mod (.bin .fdiv (.var 0) (.cst (.int 5))) (.cst (.int 25))) (.cst (.int 12)))) .nil) .nil) (.cons (.ret (.bin .sub (.bin .mod (.bin .mod (.bin .fdiv (.var 0) (.cst (.int 5))) (.cst (.int 25))) (.cst (.int 7))) (.cst (.int 3)))) .nil))
def g_t_law_coins : List D → R D := runFn [] 1 [] b_t_law_coins
def L_t_law_ways_0 : Ss := (.cons (.asg true (.nm 8) (.bin .add (.bin .mul (.var 3) (.var 5)) (.var 7))) (.cons (.asg true (.nm 9) (.bin .mod (.bin .add (.bin .add (.bin .mul (.call 0 (.cons (.var 0) (.cons (.bin .add (.cst (.int 4)) (.var 8)) .nil))) (.cst (.int 2957))) (.bin .mul (.cst (.int 61)) (.var 8))) (.cst (.int 17))) (.cst (.int 999983)))) (.cons (.asg true (.nm 10) (.bin .fdiv (.var 9) (.cst (.int 8)))) (.cons (.app true 4 (.tup (.cons (.var 5) (.cons (.bin .mod (.bin .mod (.var 9) (.cst (.int 8))) (.var 1)) (.cons (.call 1 (.cons (.var 10) .nil)) (.cons (.call 1 (.cons (.bin .fdiv (.var 10) (.cst (.int 125))) .nil)) .nil)))))) .nil))))
def L_t_law_ways_1 : Ss := (.cons (.asg true (.nm 6) (.bin .add (.cst (.int 1)) (.bin .mod (.var 2) (.cst (.int 3))))) (.cons (.ite (.and (.cons (.cmp .lt (.var 1) (.cst (.int 3))) (.cons (.cmp .eq (.bin .mod (.bin .fdiv (.var 2) (.cst (.int 3))) (.cst (.int 8))) (.cst (.int 1))) .nil))) (.cons (.asg true (.nm 6) (.bin .add (.cst (.int 9)) (.var 6))) .nil) .nil) (.cons (.for_ true (.nm 7) (.range (.cons (.var 6) .nil)) L_t_law_ways_0) (.cons (.asg true (.nm 2) (.bin .fdiv (.var 2) (.cst (.int 24)))) .nil))))
def b_t_law_ways : Ss := (.cons (.asg true (.nm 2) (.call 0 (.cons (.var 0) (.cons (.cst (.int 3)) .nil)))) (.cons (.asg true (.nm 3) (.ix (.lst (.cons (.cst (.int 3)) (.cons (.cst (.int 12)) .nil))) (.bi .int (.cons (.cmp .lt (.var 1) (.cst (.int 3))) .nil)))) (.cons (.own true 4 (.disp .nil)) (.cons (.for_ true (.nm 5) (.range (.cons (.var 1) .nil)) L_t_law_ways_1) (.cons (.ret (.bi .tuple (.cons (.sset (.var 4)) .nil))) .nil)))))
def g_t_law_ways : List D → R D := runFn [(2, g_t_law_cell), (1, g_t_law_coins)] 11 [4] b_t_law_ways
def L_t_law_stalls_0 : Ss := (.cons (.asg true (.nm 4) (.bin .mod (.bin .add (.bin .add (.bin .mul (.call 0 (.cons (.var 0) (.cons (.bin .add (.cst (.int 28)) (.var 3)) .nil))) (.cst (.int 3571))) (.bin .mul (.cst (.int 29)) (.var 3))) (.cst (.int 5))) (.cst (.int 999979)))) (.cons (.ite (.and (.cons (.cmp .eq (.ix (.var 1) (.var 3)) (.cst (.str ("keeper" : Str)))) (.cons (.cmp .eq (.bin .mod (.var 4) (.cst (.int 3))) (.cst (.int 1))) .nil))) (.cons (.asg true (.nm 5) (.bin .fdiv (.var 4) (.cst (.int 6)))) (.cons (.asg true (.nm 6) (.bin .add (.cst (.int 1)) (.ix (.lst (.cons (.bin .mod (.var 5) (.cst (.int 3))) (.cons (.bin .mod (.var 5) (.cst (.int 3))) (.cons (.bin .mod (.var 5) (.cst (.int 12))) .nil)))) (.bin .mod (.bin .fdiv (.var 5) (.cst (.int 12))) (.cst (.int 3)))))) (.cons (.asg true (.nm 7) (.ix (.lst (.cons (.bin .mod (.bin .fdiv (.var 5) (.cst (.int 36))) (.cst (.int 4))) (.cons (.bin .mod (.bin .fdiv (.var 5) (.cst (.int 36))) (.cst (.int 4))) (.cons (.bin .mod (.bin .fdiv (.var 5) (.cst (.int 36))) (.cst (.int 13))) .nil)))) (.bin .mod (.bin .fdiv (.var 5) (.cst (.int 468))) (.cst (.int 3))))) (.cons (.app true 2 (.tup (.cons (.var 3) (.cons (.bin .mod (.bin .fdiv (.var 4) (.cst (.int 3))) (.cst (.int 2))) (.cons (.var 6) (.cons (.var 7) .nil)))))) .nil)))) .nil) .nil))
def b_t_law_stalls : Ss := (.cons (.own true 2 (.disp .nil)) (.cons (.for_ true (.nm 3) (.range (.cons (.bi .len (.cons (.var 1) .nil)) .nil)) L_t_law_stalls_0) (.cons (.ret (.bi .tuple (.cons (.var 2) .nil))) .nil)))
def g_t_law_stalls : List D → R D := runFn [(2, g_t_law_cell)] 8 [2] b_t_law_stalls
def b_t_law_floor : Ss := (.cons (.asg true (.nm 1) (.call 0 (.cons (.var 0) (.cons (.cst (.int 0)) .nil)))) (.cons (.asg true (.nm 2) (.ix (.lst (.cons (.cst (.int 2)) (.cons (.cst (.int 3)) (.cons (.cst (.int 1)) (.cons (.cst (.int 4)) (.cons (.cst (.int 3)) (.cons (.cst (.int 2)) (.cons (.cst (.int 4)) (.cons (.bin .add (.cst (.int 5)) (.bin .mod (.bin .fdiv (.var 1) (.cst (.int 8))) (.cst (.int 4)))) .nil))))))))) (.bin .mod (.var 1) (.cst (.int 8))))) (.cons (.asg true (.nm 3) (.call 1 (.cons (.var 0) (.cons (.var 2) .nil)))) (.cons (.asg true (.nm 4) (.call 2 (.cons (.var 0) (.cons (.var 2) .nil)))) (.cons (.asg true (.nm 5) (.call 3 (.cons (.var 0) (.cons (.var 2) .nil)))) (.cons (.asg true (.nm 6) (.call 4 (.cons (.var 0) (.cons (.var 3) .nil)))) (.cons (.ite (.and (.cons (.cmp .eq (.var 4) (.tup (.cons (.cst (.int 12)) (.cons (.cst (.int 12)) .nil)))) (.cons (.or (.cons (.cmp .gt (.bi .len (.cons (.var 5) .nil)) (.cst (.int 6))) (.cons (.cmp .gt (.bi .len (.cons (.var 6) .nil)) (.cst (.int 0))) .nil))) .nil))) (.cons (.asg true (.nm 4) (.tup (.cons (.cst (.int 12)) (.cons (.cst (.int 3)) .nil)))) .nil) .nil) (.cons (.ret (.tup (.cons (.var 4) (.cons (.var 3) (.cons (.var 5) (.cons (.var 6) .nil)))))) .nil))))))))
def g_t_law_floor : List D → R D := runFn [(2, g_t_law_cell), (2, g_t_law_owners), (2, g_t_law_brims), (2, g_t_law_ways), (2, g_t_law_stalls)] 7 [] b_t_law_floor
def lc_t_law_pairs_0 : E := .lc (.nm 3) (.range (.cons (.bin .add (.ix (.ix (.var 0) (.cst (.int 0))) (.cst (.int 1))) (.cst (.int 1))) .nil)) .nil (.tup (.cons (.var 2) (.cons (.var 3) .nil)))
def L_t_law_pairs_0 : Ss := (.cons (.ext true 1 lc_t_law_pairs_0) .nil)
def b_t_law_pairs : Ss := (.cons (.own true 1 (.disp .nil)) (.cons (.for_ true (.nm 2) (.range (.cons (.bin .add (.ix (.ix (.var 0) (.cst (.int 0))) (.cst (.int 0))) (.cst (.int 1))) .nil)) L_t_law_pairs_0) (.cons (.ret (.var 1)) .nil)))
def g_t_law_pairs : List D → R D := runFn [] 4 [1] b_t_law_pairs
def L_t_law_held_0 : Ss := (.cons (.ite (.and (.cons (.cmp .ge (.ix (.var 1) (.cst (.int 0))) (.var 2)) (.cons (.cmp .ge (.ix (.var 1) (.cst (.int 1))) (.var 3)) .nil))) (.cons (.ret (.cst (.bl true))) .nil) .nil) .nil)
def b_t_law_held : Ss := (.cons (.for_ true (.tp [2, 3]) (.val (.var 0)) L_t_law_held_0) (.cons (.ret (.cst (.bl false))) .nil))
def g_t_law_held : List D → R D := runFn [] 4 [] b_t_law_held
def L_t_law_changes_0 : Ss := (.cons (.own false 8 (.listOf (.ix (.var 3) (.neg (.cst (.int 1)))))) (.cons (.put false 8 (.var 5) (.bin .sub (.ix (.var 8) (.var 5)) (.var 6))) (.cons (.put false 8 (.bin .sub (.cst (.int 1)) (.var 5)) (.bi .min2 (.cons (.bin .add (.ix (.var 8) (.bin .sub (.cst (.int 1)) (.var 5))) (.var 7)) (.cons (.ix (.ix (.var 0) (.cst (.int 0))) (.bin .sub (.cst (.int 1)) (.var 5))) .nil)))) (.cons (.app false 3 (.bi .tuple (.cons (.var 8) .nil))) .nil))))
def L_t_law_changes_1 : Ss := (.cons (.whl 100000 (.and (.cons (.cmp .eq (.var 4) (.var 1)) (.cons (.cmp .ge (.ix (.ix (.var 3) (.neg (.cst (.int 1)))) (.var 5)) (.var 6)) .nil))) L_t_law_changes_0) .nil)
def b_t_law_changes : Ss := (.cons (.own true 3 (.disp (.cons (.var 2) .nil))) (.cons (.for_ true (.tp [4, 5, 6, 7]) (.val (.ix (.var 0) (.cst (.int 3)))) L_t_law_changes_1) (.cons (.ret (.var 3)) .nil)))
def g_t_law_changes : List D → R D := runFn [] 9 [8, 3] b_t_law_changes
def b_d_law_cell_at : Ss := (.cons (.ite (.cmp .lt (.var 1) (.bi .len (.cons (.var 0) .nil))) (.cons (.ret (.ix (.var 0) (.var 1))) .nil) .nil) (.cons (.ret (.cst (.int 0))) .nil))
def g_d_law_cell_at : List D → R D := runFn [] 2 [] b_d_law_cell_at
def b_d_law_sized : Ss := (.cons (.ret (.ix (.lst (.cons (.tup (.cons (.cst (.int 4)) (.cons (.cst (.int 5)) .nil))) (.cons (.tup (.cons (.cst (.int 3)) (.cons (.cst (.int 5)) .nil))) (.cons (.tup (.cons (.cst (.int 4)) (.cons (.cst (.int 4)) .nil))) (.cons (.tup (.cons (.cst (.int 2)) (.cons (.cst (.int 6)) .nil))) (.cons (.tup (.cons (.cst (.int 5)) (.cons (.cst (.int 3)) .nil))) (.cons (.tup (.cons (.cst (.int 3)) (.cons (.cst (.int 4)) .nil))) (.cons (.tup (.cons (.cst (.int 1)) (.cons (.cst (.int 8)) .nil))) (.cons (.tup (.cons (.cst (.int 4)) (.cons (.cst (.int 3)) .nil))) (.cons (.tup (.cons (.cst (.int 8)) (.cons (.cst (.int 2)) .nil))) (.cons (.tup (.cons (.cst (.int 2)) (.cons (.cst (.int 5)) .nil))) .nil))))))))))) (.bin .mod (.var 0) (.cst (.int 10))))) .nil)
def g_d_law_sized : List D → R D := runFn [] 1 [] b_d_law_sized
def L_d_law_stirred_0 : Ss := (.cons (.app true 2 (.bin .mod (.var 3) (.bin .pow (.cst (.int 10)) (.cst (.int 6))))) (.cons (.asg true (.nm 3) (.bin .fdiv (.var 3) (.bin .pow (.cst (.int 10)) (.cst (.int 6))))) .nil))
def L_d_law_stirred_1 : Ss := (.cons (.asg true (.nm 3) (.bin .mod (.bin .add (.bin .add (.bin .mul (.var 3) (.cst (.int 52027))) (.bin .fdiv (.var 3) (.bin .pow (.cst (.int 10)) (.cst (.int 22))))) (.bin .mul (.cst (.int 13)) (.var 4))) (.bin .add (.bin .pow (.cst (.int 10)) (.cst (.int 45))) (.cst (.int 9))))) (.cons (.app true 2 (.bin .fdiv (.bin .mul (.var 3) (.bin .add (.bin .fdiv (.var 3) (.bin .pow (.cst (.int 10)) (.cst (.int 23)))) (.cst (.int 7)))) (.bin .pow (.cst (.int 10)) (.cst (.int 9))))) .nil))
def b_d_law_stirred : Ss := (.cons (.own true 2 (.disp .nil)) (.cons (.asg true (.nm 3) (.bi .abs (.cons (.bin .fdiv (.var 0) (.cst (.int 2))) .nil))) (.cons (.ite (.cmp .eq (.bin .mod (.var 0) (.cst (.int 2))) (.cst (.int 1))) (.cons (.for_ true (.nm 4) (.range (.cons (.var 1) .nil)) L_d_law_stirred_0) (.cons (.ret (.var 2)) .nil)) .nil) (.cons (.asg true (.nm 3) (.bin .add (.bin .mod (.var 3) (.bin .add (.bin .pow (.cst (.int 10)) (.cst (.int 45))) (.cst (.int 9)))) (.cst (.int 77003)))) (.cons (.for_ true (.nm 4) (.range (.cons (.var 1) .nil)) L_d_law_stirred_1) (.cons (.ret (.var 2)) .nil))))))
def g_d_law_stirred : List D → R D := runFn [] 5 [2] b_d_law_stirred
def b_d_law_amount : Ss := (.cons (.ret (.bi .min2 (.cons (.cst (.int 12)) (.cons (.bin .add (.bin .sub (.bin .mod (.bin .mod (.var 0) (.cst (.int 25))) (.bin .add (.bin .mul (.cst (.int 2)) (.var 1)) (.cst (.int 1)))) (.var 1)) (.bin .mod (.bin .fdiv (.var 0) (.cst (.int 25))) (.cst (.int 2)))) .nil)))) .nil)
def g_d_law_amount : List D → R D := runFn [] 2 [] b_d_law_amount
def b_d_law_way : Ss := (.cons (.ret (.tup (.cons (.var 0) (.cons (.bin .mod (.bin .mod (.var 2) (.cst (.int 8))) (.var 1)) (.cons (.call 0 (.cons (.bin .mod (.bin .fdiv (.var 2) (.cst (.int 8))) (.cst (.int 50))) (.cons (.var 3) .nil))) (.cons (.call 0 (.cons (.bin .mod (.bin .fdiv (.var 2) (.cst (.int 400))) (.cst (.int 50))) (.cons (.var 3) .nil))) .nil)))))) .nil)
def g_d_law_way : List D → R D := runFn [(2, g_d_law_amount)] 4 [] b_d_law_way
def L_d_law_floor_0 : Ss := (.cons (.app true 6 (.call 1 (.cons (.var 8) (.cons (.var 4) (.cons (.ix (.var 3) (.bin .add (.bin .add (.cst (.int 3)) (.bin .mul (.cst (.int 4)) (.var 8))) (.var 12))) (.cons (.var 11) .nil)))))) .nil)
def L_d_law_floor_1 : Ss := (.cons (.asg true (.nm 10) (.ix (.var 3) (.bin .add (.cst (.int 2)) (.bin .mul (.cst (.int 4)) (.var 8))))) (.cons (.app true 5 (.ix (.lst (.cons (.cst (.str ("keeper" : Str))) (.cons (.cst (.str ("taker" : Str))) .nil))) (.bin .mod (.var 10) (.cst (.int 2))))) (.cons (.asg true (.nm 11) (.ix (.lst (.cons (.cst (.int 2)) (.cons (.cst (.int 3)) (.cons (.cst (.int 3)) (.cons (.cst (.int 12)) .nil))))) (.bin .mod (.bin .fdiv (.var 10) (.cst (.int 2))) (.cst (.int 4))))) (.cons (.for_ true (.nm 12) (.range (.cons (.bin .add (.cst (.int 1)) (.bin .mod (.bin .fdiv (.var 10) (.cst (.int 8))) (.cst (.int 3)))) .nil)) L_d_law_floor_0) (.cons (.ite (.and (.cons (.cmp .eq (.ix (.var 5) (.var 8)) (.cst (.str ("keeper" : Str)))) (.cons (.cmp .eq (.bin .mod (.bin .fdiv (.var 10) (.cst (.int 24))) (.cst (.int 3))) (.cst (.int 0))) .nil))) (.cons (.app true 7 (.tup (.cons (.var 8) (.cons (.bin .mod (.bin .fdiv (.var 10) (.cst (.int 72))) (.cst (.int 2))) (.cons (.bin .add (.cst (.int 1)) (.bin .mod (.bin .fdiv (.var 10) (.cst (.int 144))) (.cst (.int 4)))) (.cons (.bin .mod (.bin .fdiv (.var 10) (.cst (.int 576))) (.cst (.int 5))) .nil)))))) .nil) .nil) .nil)))))
def L_d_law_floor_2 : Ss := (.cons (.app true 6 (.call 1 (.cons (.bin .mod (.bin .mod (.bin .fdiv (.ix (.var 3) (.cst (.int 0))) (.cst (.int 64))) (.cst (.int 8))) (.var 4)) (.cons (.var 4) (.cons (.ix (.var 3) (.bin .add (.cst (.int 34)) (.var 12))) (.cons (.cst (.int 3)) .nil)))))) .nil)
def b_d_law_floor : Ss := (.cons (.asg true (.nm 3) (.call 0 (.cons (.var 0) (.cons (.cst (.int 43)) .nil)))) (.cons (.asg true (.nm 4) (.bin .add (.cst (.int 1)) (.bin .mod (.ix (.var 3) (.cst (.int 0))) (.var 1)))) (.cons (.own true 5 (.disp .nil)) (.cons (.own true 6 (.disp .nil)) (.cons (.own true 7 (.disp .nil)) (.cons (.for_ true (.nm 8) (.range (.cons (.var 4) .nil)) L_d_law_floor_1) (.cons (.ite (.cmp .eq (.bin .mod (.bin .fdiv (.ix (.var 3) (.cst (.int 0))) (.cst (.int 8))) (.cst (.int 8))) (.cst (.int 1))) (.cons (.for_ false (.nm 12) (.range (.cons (.bi .min2 (.cons (.cst (.int 9)) (.cons (.bin .sub (.cst (.int 24)) (.bi .len (.cons (.var 6) .nil))) .nil))) .nil)) L_d_law_floor_2) .nil) .nil) (.cons (.asg true (.nm 9) (.tup (.cons (.bin .mod (.ix (.var 3) (.cst (.int 1))) (.bin .add (.var 2) (.cst (.int 1)))) (.cons (.bin .mod (.bin .fdiv (.ix (.var 3) (.cst (.int 1))) (.cst (.int 13))) (.bin .add (.var 2) (.cst (.int 1)))) .nil)))) (.cons (.ret (.tup (.cons (.var 9) (.cons (.bi .tuple (.cons (.var 5) .nil)) (.cons (.bi .tuple (.cons (.sset (.var 6)) .nil)) (.cons (.bi .tuple (.cons (.var 7) .nil)) .nil)))))) .nil)))))))))
def g_d_law_floor : List D → R D := runFn [(2, g_d_law_stirred), (4, g_d_law_way)] 13 [5, 6, 7] b_d_law_floor
def L_t_law_due_0 : Ss := (.cons (.ite (.not (.call 0 (.cons (.ix (.ix (.var 0) (.var 3)) (.var 1)) (.cons (.var 2) .nil)))) (.cons (.ret (.var 3)) .nil) .nil) .nil)
def b_t_law_due : Ss := (.cons (.for_ true (.nm 3) (.range (.cons (.bi .len (.cons (.var 0) .nil)) .nil)) L_t_law_due_0) (.cons (.ret (.cst .non)) .nil))
def g_t_law_due : List D → R D := runFn [(2, g_t_law_held)] 4 [] b_t_law_due
end Py

namespace Py
open PySem PySem.Spec PyProof.Rows L2
/-! ## the program: floors, lasting -/
theorem whole_ok (i : Int) : g_is_whole [.int i] = .ok (.bl true) := by
  simp [g_is_whole, b_is_whole, runFn, env0, outD, Py.execs, Py.exec, exec_for, ev, evs, evAnd, evOr, evPart, evTests, evIt, lift, view, mask, tst, bindT, Tgt.bind, setAll, O.f, appD, extD, putD, haveL, Cop.f, Bop.f, Bi.f, divOk, powOk, mulOk, log2_small, Cst.d, D.isTy, D.lf, D.lfs, D.lfItems, R.bind_assoc, List.foldl, truth_non, truth_bl, truth_int, truth_lst, truth_tup, ix_t0, ix_t1, ix_t2, ix_t3, ix_t4, ix_l0, ix_l1, ix_l2, ix_l3, pd2_ix0, pd2_ix1, len_lst, len_tup, len_scr, ltD_int, eqD_int, eqD_bl, ne_int, ne_bl, cmpI_int, add_int, sub_int, mul_int, fdiv_int, mod_int, pow_int, shr_int, negI_int, asB_bl, asI_int, items_lst, items_tup, listOf_lst, listOf_tup, tupOf_lst, tupOf_tup, rangeOf_1, rangeOf_2, f1_1, f2_2, isNon_non, isNon_bl, isNon_int, isNon_tup, isNon_lst]
theorem within_ok (i a b : Int) (h1 : a ≤ i) (h2 : i ≤ b) : g_is_within [.int i, .int a, .int b] = .ok (.bl true) := by
  simp [g_is_within, b_is_within, runFn, env0, outD, Py.execs, Py.exec, exec_for, ev, evs, evAnd, evOr, evPart, evTests, evIt, lift, view, mask, tst, bindT, Tgt.bind, setAll, O.f, appD, extD, putD, haveL, Cop.f, Bop.f, Bi.f, divOk, powOk, mulOk, log2_small, Cst.d, D.isTy, D.lf, D.lfs, D.lfItems, R.bind_assoc, List.foldl, truth_non, truth_bl, truth_int, truth_lst, truth_tup, ix_t0, ix_t1, ix_t2, ix_t3, ix_t4, ix_l0, ix_l1, ix_l2, ix_l3, pd2_ix0, pd2_ix1, len_lst, len_tup, len_scr, ltD_int, eqD_int, eqD_bl, ne_int, ne_bl, cmpI_int, add_int, sub_int, mul_int, fdiv_int, mod_int, pow_int, shr_int, negI_int, asB_bl, asI_int, items_lst, items_tup, listOf_lst, listOf_tup, tupOf_lst, tupOf_tup, rangeOf_1, rangeOf_2, f1_1, f2_2, isNon_non, isNon_bl, isNon_int, isNon_tup, isNon_lst, whole_ok, h1, h2]
theorem place_ev (FD OD : D) (p m : Int) (h1 : D.ix FD (.int 1) = .ok OD) (hm : D.len OD = .ok (.int m)) (hp : 0 ≤ p) (hp2 : p ≤ m - 1) : g_check_place [FD, .int p] = .ok .non := by
  have e := within_ok p 0 (m - 1) hp hp2
  simp [g_check_place, b_check_place, runFn, env0, outD, Py.execs, Py.exec, exec_for, ev, evs, evAnd, evOr, evPart, evTests, evIt, lift, view, mask, tst, bindT, Tgt.bind, setAll, O.f, appD, extD, putD, haveL, Cop.f, Bop.f, Bi.f, divOk, powOk, mulOk, log2_small, Cst.d, D.isTy, D.lf, D.lfs, D.lfItems, R.bind_assoc, List.foldl, truth_non, truth_bl, truth_int, truth_lst, truth_tup, ix_t0, ix_t1, ix_t2, ix_t3, ix_t4, ix_l0, ix_l1, ix_l2, ix_l3, pd2_ix0, pd2_ix1, len_lst, len_tup, len_scr, ltD_int, eqD_int, eqD_bl, ne_int, ne_bl, cmpI_int, add_int, sub_int, mul_int, fdiv_int, mod_int, pow_int, shr_int, negI_int, asB_bl, asI_int, items_lst, items_tup, listOf_lst, listOf_tup, tupOf_lst, tupOf_tup, rangeOf_1, rangeOf_2, f1_1, f2_2, isNon_non, isNon_bl, isNon_int, isNon_tup, isNon_lst, h1, hm, e]
theorem place_ok (F : Flr) (p : Nat) (hp : p < F.own.length) : g_check_place [flrD F, .int p] = .ok .non :=
  place_ev _ _ p F.own.length (flr_1 F) (len_map_tup _ _) (by omega) (by omega)
def optS : Option St → D
  | none => .non
  | some s => stD s
theorem stall_ev (FD PD : D) (ss : List D) (o : Option D) (hc : g_check_place [FD, PD] = .ok .non) (h3 : D.ix FD (.int 3) = .ok (.tup ss))
    (hg : (∀ d, o = some d → forGo (.nm 2) (Py.execs [(2, g_check_place)] [] L_stall_at_0) ss [some FD, some PD, none] = .ok (.rt d)) ∧ (o = none → ∃ x, forGo (.nm 2) (Py.execs [(2, g_check_place)] [] L_stall_at_0) ss [some FD, some PD, none] = .ok (.nx [some FD, some PD, x]))) :
    g_stall_at [FD, PD] = .ok (o.getD .non) := by
  cases o with
  | none =>
    obtain ⟨x, e⟩ := hg.2 rfl
    simp [g_stall_at, b_stall_at, runFn, env0, outD, Py.execs, Py.exec, exec_for, ev, evs, evAnd, evOr, evPart, evTests, evIt, lift, view, mask, tst, bindT, Tgt.bind, setAll, O.f, appD, extD, putD, haveL, Cop.f, Bop.f, Bi.f, divOk, powOk, mulOk, log2_small, Cst.d, D.isTy, D.lf, D.lfs, D.lfItems, R.bind_assoc, List.foldl, truth_non, truth_bl, truth_int, truth_lst, truth_tup, ix_t0, ix_t1, ix_t2, ix_t3, ix_t4, ix_l0, ix_l1, ix_l2, ix_l3, pd2_ix0, pd2_ix1, len_lst, len_tup, len_scr, ltD_int, eqD_int, eqD_bl, ne_int, ne_bl, cmpI_int, add_int, sub_int, mul_int, fdiv_int, mod_int, pow_int, shr_int, negI_int, asB_bl, asI_int, items_lst, items_tup, listOf_lst, listOf_tup, tupOf_lst, tupOf_tup, rangeOf_1, rangeOf_2, f1_1, f2_2, isNon_non, isNon_bl, isNon_int, isNon_tup, isNon_lst, hc, h3, e]
  | some d =>
    have e := hg.1 d rfl
    simp [g_stall_at, b_stall_at, runFn, env0, outD, Py.execs, Py.exec, exec_for, ev, evs, evAnd, evOr, evPart, evTests, evIt, lift, view, mask, tst, bindT, Tgt.bind, setAll, O.f, appD, extD, putD, haveL, Cop.f, Bop.f, Bi.f, divOk, powOk, mulOk, log2_small, Cst.d, D.isTy, D.lf, D.lfs, D.lfItems, R.bind_assoc, List.foldl, truth_non, truth_bl, truth_int, truth_lst, truth_tup, ix_t0, ix_t1, ix_t2, ix_t3, ix_t4, ix_l0, ix_l1, ix_l2, ix_l3, pd2_ix0, pd2_ix1, len_lst, len_tup, len_scr, ltD_int, eqD_int, eqD_bl, ne_int, ne_bl, cmpI_int, add_int, sub_int, mul_int, fdiv_int, mod_int, pow_int, shr_int, negI_int, asB_bl, asI_int, items_lst, items_tup, listOf_lst, listOf_tup, tupOf_lst, tupOf_tup, rangeOf_1, rangeOf_2, f1_1, f2_2, isNon_non, isNon_bl, isNon_int, isNon_tup, isNon_lst, hc, h3, e]
theorem stall_ok (F : Flr) (p : Nat) (hp : p < F.own.length) : g_stall_at [flrD F, .int p] = .ok (optS (F.stall p)) := by
  have e : optS (F.stall p) = (F.sts.findSome? fun s => if s.p = p then some (stD s) else none).getD .non := by
    unfold Flr.stall
    induction F.sts with
    | nil => rfl
    | cons s ss ih =>
      rw [List.find?_cons, List.findSome?_cons]
      by_cases h : s.p = p
      · rw [decide_eq_true h, if_pos h]; rfl
      · rw [decide_eq_false h, if_neg h]; exact ih
  rw [e]
  refine stall_ev _ _ _ _ (place_ok F p hp) (flr_3 F) ?_
  have := forGo_first (t := .nm 2) (body := Py.execs [(2, g_check_place)] [] L_stall_at_0) (enc := stD) (fun ρ => ∃ x, ρ = [some (flrD F), some (.int p), x]) (fun s => if s.p = p then some (stD s) else none) F.sts (fun s hs ρ hρ => by
    obtain ⟨x, rfl⟩ := hρ
    refine ⟨_, rfl, fun d hd => ?_, fun hn => ⟨[some (flrD F), some (.int p), some (stD s)], .inl ?_, _, rfl⟩⟩
    · have h0 := st_0 s
      generalize flrD F = FD
      by_cases h : s.p = p
      · rw [if_pos h] at hd
        cases hd
        generalize stD s = SD at h0
        simp [L_stall_at_0, runFn, env0, outD, Py.execs, Py.exec, exec_for, ev, evs, evAnd, evOr, evPart, evTests, evIt, lift, view, mask, tst, bindT, Tgt.bind, setAll, O.f, appD, extD, putD, haveL, Cop.f, Bop.f, Bi.f, divOk, powOk, mulOk, log2_small, Cst.d, D.isTy, D.lf, D.lfs, D.lfItems, R.bind_assoc, List.foldl, truth_non, truth_bl, truth_int, truth_lst, truth_tup, ix_t0, ix_t1, ix_t2, ix_t3, ix_t4, ix_l0, ix_l1, ix_l2, ix_l3, pd2_ix0, pd2_ix1, len_lst, len_tup, len_scr, ltD_int, eqD_int, eqD_bl, ne_int, ne_bl, cmpI_int, add_int, sub_int, mul_int, fdiv_int, mod_int, pow_int, shr_int, negI_int, asB_bl, asI_int, items_lst, items_tup, listOf_lst, listOf_tup, tupOf_lst, tupOf_tup, rangeOf_1, rangeOf_2, f1_1, f2_2, isNon_non, isNon_bl, isNon_int, isNon_tup, isNon_lst, h0, h]
      · rw [if_neg h] at hd; cases hd
    · have h0 := st_0 s
      generalize flrD F = FD
      generalize stD s = SD at h0
      by_cases h : s.p = p
      · rw [if_pos h] at hn; cases hn
      · have h' : ¬ ((s.p : Int) = p) := by omega
        simp [L_stall_at_0, runFn, env0, outD, Py.execs, Py.exec, exec_for, ev, evs, evAnd, evOr, evPart, evTests, evIt, lift, view, mask, tst, bindT, Tgt.bind, setAll, O.f, appD, extD, putD, haveL, Cop.f, Bop.f, Bi.f, divOk, powOk, mulOk, log2_small, Cst.d, D.isTy, D.lf, D.lfs, D.lfItems, R.bind_assoc, List.foldl, truth_non, truth_bl, truth_int, truth_lst, truth_tup, ix_t0, ix_t1, ix_t2, ix_t3, ix_t4, ix_l0, ix_l1, ix_l2, ix_l3, pd2_ix0, pd2_ix1, len_lst, len_tup, len_scr, ltD_int, eqD_int, eqD_bl, ne_int, ne_bl, cmpI_int, add_int, sub_int, mul_int, fdiv_int, mod_int, pow_int, shr_int, negI_int, asB_bl, asI_int, items_lst, items_tup, listOf_lst, listOf_tup, tupOf_lst, tupOf_tup, rangeOf_1, rangeOf_2, f1_1, f2_2, isNon_non, isNon_bl, isNon_int, isNon_tup, isNon_lst, h0, h']) _ ⟨none, rfl⟩
  refine ⟨this.1, fun hn => ?_⟩
  obtain ⟨ρ', e1, x, rfl⟩ := this.2 hn
  exact ⟨x, e1⟩
/-- through -/
theorem through_body (F W L : D) (acc : List D) (c : Nat) (b0 : Nat) (b1 f s : Int) (low : List (Option Int)) (x : Option D) (hl : low.length = b0 + 1) (hL : L = lowD low) (hW2 : D.ix W (.int 2) = .ok (.int f)) (hW3 : D.ix W (.int 3) = .ok (.int s)) (ha : acc.length < 1000) :
    ∃ x', Py.execs [] [3] L_through_0 [some F, some W, some L, some (.lst acc), some (.int c), some (.int b0), some (.int b1), x] = .ok (.nx [some F, some W, some L, some (.lst (acc ++ [encO (thr1 b0 b1 f s low c)])), some (.int c), some (.int b0), some (.int b1), x']) := by
  have hz : acc.length < 16777216 := by omega
  unfold thr1
  by_cases h : 0 ≤ (c : Int) + f
  · have hi := low_ix (low := low) (i := min ((c : Int) + f) b0) (by omega) (by omega)
    rw [← hL] at hi
    cases hg : low.getD (min ((c : Int) + f) b0).toNat none with
    | none =>
      rw [hg] at hi
      refine ⟨some .non, ?_⟩
      simp [L_through_0, runFn, env0, outD, Py.execs, Py.exec, exec_for, ev, evs, evAnd, evOr, evPart, evTests, evIt, lift, view, mask, tst, bindT, Tgt.bind, setAll, O.f, appD, extD, putD, haveL, Cop.f, Bop.f, Bi.f, divOk, powOk, mulOk, log2_small, Cst.d, D.isTy, D.lf, D.lfs, D.lfItems, R.bind_assoc, List.foldl, truth_non, truth_bl, truth_int, truth_lst, truth_tup, ix_t0, ix_t1, ix_t2, ix_t3, ix_t4, ix_l0, ix_l1, ix_l2, ix_l3, pd2_ix0, pd2_ix1, len_lst, len_tup, len_scr, ltD_int, eqD_int, eqD_bl, ne_int, ne_bl, cmpI_int, add_int, sub_int, mul_int, fdiv_int, mod_int, pow_int, shr_int, negI_int, asB_bl, asI_int, items_lst, items_tup, listOf_lst, listOf_tup, tupOf_lst, tupOf_tup, rangeOf_1, rangeOf_2, f1_1, f2_2, isNon_non, isNon_bl, isNon_int, isNon_tup, isNon_lst, hW2, hW3, h, min2_ok, hi, hz, encO, cut]
    | some n =>
      rw [hg] at hi
      by_cases h2 : b1 < max 0 (n - s)
      · refine ⟨some .non, ?_⟩
        simp [L_through_0, runFn, env0, outD, Py.execs, Py.exec, exec_for, ev, evs, evAnd, evOr, evPart, evTests, evIt, lift, view, mask, tst, bindT, Tgt.bind, setAll, O.f, appD, extD, putD, haveL, Cop.f, Bop.f, Bi.f, divOk, powOk, mulOk, log2_small, Cst.d, D.isTy, D.lf, D.lfs, D.lfItems, R.bind_assoc, List.foldl, truth_non, truth_bl, truth_int, truth_lst, truth_tup, ix_t0, ix_t1, ix_t2, ix_t3, ix_t4, ix_l0, ix_l1, ix_l2, ix_l3, pd2_ix0, pd2_ix1, len_lst, len_tup, len_scr, ltD_int, eqD_int, eqD_bl, ne_int, ne_bl, cmpI_int, add_int, sub_int, mul_int, fdiv_int, mod_int, pow_int, shr_int, negI_int, asB_bl, asI_int, items_lst, items_tup, listOf_lst, listOf_tup, tupOf_lst, tupOf_tup, rangeOf_1, rangeOf_2, f1_1, f2_2, isNon_non, isNon_bl, isNon_int, isNon_tup, isNon_lst, hW2, hW3, h, min2_ok, max2_ok, hi, hz, encO, cut, h2]
      · refine ⟨some (.int (max 0 (n - s))), ?_⟩
        simp [L_through_0, runFn, env0, outD, Py.execs, Py.exec, exec_for, ev, evs, evAnd, evOr, evPart, evTests, evIt, lift, view, mask, tst, bindT, Tgt.bind, setAll, O.f, appD, extD, putD, haveL, Cop.f, Bop.f, Bi.f, divOk, powOk, mulOk, log2_small, Cst.d, D.isTy, D.lf, D.lfs, D.lfItems, R.bind_assoc, List.foldl, truth_non, truth_bl, truth_int, truth_lst, truth_tup, ix_t0, ix_t1, ix_t2, ix_t3, ix_t4, ix_l0, ix_l1, ix_l2, ix_l3, pd2_ix0, pd2_ix1, len_lst, len_tup, len_scr, ltD_int, eqD_int, eqD_bl, ne_int, ne_bl, cmpI_int, add_int, sub_int, mul_int, fdiv_int, mod_int, pow_int, shr_int, negI_int, asB_bl, asI_int, items_lst, items_tup, listOf_lst, listOf_tup, tupOf_lst, tupOf_tup, rangeOf_1, rangeOf_2, f1_1, f2_2, isNon_non, isNon_bl, isNon_int, isNon_tup, isNon_lst, hW2, hW3, h, min2_ok, max2_ok, hi, hz, encO, cut, h2]
  · refine ⟨some .non, ?_⟩
    simp [L_through_0, runFn, env0, outD, Py.execs, Py.exec, exec_for, ev, evs, evAnd, evOr, evPart, evTests, evIt, lift, view, mask, tst, bindT, Tgt.bind, setAll, O.f, appD, extD, putD, haveL, Cop.f, Bop.f, Bi.f, divOk, powOk, mulOk, log2_small, Cst.d, D.isTy, D.lf, D.lfs, D.lfItems, R.bind_assoc, List.foldl, truth_non, truth_bl, truth_int, truth_lst, truth_tup, ix_t0, ix_t1, ix_t2, ix_t3, ix_t4, ix_l0, ix_l1, ix_l2, ix_l3, pd2_ix0, pd2_ix1, len_lst, len_tup, len_scr, ltD_int, eqD_int, eqD_bl, ne_int, ne_bl, cmpI_int, add_int, sub_int, mul_int, fdiv_int, mod_int, pow_int, shr_int, negI_int, asB_bl, asI_int, items_lst, items_tup, listOf_lst, listOf_tup, tupOf_lst, tupOf_tup, rangeOf_1, rangeOf_2, f1_1, f2_2, isNon_non, isNon_bl, isNon_int, isNon_tup, isNon_lst, hW2, hW3, h, hz, encO]
theorem through_go (F W L : D) (b0 : Nat) (b1 f s : Int) (low : List (Option Int)) (hl : low.length = b0 + 1) (hL : L = lowD low) (hW2 : D.ix W (.int 2) = .ok (.int f)) (hW3 : D.ix W (.int 3) = .ok (.int s)) :
    ∀ (cs : List Nat) (acc : List D) (y x : Option D), acc.length + cs.length ≤ 1000 → ∃ y' x', forGo (.nm 4) (Py.execs [] [3] L_through_0) (cs.map fun c : Nat => D.int (c : Int)) [some F, some W, some L, some (.lst acc), y, some (.int b0), some (.int b1), x] =
      .ok (.nx [some F, some W, some L, some (.lst (acc ++ cs.map fun c => encO (thr1 b0 b1 f s low c))), y', some (.int b0), some (.int b1), x'])
  | [], acc, y, x, _ => ⟨y, x, by simp [forGo_nil]⟩
  | c :: cs, acc, y, x, h => by
    simp only [List.length_cons] at h
    obtain ⟨x1, e1⟩ := through_body F W L acc c b0 b1 f s low x hl hL hW2 hW3 (by omega)
    obtain ⟨y', x', e2⟩ := through_go F W L b0 b1 f s low hl hL hW2 hW3 cs (acc ++ [encO (thr1 b0 b1 f s low c)]) (some (.int c)) x1 (by simp; omega)
    refine ⟨y', x', ?_⟩
    rw [List.map_cons, forGo_nx rfl e1, e2]
    simp
theorem through_ev (F W L : D) (b0 b1 : Int) (cs l : List D) (y' x' : Option D) (hF : D.ix F (.int 0) = .ok (.tup [.int b0, .int b1])) (hr : rangeD 0 (b0 + 1) = .ok cs)
    (hg : forGo (.nm 4) (Py.execs [] [3] L_through_0) cs [some F, some W, some L, some (.lst []), none, some (.int b0), some (.int b1), none] = .ok (.nx [some F, some W, some L, some (.lst l), y', some (.int b0), some (.int b1), x'])) :
    g_through [F, W, L] = .ok (.lst l) := by
  simp [g_through, b_through, runFn, env0, outD, Py.execs, Py.exec, exec_for, ev, evs, evAnd, evOr, evPart, evTests, evIt, lift, view, mask, tst, bindT, Tgt.bind, setAll, O.f, appD, extD, putD, haveL, Cop.f, Bop.f, Bi.f, divOk, powOk, mulOk, log2_small, Cst.d, D.isTy, D.lf, D.lfs, D.lfItems, R.bind_assoc, List.foldl, truth_non, truth_bl, truth_int, truth_lst, truth_tup, ix_t0, ix_t1, ix_t2, ix_t3, ix_t4, ix_l0, ix_l1, ix_l2, ix_l3, pd2_ix0, pd2_ix1, len_lst, len_tup, len_scr, ltD_int, eqD_int, eqD_bl, ne_int, ne_bl, cmpI_int, add_int, sub_int, mul_int, fdiv_int, mod_int, pow_int, shr_int, negI_int, asB_bl, asI_int, items_lst, items_tup, listOf_lst, listOf_tup, tupOf_lst, tupOf_tup, rangeOf_1, rangeOf_2, f1_1, f2_2, isNon_non, isNon_bl, isNon_int, isNon_tup, isNon_lst, hF, hr, hg]
theorem through_ok (F W : D) (b0 : Nat) (b1 f s : Int) (low : List (Option Int)) (hb : b0 ≤ 100) (hF : D.ix F (.int 0) = .ok (.tup [.int b0, .int b1])) (hl : low.length = b0 + 1) (hW2 : D.ix W (.int 2) = .ok (.int f)) (hW3 : D.ix W (.int 3) = .ok (.int s)) :
    g_through [F, W, lowD low] = .ok (lowD (thru b0 b1 f s low)) := by
  obtain ⟨y', x', e⟩ := through_go F W (lowD low) b0 b1 f s low hl rfl hW2 hW3 (List.range (b0 + 1)) [] none none (by simp; omega)
  have hr := rangeD_nat (n := b0 + 1) (by omega)
  have := through_ev F W (lowD low) b0 b1 _ _ y' x' hF (by simpa using hr) e
  rw [this]
  simp [lowD, thru]
/-- least_of, greatest_of -/
theorem least_lc (l : List (Option Int)) (hl : l.length ≤ 1000) (x : Option D) : ev [] lc_least_of_0 [some (lowD l), x] = .ok (.lst ((somes l).map D.int)) := by
  have e : (somes l).map D.int = l.filterMap fun o => o.map D.int := by
    unfold somes
    rw [List.map_filterMap]
    rfl
  rw [e]
  refine ev_lc_fm encO _ l rfl (by omega) fun o _ => ?_
  cases o with
  | none => simp [lcF, runFn, env0, outD, Py.execs, Py.exec, exec_for, ev, evs, evAnd, evOr, evPart, evTests, evIt, lift, view, mask, tst, bindT, Tgt.bind, setAll, O.f, appD, extD, putD, haveL, Cop.f, Bop.f, Bi.f, divOk, powOk, mulOk, log2_small, Cst.d, D.isTy, D.lf, D.lfs, D.lfItems, R.bind_assoc, List.foldl, truth_non, truth_bl, truth_int, truth_lst, truth_tup, ix_t0, ix_t1, ix_t2, ix_t3, ix_t4, ix_l0, ix_l1, ix_l2, ix_l3, pd2_ix0, pd2_ix1, len_lst, len_tup, len_scr, ltD_int, eqD_int, eqD_bl, ne_int, ne_bl, cmpI_int, add_int, sub_int, mul_int, fdiv_int, mod_int, pow_int, shr_int, negI_int, asB_bl, asI_int, items_lst, items_tup, listOf_lst, listOf_tup, tupOf_lst, tupOf_tup, rangeOf_1, rangeOf_2, f1_1, f2_2, isNon_non, isNon_bl, isNon_int, isNon_tup, isNon_lst, encO]
  | some n => simp [lcF, runFn, env0, outD, Py.execs, Py.exec, exec_for, ev, evs, evAnd, evOr, evPart, evTests, evIt, lift, view, mask, tst, bindT, Tgt.bind, setAll, O.f, appD, extD, putD, haveL, Cop.f, Bop.f, Bi.f, divOk, powOk, mulOk, log2_small, Cst.d, D.isTy, D.lf, D.lfs, D.lfItems, R.bind_assoc, List.foldl, truth_non, truth_bl, truth_int, truth_lst, truth_tup, ix_t0, ix_t1, ix_t2, ix_t3, ix_t4, ix_l0, ix_l1, ix_l2, ix_l3, pd2_ix0, pd2_ix1, len_lst, len_tup, len_scr, ltD_int, eqD_int, eqD_bl, ne_int, ne_bl, cmpI_int, add_int, sub_int, mul_int, fdiv_int, mod_int, pow_int, shr_int, negI_int, asB_bl, asI_int, items_lst, items_tup, listOf_lst, listOf_tup, tupOf_lst, tupOf_tup, rangeOf_1, rangeOf_2, f1_1, f2_2, isNon_non, isNon_bl, isNon_int, isNon_tup, isNon_lst, encO]
theorem least_ok (l : List (Option Int)) (hl : l.length ≤ 1000) : g_least_of [lowD l] = .ok (encO (leastO l)) := by
  have e := least_lc l hl none
  cases hs : somes l with
  | nil =>
    rw [hs] at e
    have h2 : D.minD (.lst []) = .ok .non := rfl
    simp [g_least_of, b_least_of, runFn, env0, outD, Py.execs, Py.exec, exec_for, ev, evs, evAnd, evOr, evPart, evTests, evIt, lift, view, mask, tst, bindT, Tgt.bind, setAll, O.f, appD, extD, putD, haveL, Cop.f, Bop.f, Bi.f, divOk, powOk, mulOk, log2_small, Cst.d, D.isTy, D.lf, D.lfs, D.lfItems, R.bind_assoc, List.foldl, truth_non, truth_bl, truth_int, truth_lst, truth_tup, ix_t0, ix_t1, ix_t2, ix_t3, ix_t4, ix_l0, ix_l1, ix_l2, ix_l3, pd2_ix0, pd2_ix1, len_lst, len_tup, len_scr, ltD_int, eqD_int, eqD_bl, ne_int, ne_bl, cmpI_int, add_int, sub_int, mul_int, fdiv_int, mod_int, pow_int, shr_int, negI_int, asB_bl, asI_int, items_lst, items_tup, listOf_lst, listOf_tup, tupOf_lst, tupOf_tup, rangeOf_1, rangeOf_2, f1_1, f2_2, isNon_non, isNon_bl, isNon_int, isNon_tup, isNon_lst, e, h2, leastO, hs, encO]
  | cons n ns =>
    rw [hs] at e
    have h2 : D.minD (.lst ((n :: ns).map D.int)) = .ok (.int (ns.foldl min n)) := by
      unfold D.minD
      simp only [asInts_map]
    rw [List.map_cons] at e h2
    simp [g_least_of, b_least_of, runFn, env0, outD, Py.execs, Py.exec, exec_for, ev, evs, evAnd, evOr, evPart, evTests, evIt, lift, view, mask, tst, bindT, Tgt.bind, setAll, O.f, appD, extD, putD, haveL, Cop.f, Bop.f, Bi.f, divOk, powOk, mulOk, log2_small, Cst.d, D.isTy, D.lf, D.lfs, D.lfItems, R.bind_assoc, List.foldl, truth_non, truth_bl, truth_int, truth_lst, truth_tup, ix_t0, ix_t1, ix_t2, ix_t3, ix_t4, ix_l0, ix_l1, ix_l2, ix_l3, pd2_ix0, pd2_ix1, len_lst, len_tup, len_scr, ltD_int, eqD_int, eqD_bl, ne_int, ne_bl, cmpI_int, add_int, sub_int, mul_int, fdiv_int, mod_int, pow_int, shr_int, negI_int, asB_bl, asI_int, items_lst, items_tup, listOf_lst, listOf_tup, tupOf_lst, tupOf_tup, rangeOf_1, rangeOf_2, f1_1, f2_2, isNon_non, isNon_bl, isNon_int, isNon_tup, isNon_lst, e, h2, leastO, hs, encO]
theorem great_ok (l : List (Option Int)) (hne : l ≠ []) : g_greatest_of [lowD l] = .ok (encO (greatO l)) := by
  have e := low_isin l
  by_cases h : none ∈ l
  · rw [decide_eq_true h] at e
    simp [g_greatest_of, b_greatest_of, runFn, env0, outD, Py.execs, Py.exec, exec_for, ev, evs, evAnd, evOr, evPart, evTests, evIt, lift, view, mask, tst, bindT, Tgt.bind, setAll, O.f, appD, extD, putD, haveL, Cop.f, Bop.f, Bi.f, divOk, powOk, mulOk, log2_small, Cst.d, D.isTy, D.lf, D.lfs, D.lfItems, R.bind_assoc, List.foldl, truth_non, truth_bl, truth_int, truth_lst, truth_tup, ix_t0, ix_t1, ix_t2, ix_t3, ix_t4, ix_l0, ix_l1, ix_l2, ix_l3, pd2_ix0, pd2_ix1, len_lst, len_tup, len_scr, ltD_int, eqD_int, eqD_bl, ne_int, ne_bl, cmpI_int, add_int, sub_int, mul_int, fdiv_int, mod_int, pow_int, shr_int, negI_int, asB_bl, asI_int, items_lst, items_tup, listOf_lst, listOf_tup, tupOf_lst, tupOf_tup, rangeOf_1, rangeOf_2, f1_1, f2_2, isNon_non, isNon_bl, isNon_int, isNon_tup, isNon_lst, e, greatO, h, encO]
  · rw [decide_eq_false h] at e
    have hl := low_ints l h
    cases hs : somes l with
    | nil =>
      rw [hs] at hl
      exact absurd (by simpa using hl) hne
    | cons n ns =>
      rw [hs] at hl
      have h2 : D.maxL (lowD l) = .ok (.int (ns.foldl max n)) := by
        unfold lowD D.maxL
        rw [hl]
        show (match asInts ((n :: ns).map D.int) with | some (n :: ns) => R.ok (D.int (ns.foldl max n)) | _ => .stuck) = _
        rw [asInts_map]
      simp [g_greatest_of, b_greatest_of, runFn, env0, outD, Py.execs, Py.exec, exec_for, ev, evs, evAnd, evOr, evPart, evTests, evIt, lift, view, mask, tst, bindT, Tgt.bind, setAll, O.f, appD, extD, putD, haveL, Cop.f, Bop.f, Bi.f, divOk, powOk, mulOk, log2_small, Cst.d, D.isTy, D.lf, D.lfs, D.lfItems, R.bind_assoc, List.foldl, truth_non, truth_bl, truth_int, truth_lst, truth_tup, ix_t0, ix_t1, ix_t2, ix_t3, ix_t4, ix_l0, ix_l1, ix_l2, ix_l3, pd2_ix0, pd2_ix1, len_lst, len_tup, len_scr, ltD_int, eqD_int, eqD_bl, ne_int, ne_bl, cmpI_int, add_int, sub_int, mul_int, fdiv_int, mod_int, pow_int, shr_int, negI_int, asB_bl, asI_int, items_lst, items_tup, listOf_lst, listOf_tup, tupOf_lst, tupOf_tup, rangeOf_1, rangeOf_2, f1_1, f2_2, isNon_non, isNon_bl, isNon_int, isNon_tup, isNon_lst, e, h2, greatO, h, hs, encO]
/-- border_of -/
theorem border_body (L : D) (low : List (Option Int)) (acc : List (Int × Int)) (c : Nat) (hc : c < low.length) (hL : D.ix L (.int c) = .ok (encO (low.getD c none))) (ha : acc.length < 1000) :
    Py.execs [] [1] L_border_of_0 [some L, some (.lst (acc.map pd2)), some (.int c)] = .ok (.nx [some L, some (.lst ((bstep low acc c).map pd2)), some (.int c)]) := by
  have hz : acc.length < 16777216 := by omega
  unfold bstep
  cases hg : low.getD c none with
  | none =>
    rw [hg] at hL
    simp [L_border_of_0, runFn, env0, outD, Py.execs, Py.exec, exec_for, ev, evs, evAnd, evOr, evPart, evTests, evIt, lift, view, mask, tst, bindT, Tgt.bind, setAll, O.f, appD, extD, putD, haveL, Cop.f, Bop.f, Bi.f, divOk, powOk, mulOk, log2_small, Cst.d, D.isTy, D.lf, D.lfs, D.lfItems, R.bind_assoc, List.foldl, truth_non, truth_bl, truth_int, truth_lst, truth_tup, ix_t0, ix_t1, ix_t2, ix_t3, ix_t4, ix_l0, ix_l1, ix_l2, ix_l3, pd2_ix0, pd2_ix1, len_lst, len_tup, len_scr, ltD_int, eqD_int, eqD_bl, ne_int, ne_bl, cmpI_int, add_int, sub_int, mul_int, fdiv_int, mod_int, pow_int, shr_int, negI_int, asB_bl, asI_int, items_lst, items_tup, listOf_lst, listOf_tup, tupOf_lst, tupOf_tup, rangeOf_1, rangeOf_2, f1_1, f2_2, isNon_non, isNon_bl, isNon_int, isNon_tup, isNon_lst, hL, encO]
  | some n =>
    rw [hg] at hL
    have e0 := eq_nil acc
    rcases List.eq_nil_or_concat acc with rfl | ⟨as, p, rfl⟩
    · rw [decide_eq_true rfl] at e0
      rw [List.map_nil] at e0 ⊢
      simp [L_border_of_0, runFn, env0, outD, Py.execs, Py.exec, exec_for, ev, evs, evAnd, evOr, evPart, evTests, evIt, lift, view, mask, tst, bindT, Tgt.bind, setAll, O.f, appD, extD, putD, haveL, Cop.f, Bop.f, Bi.f, divOk, powOk, mulOk, log2_small, Cst.d, D.isTy, D.lf, D.lfs, D.lfItems, R.bind_assoc, List.foldl, truth_non, truth_bl, truth_int, truth_lst, truth_tup, ix_t0, ix_t1, ix_t2, ix_t3, ix_t4, ix_l0, ix_l1, ix_l2, ix_l3, pd2_ix0, pd2_ix1, len_lst, len_tup, len_scr, ltD_int, eqD_int, eqD_bl, ne_int, ne_bl, cmpI_int, add_int, sub_int, mul_int, fdiv_int, mod_int, pow_int, shr_int, negI_int, asB_bl, asI_int, items_lst, items_tup, listOf_lst, listOf_tup, tupOf_lst, tupOf_tup, rangeOf_1, rangeOf_2, f1_1, f2_2, isNon_non, isNon_bl, isNon_int, isNon_tup, isNon_lst, hL, encO, e0, pd2]
    · have e1 := last_ix pd2 as p
      rw [decide_eq_false (by simp)] at e0
      simp only [List.concat_eq_append] at e0 hz ⊢
      simp only [List.getLast?_append, List.getLast?_singleton, Option.some_or]
      generalize hq : (as ++ [p]).map pd2 = q at e0 e1
      have hql : q.length < 16777216 := by rw [← hq, List.length_map]; exact hz
      have hneg : D.negI (.int 1) = .ok (.int (-1)) := rfl
      by_cases h : n < p.2
      · rw [if_pos h, List.map_append (l₁ := as ++ [p]), hq]
        simp [L_border_of_0, runFn, env0, outD, Py.execs, Py.exec, exec_for, ev, evs, evAnd, evOr, evPart, evTests, evIt, lift, view, mask, tst, bindT, Tgt.bind, setAll, O.f, appD, extD, putD, haveL, Cop.f, Bop.f, Bi.f, divOk, powOk, mulOk, log2_small, Cst.d, D.isTy, D.lf, D.lfs, D.lfItems, R.bind_assoc, List.foldl, truth_non, truth_bl, truth_int, truth_lst, truth_tup, ix_t0, ix_t1, ix_t2, ix_t3, ix_t4, ix_l0, ix_l1, ix_l2, ix_l3, pd2_ix0, pd2_ix1, len_lst, len_tup, len_scr, ltD_int, eqD_int, eqD_bl, ne_int, ne_bl, cmpI_int, add_int, sub_int, mul_int, fdiv_int, mod_int, pow_int, shr_int, negI_int, asB_bl, asI_int, items_lst, items_tup, listOf_lst, listOf_tup, tupOf_lst, tupOf_tup, rangeOf_1, rangeOf_2, f1_1, f2_2, isNon_non, isNon_bl, isNon_int, isNon_tup, isNon_lst, hL, encO, e0, e1, hneg, h, hql, pd2]
      · rw [if_neg h, hq]
        simp [L_border_of_0, runFn, env0, outD, Py.execs, Py.exec, exec_for, ev, evs, evAnd, evOr, evPart, evTests, evIt, lift, view, mask, tst, bindT, Tgt.bind, setAll, O.f, appD, extD, putD, haveL, Cop.f, Bop.f, Bi.f, divOk, powOk, mulOk, log2_small, Cst.d, D.isTy, D.lf, D.lfs, D.lfItems, R.bind_assoc, List.foldl, truth_non, truth_bl, truth_int, truth_lst, truth_tup, ix_t0, ix_t1, ix_t2, ix_t3, ix_t4, ix_l0, ix_l1, ix_l2, ix_l3, pd2_ix0, pd2_ix1, len_lst, len_tup, len_scr, ltD_int, eqD_int, eqD_bl, ne_int, ne_bl, cmpI_int, add_int, sub_int, mul_int, fdiv_int, mod_int, pow_int, shr_int, negI_int, asB_bl, asI_int, items_lst, items_tup, listOf_lst, listOf_tup, tupOf_lst, tupOf_tup, rangeOf_1, rangeOf_2, f1_1, f2_2, isNon_non, isNon_bl, isNon_int, isNon_tup, isNon_lst, hL, encO, e0, e1, hneg, h, hql, pd2]
theorem bstep_len (low : List (Option Int)) (acc : List (Int × Int)) (c : Nat) : (bstep low acc c).length ≤ acc.length + 1 := by
  unfold bstep
  split
  · omega
  · split
    · simp
    · split
      · simp
      · omega
theorem border_go (low : List (Option Int)) : ∀ (cs : List Nat) (acc : List (Int × Int)) (y : Option D), (∀ c ∈ cs, c < low.length) → acc.length + cs.length ≤ 999 →
    ∃ y', forGo (.nm 2) (Py.execs [] [1] L_border_of_0) (cs.map fun c : Nat => D.int (c : Int)) [some (lowD low), some (.lst (acc.map pd2)), y] = .ok (.nx [some (lowD low), some (.lst ((cs.foldl (bstep low) acc).map pd2)), y'])
  | [], acc, y, _, _ => ⟨y, rfl⟩
  | c :: cs, acc, y, h, hl => by
    simp only [List.length_cons] at hl
    have h1 := h c (by simp)
    have h2 := bstep_len low acc c
    obtain ⟨y', e⟩ := border_go low cs (bstep low acc c) (some (.int c)) (fun d hd => h d (by simp [hd])) (by omega)
    refine ⟨y', ?_⟩
    rw [List.map_cons, forGo_nx rfl (border_body (lowD low) low acc c h1 (low_at h1) (by omega)), e]
    rfl
theorem border_ev (L : D) (n : Nat) (cs l : List D) (y' : Option D) (hn : D.len L = .ok (.int n)) (hr : rangeD 0 n = .ok cs) (hg : forGo (.nm 2) (Py.execs [] [1] L_border_of_0) cs [some L, some (.lst []), none] = .ok (.nx [some L, some (.lst l), y'])) :
    g_border_of [L] = .ok (.tup l) := by
  simp [g_border_of, b_border_of, runFn, env0, outD, Py.execs, Py.exec, exec_for, ev, evs, evAnd, evOr, evPart, evTests, evIt, lift, view, mask, tst, bindT, Tgt.bind, setAll, O.f, appD, extD, putD, haveL, Cop.f, Bop.f, Bi.f, divOk, powOk, mulOk, log2_small, Cst.d, D.isTy, D.lf, D.lfs, D.lfItems, R.bind_assoc, List.foldl, truth_non, truth_bl, truth_int, truth_lst, truth_tup, ix_t0, ix_t1, ix_t2, ix_t3, ix_t4, ix_l0, ix_l1, ix_l2, ix_l3, pd2_ix0, pd2_ix1, len_lst, len_tup, len_scr, ltD_int, eqD_int, eqD_bl, ne_int, ne_bl, cmpI_int, add_int, sub_int, mul_int, fdiv_int, mod_int, pow_int, shr_int, negI_int, asB_bl, asI_int, items_lst, items_tup, listOf_lst, listOf_tup, tupOf_lst, tupOf_tup, rangeOf_1, rangeOf_2, f1_1, f2_2, isNon_non, isNon_bl, isNon_int, isNon_tup, isNon_lst, hn, hr, hg]
theorem border_ok (low : List (Option Int)) (hl : low.length ≤ 900) : g_border_of [lowD low] = .ok (bordD (bord low)) := by
  obtain ⟨y', e⟩ := border_go low (List.range low.length) [] none (fun c hc => List.mem_range.mp hc) (by simp; omega)
  exact border_ev (lowD low) low.length _ _ y' (len_map_lst _ _) (rangeD_nat (by omega)) e
/-! ### stalls -/
theorem givFs_body (S L : D) (Fo : D) (s : St) (low : Low) (c t : Nat) (acc : List Int) (z : Option D) (ht : t * s.give ≤ c) (hc : c < low.length) (hc2 : c ≤ 1000) (h2 : D.ix S (.int 2) = .ok (.int s.give)) (h3 : D.ix S (.int 3) = .ok (.int s.get)) (hg : 1 ≤ s.give) (hs : s.give ≤ 1000 ∧ s.get ≤ 1000) (hL : L = lowD low) (ha : acc.length < 16777216) :
    ∃ z', Py.execs [(1, g_least_of)] [2, 4] L_given_first_0 [some S, some L, some Fo, some (.int c), some (.lst (acc.map D.int)), some (.int t), z] = .ok (.nx [some S, some L, some Fo, some (.int c), some (.lst ((acc ++ (gF s low c t).toList).map D.int)), some (.int t), z']) := by
  have htc : t ≤ c := Nat.le_trans (by simpa using Nat.mul_le_mul_left t hg) ht
  have m1 : D.mul (.int (t : Int)) (.int s.give) = .ok (.int ((t : Int) * s.give)) := mul_ok (by omega) (by omega)
  have m2 : D.mul (.int (t : Int)) (.int s.get) = .ok (.int ((t : Int) * s.get)) := mul_ok (by omega) (by omega)
  have cs := Int.natCast_mul t s.give
  have hi := low_ix (low := low) (i := (c : Int) - (t : Int) * s.give) (by omega) (by omega)
  rw [show ((c : Int) - (t : Int) * s.give).toNat = c - t * s.give by omega, ← hL] at hi
  have hal : (acc.map D.int).length < 16777216 := by rw [List.length_map]; exact ha
  unfold gF
  cases hn : low.getD (c - t * s.give) none with
  | none =>
    rw [hn] at hi
    refine ⟨some .non, ?_⟩
    simp [L_given_first_0, runFn, env0, outD, Py.execs, Py.exec, exec_for, ev, evs, evAnd, evOr, evPart, evTests, evIt, lift, view, mask, tst, bindT, Tgt.bind, setAll, O.f, appD, extD, putD, haveL, Cop.f, Bop.f, Bi.f, Cst.d, D.isTy, D.lf, D.lfs, D.lfItems, R.bind_assoc, List.foldl, truth_non, truth_bl, truth_int, truth_lst, truth_tup, ix_t0, ix_t1, ix_t2, ix_t3, ix_t4, ix_l0, ix_l1, ix_l2, ix_l3, pd2_ix0, pd2_ix1, len_lst, len_tup, len_scr, ltD_int, eqD_int, eqD_bl, ne_int, ne_bl, cmpI_int, add_int, sub_int, shr_int, negI_int, asB_bl, asI_int, items_lst, items_tup, listOf_lst, listOf_tup, tupOf_lst, tupOf_tup, rangeOf_1, rangeOf_2, f1_1, f2_2, isNon_non, isNon_bl, isNon_int, isNon_tup, isNon_lst, h2, m1, hi, encO]
  | some n =>
    rw [hn] at hi
    refine ⟨some (.int n), ?_⟩
    simp [L_given_first_0, runFn, env0, outD, Py.execs, Py.exec, exec_for, ev, evs, evAnd, evOr, evPart, evTests, evIt, lift, view, mask, tst, bindT, Tgt.bind, setAll, O.f, appD, extD, putD, haveL, Cop.f, Bop.f, Bi.f, Cst.d, D.isTy, D.lf, D.lfs, D.lfItems, R.bind_assoc, List.foldl, truth_non, truth_bl, truth_int, truth_lst, truth_tup, ix_t0, ix_t1, ix_t2, ix_t3, ix_t4, ix_l0, ix_l1, ix_l2, ix_l3, pd2_ix0, pd2_ix1, len_lst, len_tup, len_scr, ltD_int, eqD_int, eqD_bl, ne_int, ne_bl, cmpI_int, add_int, sub_int, shr_int, negI_int, asB_bl, asI_int, items_lst, items_tup, listOf_lst, listOf_tup, tupOf_lst, tupOf_tup, rangeOf_1, rangeOf_2, f1_1, f2_2, isNon_non, isNon_bl, isNon_int, isNon_tup, isNon_lst, h2, h3, m1, m2, hi, encO, max2_ok, ha]
theorem filterMap_append1 {α β : Type} (f : α → Option β) (l : List α) (x : α) : (l ++ [x]).filterMap f = l.filterMap f ++ (f x).toList := by
  rw [List.filterMap_append]
  cases h : f x <;> simp [h]
theorem givF_body (S L : D) (s : St) (low : Low) (c : Nat) (acc : List (Option Int)) (x4 x5 x6 : Option D) (hc : c < low.length) (hc9 : c ≤ 999) (h2 : D.ix S (.int 2) = .ok (.int s.give)) (h3 : D.ix S (.int 3) = .ok (.int s.get)) (hg : 1 ≤ s.give) (hs : s.give ≤ 1000 ∧ s.get ≤ 1000) (hL : L = lowD low) (ha : acc.length ≤ 900) :
    ∃ x4' x5' x6', Py.execs [(1, g_least_of)] [2, 4] L_given_first_1 [some S, some L, some (lowD acc), some (.int c), x4, x5, x6] = .ok (.nx [some S, some L, some (lowD (acc ++ [givF s low c])), some (.int c), x4', x5', x6']) := by
  have hc2 : c ≤ 1000 := by omega
  obtain ⟨ρ', e, y, z, rfl⟩ := forGo_inv (t := .nm 5) (body := Py.execs [(1, g_least_of)] [2, 4] L_given_first_0) (enc := fun t : Nat => D.int (t : Int)) (fun done ρ => ∃ y z, ρ = [some S, some L, some (lowD acc), some (.int c), some (.lst ((done.filterMap (gF s low c)).map D.int)), y, z]) (List.range (c / s.give + 1)) [] (fun d t r e ρ hρ => by
    obtain ⟨y, z, rfl⟩ := hρ
    have ht : t ∈ List.range (c / s.give + 1) := by
      rw [List.nil_append] at e
      rw [e]; simp
    have hdl : d.length ≤ c / s.give + 1 := by
      have := congrArg List.length e
      simp at this
      omega
    have hcd : c / s.give ≤ c := Nat.div_le_self _ _
    obtain ⟨z', e2⟩ := givFs_body S L (lowD acc) s low c t (d.filterMap (gF s low c)) z ((div_le_iff hg).mp (List.mem_range.mp ht)) hc hc2 h2 h3 hg hs hL (by have := List.length_filterMap_le (gF s low c) d; omega)
    exact ⟨_, _, rfl, .inl e2, _, z', by rw [filterMap_append1]⟩) [some S, some L, some (lowD acc), some (.int c), some (.lst []), x5, x6] ⟨x5, x6, rfl⟩
  rw [List.nil_append] at e
  have hl : (givFs s low c).length ≤ 1000 := by
    have := List.length_filterMap_le (gF s low c) (List.range (c / s.give + 1))
    rw [List.length_range] at this
    have hcd : c / s.give ≤ c := Nat.div_le_self _ _
    have hcl : c ≤ 999 := hc9
    unfold givFs
    omega
  have lo := least_ok ((givFs s low c).map some) (by rw [List.length_map]; exact hl)
  have e0 : lowD ((givFs s low c).map some) = .lst ((givFs s low c).map D.int) := by
    unfold lowD
    rw [List.map_map]
    rfl
  rw [e0] at lo
  have hr := rangeD_nat1 (n := c / s.give) (by have hcd : c / s.give ≤ c := Nat.div_le_self _ _; omega)
  have fd : D.fdiv (.int (c : Int)) (.int s.give) = .ok (.int ((c / s.give : Nat) : Int)) := by
    rw [fdiv_ok (by omega) (by omega)]
    simp
  have el : lowD (acc ++ [givF s low c]) = .lst (acc.map encO ++ [encO (givF s low c)]) := by simp [lowD]
  have hal : (acc.map encO).length < 16777216 := by rw [List.length_map]; omega
  refine ⟨some (.lst ((givFs s low c).map D.int)), y, z, ?_⟩
  rw [el]
  unfold givF
  unfold givFs at lo ⊢
  unfold lowD at e ⊢
  generalize (List.range (c / s.give + 1)).map (fun t : Nat => D.int (t : Int)) = rg at e hr
  generalize (List.filterMap (gF s low c) (List.range (c / s.give + 1))) = ws at e lo ⊢
  generalize acc.map encO = ac at e hal ⊢
  generalize ((c / s.give : Nat) : Int) = qq at fd hr
  have lf := encO_lf (leastO (ws.map some))
  generalize encO (leastO (ws.map some)) = res at lo lf ⊢
  simp [L_given_first_1, runFn, env0, outD, Py.execs, Py.exec, exec_for, ev, evs, evAnd, evOr, evPart, evTests, evIt, lift, view, mask, tst, bindT, Tgt.bind, setAll, O.f, appD, extD, putD, haveL, Cop.f, Bop.f, Bi.f, Cst.d, D.isTy, D.lf, D.lfs, D.lfItems, R.bind_assoc, List.foldl, truth_non, truth_bl, truth_int, truth_lst, truth_tup, ix_t0, ix_t1, ix_t2, ix_t3, ix_t4, ix_l0, ix_l1, ix_l2, ix_l3, pd2_ix0, pd2_ix1, len_lst, len_tup, len_scr, ltD_int, eqD_int, eqD_bl, ne_int, ne_bl, cmpI_int, add_int, sub_int, shr_int, negI_int, asB_bl, asI_int, items_lst, items_tup, listOf_lst, listOf_tup, tupOf_lst, tupOf_tup, rangeOf_1, rangeOf_2, f1_1, f2_2, isNon_non, isNon_bl, isNon_int, isNon_tup, isNon_lst, h2, fd, hr, e, lo, hal, lf]
theorem givF_ev (S L : D) (n : Nat) (cs : List D) (l : D) (x3 x4 x5 x6 : Option D) (hn : D.len L = .ok (.int n)) (hr : rangeD 0 n = .ok cs) (hg : forGo (.nm 3) (Py.execs [(1, g_least_of)] [2, 4] L_given_first_1) cs [some S, some L, some (.lst []), none, none, none, none] = .ok (.nx [some S, some L, some l, x3, x4, x5, x6])) :
    g_given_first [S, L] = .ok l := by
  simp [g_given_first, b_given_first, runFn, env0, outD, Py.execs, Py.exec, exec_for, ev, evs, evAnd, evOr, evPart, evTests, evIt, lift, view, mask, tst, bindT, Tgt.bind, setAll, O.f, appD, extD, putD, haveL, Cop.f, Bop.f, Bi.f, Cst.d, D.isTy, D.lf, D.lfs, D.lfItems, R.bind_assoc, List.foldl, truth_non, truth_bl, truth_int, truth_lst, truth_tup, ix_t0, ix_t1, ix_t2, ix_t3, ix_t4, ix_l0, ix_l1, ix_l2, ix_l3, pd2_ix0, pd2_ix1, len_lst, len_tup, len_scr, ltD_int, eqD_int, eqD_bl, ne_int, ne_bl, cmpI_int, add_int, sub_int, shr_int, negI_int, asB_bl, asI_int, items_lst, items_tup, listOf_lst, listOf_tup, tupOf_lst, tupOf_tup, rangeOf_1, rangeOf_2, f1_1, f2_2, isNon_non, isNon_bl, isNon_int, isNon_tup, isNon_lst, hn, hr, hg]
theorem givF_ok (s : St) (low : Low) (hl : low.length ≤ 500) (hg : 1 ≤ s.give) (hs : s.give ≤ 1000 ∧ s.get ≤ 1000) : g_given_first [stD s, lowD low] = .ok (lowD ((List.range low.length).map (givF s low))) := by
  obtain ⟨ρ', e, x3, x4, x5, x6, rfl⟩ := forGo_inv (t := .nm 3) (body := Py.execs [(1, g_least_of)] [2, 4] L_given_first_1) (enc := fun t : Nat => D.int (t : Int)) (fun done ρ => ∃ x3 x4 x5 x6, ρ = [some (stD s), some (lowD low), some (lowD (done.map (givF s low))), x3, x4, x5, x6]) (List.range low.length) [] (fun d c r e ρ hρ => by
    obtain ⟨x3, x4, x5, x6, rfl⟩ := hρ
    have hc : c ∈ List.range low.length := by
      rw [List.nil_append] at e
      rw [e]; simp
    have hdl : d.length ≤ low.length := by
      have := congrArg List.length e
      simp at this
      omega
    have hc := List.mem_range.mp hc
    obtain ⟨x4', x5', x6', e2⟩ := givF_body (stD s) (lowD low) s low c (d.map (givF s low)) x4 x5 x6 hc (by omega) (st_2 s) (st_3 s) hg hs rfl (by rw [List.length_map]; omega)
    exact ⟨_, _, rfl, .inl e2, _, x4', x5', x6', by rw [List.map_append]; rfl⟩) [some (stD s), some (lowD low), some (.lst []), none, none, none, none] ⟨none, none, none, none, rfl⟩
  exact givF_ev _ _ low.length _ _ x3 x4 x5 x6 (len_map_lst _ _) (rangeD_nat (by omega)) e
theorem givSs_body (S L Fo : D) (b1 : Nat) (s : St) (low : Low) (c t : Nat) (acc : List Int) (z : Option D) (ht : t ≤ 1000) (hc : c < low.length) (hc2 : low.length ≤ 1000) (h2 : D.ix S (.int 2) = .ok (.int s.give)) (h3 : D.ix S (.int 3) = .ok (.int s.get)) (hs : s.give ≤ 1000 ∧ s.get ≤ 1000) (hL : L = lowD low) (ha : acc.length < 16777216) :
    ∃ z', Py.execs [(1, g_least_of)] [3, 5] L_given_second_0 [some S, some L, some (.int b1), some Fo, some (.int c), some (.lst (acc.map D.int)), some (.int t), z] = .ok (.nx [some S, some L, some (.int b1), some Fo, some (.int c), some (.lst ((acc ++ (gS b1 s low c t).toList).map D.int)), some (.int t), z']) := by
  have m1 : D.mul (.int (t : Int)) (.int s.give) = .ok (.int ((t : Int) * s.give)) := mul_ok (by omega) (by omega)
  have m2 : D.mul (.int (t : Int)) (.int s.get) = .ok (.int ((t : Int) * s.get)) := mul_ok (by omega) (by omega)
  have cs := Int.natCast_mul t s.get
  have hi := low_ix (low := low) (i := min ((c : Int) + (t : Int) * s.get) ((low.length : Int) - 1)) (by omega) (by omega)
  rw [show (min ((c : Int) + (t : Int) * s.get) ((low.length : Int) - 1)).toNat = min (c + t * s.get) (low.length - 1) by omega, ← hL] at hi
  have hln : D.len L = .ok (.int low.length) := by rw [hL]; exact len_map_lst _ _
  unfold gS
  cases hn : low.getD (min (c + t * s.get) (low.length - 1)) none with
  | none =>
    rw [hn] at hi
    refine ⟨some .non, ?_⟩
    simp [L_given_second_0, runFn, env0, outD, Py.execs, Py.exec, exec_for, ev, evs, evAnd, evOr, evPart, evTests, evIt, lift, view, mask, tst, bindT, Tgt.bind, setAll, O.f, appD, extD, putD, haveL, Cop.f, Bop.f, Bi.f, Cst.d, D.isTy, D.lf, D.lfs, D.lfItems, R.bind_assoc, List.foldl, truth_non, truth_bl, truth_int, truth_lst, truth_tup, ix_t0, ix_t1, ix_t2, ix_t3, ix_t4, ix_l0, ix_l1, ix_l2, ix_l3, pd2_ix0, pd2_ix1, len_lst, len_tup, len_scr, ltD_int, eqD_int, eqD_bl, ne_int, ne_bl, cmpI_int, add_int, sub_int, shr_int, negI_int, asB_bl, asI_int, items_lst, items_tup, listOf_lst, listOf_tup, tupOf_lst, tupOf_tup, rangeOf_1, rangeOf_2, f1_1, f2_2, isNon_non, isNon_bl, isNon_int, isNon_tup, isNon_lst, h3, m2, hi, encO, min2_ok, hln]
  | some n =>
    rw [hn] at hi
    by_cases hb : n + (t : Int) * s.give ≤ b1
    · refine ⟨some (.int n), ?_⟩
      simp [L_given_second_0, runFn, env0, outD, Py.execs, Py.exec, exec_for, ev, evs, evAnd, evOr, evPart, evTests, evIt, lift, view, mask, tst, bindT, Tgt.bind, setAll, O.f, appD, extD, putD, haveL, Cop.f, Bop.f, Bi.f, Cst.d, D.isTy, D.lf, D.lfs, D.lfItems, R.bind_assoc, List.foldl, truth_non, truth_bl, truth_int, truth_lst, truth_tup, ix_t0, ix_t1, ix_t2, ix_t3, ix_t4, ix_l0, ix_l1, ix_l2, ix_l3, pd2_ix0, pd2_ix1, len_lst, len_tup, len_scr, ltD_int, eqD_int, eqD_bl, ne_int, ne_bl, cmpI_int, add_int, sub_int, shr_int, negI_int, asB_bl, asI_int, items_lst, items_tup, listOf_lst, listOf_tup, tupOf_lst, tupOf_tup, rangeOf_1, rangeOf_2, f1_1, f2_2, isNon_non, isNon_bl, isNon_int, isNon_tup, isNon_lst, h2, h3, m1, m2, hi, encO, min2_ok, hb, ha, hln]
    · refine ⟨some (.int n), ?_⟩
      simp [L_given_second_0, runFn, env0, outD, Py.execs, Py.exec, exec_for, ev, evs, evAnd, evOr, evPart, evTests, evIt, lift, view, mask, tst, bindT, Tgt.bind, setAll, O.f, appD, extD, putD, haveL, Cop.f, Bop.f, Bi.f, Cst.d, D.isTy, D.lf, D.lfs, D.lfItems, R.bind_assoc, List.foldl, truth_non, truth_bl, truth_int, truth_lst, truth_tup, ix_t0, ix_t1, ix_t2, ix_t3, ix_t4, ix_l0, ix_l1, ix_l2, ix_l3, pd2_ix0, pd2_ix1, len_lst, len_tup, len_scr, ltD_int, eqD_int, eqD_bl, ne_int, ne_bl, cmpI_int, add_int, sub_int, shr_int, negI_int, asB_bl, asI_int, items_lst, items_tup, listOf_lst, listOf_tup, tupOf_lst, tupOf_tup, rangeOf_1, rangeOf_2, f1_1, f2_2, isNon_non, isNon_bl, isNon_int, isNon_tup, isNon_lst, h2, h3, m1, m2, hi, encO, min2_ok, hb, ha, hln]
theorem givS_body (S L : D) (b1 : Nat) (s : St) (low : Low) (c : Nat) (acc : List (Option Int)) (x4 x5 x6 : Option D) (hb1 : b1 ≤ 900) (hc : c < low.length) (hc2 : low.length ≤ 1000) (h2 : D.ix S (.int 2) = .ok (.int s.give)) (h3 : D.ix S (.int 3) = .ok (.int s.get)) (hg : 1 ≤ s.give) (hs : s.give ≤ 1000 ∧ s.get ≤ 1000) (hL : L = lowD low) (ha : acc.length ≤ 1000) :
    ∃ x4' x5' x6', Py.execs [(1, g_least_of)] [3, 5] L_given_second_1 [some S, some L, some (.int b1), some (lowD acc), some (.int c), x4, x5, x6] = .ok (.nx [some S, some L, some (.int b1), some (lowD (acc ++ [givS b1 s low c])), some (.int c), x4', x5', x6']) := by
  have hcd : b1 / s.give ≤ b1 := Nat.div_le_self _ _
  obtain ⟨ρ', e, y, z, rfl⟩ := forGo_inv (t := .nm 6) (body := Py.execs [(1, g_least_of)] [3, 5] L_given_second_0) (enc := fun t : Nat => D.int (t : Int)) (fun done ρ => ∃ y z, ρ = [some S, some L, some (.int b1), some (lowD acc), some (.int c), some (.lst ((done.filterMap (gS b1 s low c)).map D.int)), y, z]) (List.range (b1 / s.give + 1)) [] (fun d t r e ρ hρ => by
    obtain ⟨y, z, rfl⟩ := hρ
    have ht : t ∈ List.range (b1 / s.give + 1) := by
      rw [List.nil_append] at e
      rw [e]; simp
    have ht := List.mem_range.mp ht
    have hdl : d.length ≤ b1 / s.give + 1 := by
      have := congrArg List.length e
      simp at this
      omega
    obtain ⟨z', e2⟩ := givSs_body S L (lowD acc) b1 s low c t (d.filterMap (gS b1 s low c)) z (by omega) hc hc2 h2 h3 hs hL (by have := List.length_filterMap_le (gS b1 s low c) d; omega)
    exact ⟨_, _, rfl, .inl e2, _, z', by rw [filterMap_append1]⟩) [some S, some L, some (.int b1), some (lowD acc), some (.int c), some (.lst []), x5, x6] ⟨x5, x6, rfl⟩
  rw [List.nil_append] at e
  have hl : (givSs b1 s low c).length ≤ 1000 := by
    have := List.length_filterMap_le (gS b1 s low c) (List.range (b1 / s.give + 1))
    rw [List.length_range] at this
    unfold givSs
    omega
  have lo := least_ok ((givSs b1 s low c).map some) (by rw [List.length_map]; exact hl)
  have e0 : lowD ((givSs b1 s low c).map some) = .lst ((givSs b1 s low c).map D.int) := by
    unfold lowD
    rw [List.map_map]
    rfl
  rw [e0] at lo
  have hr := rangeD_nat1 (n := b1 / s.give) (by omega)
  have fd : D.fdiv (.int (b1 : Int)) (.int s.give) = .ok (.int ((b1 / s.give : Nat) : Int)) := by
    rw [fdiv_ok (by omega) (by omega)]
    simp
  have el : lowD (acc ++ [givS b1 s low c]) = .lst (acc.map encO ++ [encO (givS b1 s low c)]) := by simp [lowD]
  have hal : (acc.map encO).length < 16777216 := by rw [List.length_map]; omega
  refine ⟨some (.lst ((givSs b1 s low c).map D.int)), y, z, ?_⟩
  rw [el]
  unfold givS
  unfold givSs at lo ⊢
  unfold lowD at e ⊢
  generalize (List.range (b1 / s.give + 1)).map (fun t : Nat => D.int (t : Int)) = rg at e hr
  generalize (List.filterMap (gS b1 s low c) (List.range (b1 / s.give + 1))) = ws at e lo ⊢
  generalize acc.map encO = ac at e hal ⊢
  generalize ((b1 / s.give : Nat) : Int) = qq at fd hr
  have lf := encO_lf (leastO (ws.map some))
  generalize encO (leastO (ws.map some)) = res at lo lf ⊢
  simp [L_given_second_1, runFn, env0, outD, Py.execs, Py.exec, exec_for, ev, evs, evAnd, evOr, evPart, evTests, evIt, lift, view, mask, tst, bindT, Tgt.bind, setAll, O.f, appD, extD, putD, haveL, Cop.f, Bop.f, Bi.f, Cst.d, D.isTy, D.lf, D.lfs, D.lfItems, R.bind_assoc, List.foldl, truth_non, truth_bl, truth_int, truth_lst, truth_tup, ix_t0, ix_t1, ix_t2, ix_t3, ix_t4, ix_l0, ix_l1, ix_l2, ix_l3, pd2_ix0, pd2_ix1, len_lst, len_tup, len_scr, ltD_int, eqD_int, eqD_bl, ne_int, ne_bl, cmpI_int, add_int, sub_int, shr_int, negI_int, asB_bl, asI_int, items_lst, items_tup, listOf_lst, listOf_tup, tupOf_lst, tupOf_tup, rangeOf_1, rangeOf_2, f1_1, f2_2, isNon_non, isNon_bl, isNon_int, isNon_tup, isNon_lst, h2, fd, hr, e, lo, hal, lf]
theorem givS_ev (S L B : D) (n : Nat) (cs : List D) (l : D) (x3 x4 x5 x6 : Option D) (hn : D.len L = .ok (.int n)) (hr : rangeD 0 n = .ok cs) (hg : forGo (.nm 4) (Py.execs [(1, g_least_of)] [3, 5] L_given_second_1) cs [some S, some L, some B, some (.lst []), none, none, none, none] = .ok (.nx [some S, some L, some B, some l, x3, x4, x5, x6])) :
    g_given_second [S, L, B] = .ok l := by
  simp [g_given_second, b_given_second, runFn, env0, outD, Py.execs, Py.exec, exec_for, ev, evs, evAnd, evOr, evPart, evTests, evIt, lift, view, mask, tst, bindT, Tgt.bind, setAll, O.f, appD, extD, putD, haveL, Cop.f, Bop.f, Bi.f, Cst.d, D.isTy, D.lf, D.lfs, D.lfItems, R.bind_assoc, List.foldl, truth_non, truth_bl, truth_int, truth_lst, truth_tup, ix_t0, ix_t1, ix_t2, ix_t3, ix_t4, ix_l0, ix_l1, ix_l2, ix_l3, pd2_ix0, pd2_ix1, len_lst, len_tup, len_scr, ltD_int, eqD_int, eqD_bl, ne_int, ne_bl, cmpI_int, add_int, sub_int, shr_int, negI_int, asB_bl, asI_int, items_lst, items_tup, listOf_lst, listOf_tup, tupOf_lst, tupOf_tup, rangeOf_1, rangeOf_2, f1_1, f2_2, isNon_non, isNon_bl, isNon_int, isNon_tup, isNon_lst, hn, hr, hg]
theorem givS_ok (b1 : Nat) (s : St) (low : Low) (hb1 : b1 ≤ 900) (hl : low.length ≤ 500) (hg : 1 ≤ s.give) (hs : s.give ≤ 1000 ∧ s.get ≤ 1000) : g_given_second [stD s, lowD low, .int b1] = .ok (lowD ((List.range low.length).map (givS b1 s low))) := by
  obtain ⟨ρ', e, x3, x4, x5, x6, rfl⟩ := forGo_inv (t := .nm 4) (body := Py.execs [(1, g_least_of)] [3, 5] L_given_second_1) (enc := fun t : Nat => D.int (t : Int)) (fun done ρ => ∃ x3 x4 x5 x6, ρ = [some (stD s), some (lowD low), some (.int b1), some (lowD (done.map (givS b1 s low))), x3, x4, x5, x6]) (List.range low.length) [] (fun d c r e ρ hρ => by
    obtain ⟨x3, x4, x5, x6, rfl⟩ := hρ
    have hc : c ∈ List.range low.length := by
      rw [List.nil_append] at e
      rw [e]; simp
    have hdl : d.length ≤ low.length := by
      have := congrArg List.length e
      simp at this
      omega
    have hc := List.mem_range.mp hc
    obtain ⟨x4', x5', x6', e2⟩ := givS_body (stD s) (lowD low) b1 s low c (d.map (givS b1 s low)) x4 x5 x6 hb1 hc (by omega) (st_2 s) (st_3 s) hg hs rfl (by rw [List.length_map]; omega)
    exact ⟨_, _, rfl, .inl e2, _, x4', x5', x6', by rw [List.map_append]; rfl⟩) [some (stD s), some (lowD low), some (.int b1), some (.lst []), none, none, none, none] ⟨none, none, none, none, rfl⟩
  exact givS_ev _ _ _ low.length _ _ x3 x4 x5 x6 (len_map_lst _ _) (rangeD_nat (by omega)) e
/-! ### next_low -/
abbrev fsN : Fns := [(3, g_through), (1, g_greatest_of), (1, g_least_of), (2, g_stall_at), (2, g_given_first), (3, g_given_second)]
theorem next_ways (F : Flr) (hF : F.Ok) (lows : List (List (Option Int))) (hl : lows.length = F.own.length) (hll : ∀ l ∈ lows, l.length = F.b0 + 1) (p : Nat) (x3 x4 x5 x6 x7 x8 x9 : Option D) :
    ev fsN lc_next_low_0 [some (flrD F), some (.int p), some (lowsD lows), x3, x4, x5, x6, x7, x8, x9] = .ok (.lst ((waysOf F lows p).map lowD)) := by
  have e : (waysOf F lows p).map lowD = F.ways.filterMap fun w => if w.s = p then some (lowD (thru F.b0 F.b1 w.f w.g (lows.getD w.e []))) else none := by
    unfold waysOf Flr.at
    induction F.ways with
    | nil => rfl
    | cons w ws ih =>
      by_cases h : w.s = p
      · rw [List.filter_cons, decide_eq_true h, if_pos rfl, List.map_cons, List.map_cons, List.filterMap_cons, if_pos h, ih]
      · rw [List.filter_cons, decide_eq_false h, if_neg (by decide), List.filterMap_cons, if_neg h, ih]
  rw [e]
  refine ev_lc_fm wyD _ F.ways ?_ (by have := hF.few; omega) fun w hw => ?_
  · have h2 := flr_2 F
    generalize flrD F = FD at h2
    simp [runFn, env0, outD, Py.execs, Py.exec, exec_for, ev, evs, evAnd, evOr, evPart, evTests, evIt, lift, view, mask, tst, bindT, Tgt.bind, setAll, O.f, appD, extD, putD, haveL, Cop.f, Bop.f, Bi.f, divOk, powOk, mulOk, log2_small, Cst.d, D.isTy, D.lf, D.lfs, D.lfItems, R.bind_assoc, List.foldl, truth_non, truth_bl, truth_int, truth_lst, truth_tup, ix_t0, ix_t1, ix_t2, ix_t3, ix_t4, ix_l0, ix_l1, ix_l2, ix_l3, pd2_ix0, pd2_ix1, len_lst, len_tup, len_scr, ltD_int, eqD_int, eqD_bl, ne_int, ne_bl, cmpI_int, add_int, sub_int, mul_int, fdiv_int, mod_int, pow_int, shr_int, negI_int, asB_bl, asI_int, items_lst, items_tup, listOf_lst, listOf_tup, tupOf_lst, tupOf_tup, rangeOf_1, rangeOf_2, f1_1, f2_2, isNon_non, isNon_bl, isNon_int, isNon_tup, isNon_lst, h2]
  · obtain ⟨h1, h2⟩ := hF.ends w hw
    have hlx : (lows.getD w.e []).length = F.b0 + 1 := by
      have hx : w.e < lows.length := by omega
      rw [List.getD_eq_getElem?_getD, List.getElem?_eq_getElem hx]
      exact hll _ (List.getElem_mem hx)
    have e1 := lows_ix (lows := lows) (e := w.e) (by omega)
    have e2 := through_ok (flrD F) (wyD w) F.b0 F.b1 w.f w.g _ (by have := hF.b0; omega) (flr_0 F) hlx (wy_2 w) (wy_3 w)
    have w0 := wy_0 w
    have w1 := wy_1 w
    generalize wyD w = WD at e2 w0 w1
    generalize flrD F = FD at e2
    generalize lowsD lows = LD at e1
    generalize lowD (lows.getD w.e []) = ld at e1 e2
    by_cases h : w.s = p
    · simp [lcF, runFn, env0, outD, Py.execs, Py.exec, exec_for, ev, evs, evAnd, evOr, evPart, evTests, evIt, lift, view, mask, tst, bindT, Tgt.bind, setAll, O.f, appD, extD, putD, haveL, Cop.f, Bop.f, Bi.f, divOk, powOk, mulOk, log2_small, Cst.d, D.isTy, D.lf, D.lfs, D.lfItems, R.bind_assoc, List.foldl, truth_non, truth_bl, truth_int, truth_lst, truth_tup, ix_t0, ix_t1, ix_t2, ix_t3, ix_t4, ix_l0, ix_l1, ix_l2, ix_l3, pd2_ix0, pd2_ix1, len_lst, len_tup, len_scr, ltD_int, eqD_int, eqD_bl, ne_int, ne_bl, cmpI_int, add_int, sub_int, mul_int, fdiv_int, mod_int, pow_int, shr_int, negI_int, asB_bl, asI_int, items_lst, items_tup, listOf_lst, listOf_tup, tupOf_lst, tupOf_tup, rangeOf_1, rangeOf_2, f1_1, f2_2, isNon_non, isNon_bl, isNon_int, isNon_tup, isNon_lst, w0, w1, e1, e2, h]
    · have h' : ¬ ((w.s : Int) = p) := by omega
      simp [lcF, runFn, env0, outD, Py.execs, Py.exec, exec_for, ev, evs, evAnd, evOr, evPart, evTests, evIt, lift, view, mask, tst, bindT, Tgt.bind, setAll, O.f, appD, extD, putD, haveL, Cop.f, Bop.f, Bi.f, divOk, powOk, mulOk, log2_small, Cst.d, D.isTy, D.lf, D.lfs, D.lfItems, R.bind_assoc, List.foldl, truth_non, truth_bl, truth_int, truth_lst, truth_tup, ix_t0, ix_t1, ix_t2, ix_t3, ix_t4, ix_l0, ix_l1, ix_l2, ix_l3, pd2_ix0, pd2_ix1, len_lst, len_tup, len_scr, ltD_int, eqD_int, eqD_bl, ne_int, ne_bl, cmpI_int, add_int, sub_int, mul_int, fdiv_int, mod_int, pow_int, shr_int, negI_int, asB_bl, asI_int, items_lst, items_tup, listOf_lst, listOf_tup, tupOf_lst, tupOf_tup, rangeOf_1, rangeOf_2, f1_1, f2_2, isNon_non, isNon_bl, isNon_int, isNon_tup, isNon_lst, w0, w1, e1, e2, h, h']
theorem next_col (FD PD LD : D) (ws : List (List (Option Int))) (c : Nat) (hw : ∀ l ∈ ws, c < l.length) (hlen : ws.length ≤ 1000) (x4 x5 x6 x7 x9 : Option D) :
    ev fsN lc_next_low_1 [some FD, some PD, some LD, some (.lst (ws.map lowD)), x4, x5, x6, x7, some (.int c), x9] = .ok (lowD (colOf ws c)) := by
  have e0 : lowD (colOf ws c) = .lst (ws.map fun l => encO (l.getD c none)) := by
    unfold lowD colOf
    rw [List.map_map]
    rfl
  rw [e0]
  refine ev_lc_map lowD _ ws ?_ (by omega) fun l hl => ?_
  · generalize ws.map lowD = q
    simp [runFn, env0, outD, Py.execs, Py.exec, exec_for, ev, evs, evAnd, evOr, evPart, evTests, evIt, lift, view, mask, tst, bindT, Tgt.bind, setAll, O.f, appD, extD, putD, haveL, Cop.f, Bop.f, Bi.f, divOk, powOk, mulOk, log2_small, Cst.d, D.isTy, D.lf, D.lfs, D.lfItems, R.bind_assoc, List.foldl, truth_non, truth_bl, truth_int, truth_lst, truth_tup, ix_t0, ix_t1, ix_t2, ix_t3, ix_t4, ix_l0, ix_l1, ix_l2, ix_l3, pd2_ix0, pd2_ix1, len_lst, len_tup, len_scr, ltD_int, eqD_int, eqD_bl, ne_int, ne_bl, cmpI_int, add_int, sub_int, mul_int, fdiv_int, mod_int, pow_int, shr_int, negI_int, asB_bl, asI_int, items_lst, items_tup, listOf_lst, listOf_tup, tupOf_lst, tupOf_tup, rangeOf_1, rangeOf_2, f1_1, f2_2, isNon_non, isNon_bl, isNon_int, isNon_tup, isNon_lst]
  · have e := low_at (hw l hl)
    generalize lowD l = q at e
    simp [lcF, runFn, env0, outD, Py.execs, Py.exec, exec_for, ev, evs, evAnd, evOr, evPart, evTests, evIt, lift, view, mask, tst, bindT, Tgt.bind, setAll, O.f, appD, extD, putD, haveL, Cop.f, Bop.f, Bi.f, divOk, powOk, mulOk, log2_small, Cst.d, D.isTy, D.lf, D.lfs, D.lfItems, R.bind_assoc, List.foldl, truth_non, truth_bl, truth_int, truth_lst, truth_tup, ix_t0, ix_t1, ix_t2, ix_t3, ix_t4, ix_l0, ix_l1, ix_l2, ix_l3, pd2_ix0, pd2_ix1, len_lst, len_tup, len_scr, ltD_int, eqD_int, eqD_bl, ne_int, ne_bl, cmpI_int, add_int, sub_int, mul_int, fdiv_int, mod_int, pow_int, shr_int, negI_int, asB_bl, asI_int, items_lst, items_tup, listOf_lst, listOf_tup, tupOf_lst, tupOf_tup, rangeOf_1, rangeOf_2, f1_1, f2_2, isNon_non, isNon_bl, isNon_int, isNon_tup, isNon_lst, e]
theorem next_cols (FD PD LD : D) (b0 : Nat) (b1 : Int) (hb : b0 ≤ 100) (h0 : D.ix FD (.int 0) = .ok (.tup [.int b0, .int b1])) (ws : List (List (Option Int))) (hw : ∀ l ∈ ws, l.length = b0 + 1) (hlen : ws.length ≤ 1000) (x4 x5 x6 x7 x8 x9 : Option D) :
    ev fsN lc_next_low_2 [some FD, some PD, some LD, some (.lst (ws.map lowD)), x4, x5, x6, x7, x8, x9] = .ok (.lst (((List.range (b0 + 1)).map (colOf ws)).map lowD)) := by
  rw [List.map_map]
  refine ev_lc_map (fun c : Nat => D.int (c : Int)) _ (List.range (b0 + 1)) ?_ (by simp; omega) fun c hc => ?_
  · have hr := rangeD_nat (n := b0 + 1) (by omega)
    have e0 : D.ix (.tup [.int (b0 : Int), .int b1]) (.int 0) = .ok (.int b0) := ix_t0 _ _
    have hr' : rangeD 0 ((b0 : Int) + 1) = .ok ((List.range (b0 + 1)).map fun i : Nat => D.int (i : Int)) := by simpa using hr
    generalize ((List.range (b0 + 1)).map fun i : Nat => D.int (i : Int)) = q at hr' ⊢
    generalize ws.map lowD = q2
    simp [runFn, env0, outD, Py.execs, Py.exec, exec_for, ev, evs, evAnd, evOr, evPart, evTests, evIt, lift, view, mask, tst, bindT, Tgt.bind, setAll, O.f, appD, extD, putD, haveL, Cop.f, Bop.f, Bi.f, divOk, powOk, mulOk, log2_small, Cst.d, D.isTy, D.lf, D.lfs, D.lfItems, R.bind_assoc, List.foldl, truth_non, truth_bl, truth_int, truth_lst, truth_tup, ix_t0, ix_t1, ix_t2, ix_t3, ix_t4, ix_l0, ix_l1, ix_l2, ix_l3, pd2_ix0, pd2_ix1, len_lst, len_tup, len_scr, ltD_int, eqD_int, eqD_bl, ne_int, ne_bl, cmpI_int, add_int, sub_int, mul_int, fdiv_int, mod_int, pow_int, shr_int, negI_int, asB_bl, asI_int, items_lst, items_tup, listOf_lst, listOf_tup, tupOf_lst, tupOf_tup, rangeOf_1, rangeOf_2, f1_1, f2_2, isNon_non, isNon_bl, isNon_int, isNon_tup, isNon_lst, h0, hr']
  · have hc := List.mem_range.mp hc
    have e := next_col FD PD LD ws c (fun l hl => by rw [hw l hl]; exact hc) hlen x4 x5 x6 x7 x9
    generalize ws.map lowD = q at e ⊢
    simp only [Function.comp_apply]
    generalize lowD (colOf ws c) = q3 at e ⊢
    simp [lcF, runFn, env0, outD, Py.execs, Py.exec, exec_for, ev, evs, evAnd, evOr, evPart, evTests, evIt, lift, view, mask, tst, bindT, Tgt.bind, setAll, O.f, appD, extD, putD, haveL, Cop.f, Bop.f, Bi.f, divOk, powOk, mulOk, log2_small, Cst.d, D.isTy, D.lf, D.lfs, D.lfItems, R.bind_assoc, List.foldl, truth_non, truth_bl, truth_int, truth_lst, truth_tup, ix_t0, ix_t1, ix_t2, ix_t3, ix_t4, ix_l0, ix_l1, ix_l2, ix_l3, pd2_ix0, pd2_ix1, len_lst, len_tup, len_scr, ltD_int, eqD_int, eqD_bl, ne_int, ne_bl, cmpI_int, add_int, sub_int, mul_int, fdiv_int, mod_int, pow_int, shr_int, negI_int, asB_bl, asI_int, items_lst, items_tup, listOf_lst, listOf_tup, tupOf_lst, tupOf_tup, rangeOf_1, rangeOf_2, f1_1, f2_2, isNon_non, isNon_bl, isNon_int, isNon_tup, isNon_lst, e]
theorem cols_all (FD PD LD : D) (x3 x5 x6 x7 x8 x9 : Option D) (cols : List (List (Option Int))) (hl : cols.length ≤ 1000) (hc : ∀ l ∈ cols, l.length ≤ 1000 ∧ l ≠ []) :
    ev fsN lc_next_low_3 [some FD, some PD, some LD, x3, some (.lst (cols.map lowD)), x5, x6, x7, x8, x9] = .ok (lowD (cols.map greatO)) ∧
    ev fsN lc_next_low_4 [some FD, some PD, some LD, x3, some (.lst (cols.map lowD)), x5, x6, x7, x8, x9] = .ok (lowD (cols.map leastO)) := by
  unfold lowD
  rw [List.map_map, List.map_map]
  refine ⟨ev_lc_map lowD _ cols ?_ (by omega) fun l hl => ?_, ev_lc_map lowD _ cols ?_ (by omega) fun l hl => ?_⟩
  · show _ = R.ok (cols.map lowD)
    generalize hq : cols.map lowD = q
    have : cols.map (fun l => D.lst (l.map encO)) = q := hq
    rw [this]
    simp [runFn, env0, outD, Py.execs, Py.exec, exec_for, ev, evs, evAnd, evOr, evPart, evTests, evIt, lift, view, mask, tst, bindT, Tgt.bind, setAll, O.f, appD, extD, putD, haveL, Cop.f, Bop.f, Bi.f, divOk, powOk, mulOk, log2_small, Cst.d, D.isTy, D.lf, D.lfs, D.lfItems, R.bind_assoc, List.foldl, truth_non, truth_bl, truth_int, truth_lst, truth_tup, ix_t0, ix_t1, ix_t2, ix_t3, ix_t4, ix_l0, ix_l1, ix_l2, ix_l3, pd2_ix0, pd2_ix1, len_lst, len_tup, len_scr, ltD_int, eqD_int, eqD_bl, ne_int, ne_bl, cmpI_int, add_int, sub_int, mul_int, fdiv_int, mod_int, pow_int, shr_int, negI_int, asB_bl, asI_int, items_lst, items_tup, listOf_lst, listOf_tup, tupOf_lst, tupOf_tup, rangeOf_1, rangeOf_2, f1_1, f2_2, isNon_non, isNon_bl, isNon_int, isNon_tup, isNon_lst]
  · have e := great_ok l (hc l hl).2
    generalize lowD l = q at e
    simp [lcF, runFn, env0, outD, Py.execs, Py.exec, exec_for, ev, evs, evAnd, evOr, evPart, evTests, evIt, lift, view, mask, tst, bindT, Tgt.bind, setAll, O.f, appD, extD, putD, haveL, Cop.f, Bop.f, Bi.f, divOk, powOk, mulOk, log2_small, Cst.d, D.isTy, D.lf, D.lfs, D.lfItems, R.bind_assoc, List.foldl, truth_non, truth_bl, truth_int, truth_lst, truth_tup, ix_t0, ix_t1, ix_t2, ix_t3, ix_t4, ix_l0, ix_l1, ix_l2, ix_l3, pd2_ix0, pd2_ix1, len_lst, len_tup, len_scr, ltD_int, eqD_int, eqD_bl, ne_int, ne_bl, cmpI_int, add_int, sub_int, mul_int, fdiv_int, mod_int, pow_int, shr_int, negI_int, asB_bl, asI_int, items_lst, items_tup, listOf_lst, listOf_tup, tupOf_lst, tupOf_tup, rangeOf_1, rangeOf_2, f1_1, f2_2, isNon_non, isNon_bl, isNon_int, isNon_tup, isNon_lst, e]
  · show _ = R.ok (cols.map lowD)
    generalize hq : cols.map lowD = q
    have : cols.map (fun l => D.lst (l.map encO)) = q := hq
    rw [this]
    simp [runFn, env0, outD, Py.execs, Py.exec, exec_for, ev, evs, evAnd, evOr, evPart, evTests, evIt, lift, view, mask, tst, bindT, Tgt.bind, setAll, O.f, appD, extD, putD, haveL, Cop.f, Bop.f, Bi.f, divOk, powOk, mulOk, log2_small, Cst.d, D.isTy, D.lf, D.lfs, D.lfItems, R.bind_assoc, List.foldl, truth_non, truth_bl, truth_int, truth_lst, truth_tup, ix_t0, ix_t1, ix_t2, ix_t3, ix_t4, ix_l0, ix_l1, ix_l2, ix_l3, pd2_ix0, pd2_ix1, len_lst, len_tup, len_scr, ltD_int, eqD_int, eqD_bl, ne_int, ne_bl, cmpI_int, add_int, sub_int, mul_int, fdiv_int, mod_int, pow_int, shr_int, negI_int, asB_bl, asI_int, items_lst, items_tup, listOf_lst, listOf_tup, tupOf_lst, tupOf_tup, rangeOf_1, rangeOf_2, f1_1, f2_2, isNon_non, isNon_bl, isNon_int, isNon_tup, isNon_lst]
  · have e := least_ok l (hc l hl).1
    generalize lowD l = q at e
    simp [lcF, runFn, env0, outD, Py.execs, Py.exec, exec_for, ev, evs, evAnd, evOr, evPart, evTests, evIt, lift, view, mask, tst, bindT, Tgt.bind, setAll, O.f, appD, extD, putD, haveL, Cop.f, Bop.f, Bi.f, divOk, powOk, mulOk, log2_small, Cst.d, D.isTy, D.lf, D.lfs, D.lfItems, R.bind_assoc, List.foldl, truth_non, truth_bl, truth_int, truth_lst, truth_tup, ix_t0, ix_t1, ix_t2, ix_t3, ix_t4, ix_l0, ix_l1, ix_l2, ix_l3, pd2_ix0, pd2_ix1, len_lst, len_tup, len_scr, ltD_int, eqD_int, eqD_bl, ne_int, ne_bl, cmpI_int, add_int, sub_int, mul_int, fdiv_int, mod_int, pow_int, shr_int, negI_int, asB_bl, asI_int, items_lst, items_tup, listOf_lst, listOf_tup, tupOf_lst, tupOf_tup, rangeOf_1, rangeOf_2, f1_1, f2_2, isNon_non, isNon_bl, isNon_int, isNon_tup, isNon_lst, e]
theorem next_ev (FD PD LD OD ws cols lo res BD B1 : D) (k : Bool) (o : Option (Bool × D)) (h0 : ev fsN lc_next_low_0 [some FD, some PD, some LD, none, none, none, none, none, none, none] = .ok ws)
    (h2 : ev fsN lc_next_low_2 [some FD, some PD, some LD, some ws, none, none, none, none, none, none] = .ok cols) (h1 : D.ix FD (.int 1) = .ok OD) (ho : D.ix OD PD = .ok (ownD k)) (hb : D.ix FD (.int 0) = .ok BD) (hb1 : D.ix BD (.int 1) = .ok B1)
    (h3 : k = false → ev fsN lc_next_low_3 [some FD, some PD, some LD, some ws, some cols, none, none, none, none, none] = .ok res) (h4 : k = true → ev fsN lc_next_low_4 [some FD, some PD, some LD, some ws, some cols, none, none, none, none, none] = .ok lo)
    (hs : k = true → ∃ sd, g_stall_at [FD, PD] = .ok sd ∧ ((sd = .non ∧ lo = res) ∨ (sd.isNon = false ∧ ∃ b : Bool, D.ix sd (.int 1) = .ok (.int (if b then 1 else 0)) ∧ (b = false → g_given_first [sd, lo] = .ok res) ∧ (b = true → g_given_second [sd, lo, B1] = .ok res)))) : g_next_low [FD, PD, LD] = .ok res := by
  cases k with
  | true =>
    have e : D.ne (ownD true) (.str "keeper") = .ok (.bl false) := rfl
    obtain ⟨sd, e1, ⟨rfl, rfl⟩ | ⟨e2, b, e3, e4, e5⟩⟩ := hs rfl
    · simp [g_next_low, b_next_low, runFn, env0, outD, Py.execs, Py.exec, exec_for, ev, evs, evAnd, evOr, evPart, evTests, evIt, lift, view, mask, tst, bindT, Tgt.bind, setAll, O.f, appD, extD, putD, haveL, Cop.f, Bop.f, Bi.f, divOk, powOk, mulOk, log2_small, Cst.d, D.isTy, D.lf, D.lfs, D.lfItems, R.bind_assoc, List.foldl, truth_non, truth_bl, truth_int, truth_lst, truth_tup, ix_t0, ix_t1, ix_t2, ix_t3, ix_t4, ix_l0, ix_l1, ix_l2, ix_l3, pd2_ix0, pd2_ix1, len_lst, len_tup, len_scr, ltD_int, eqD_int, eqD_bl, ne_int, ne_bl, cmpI_int, add_int, sub_int, mul_int, fdiv_int, mod_int, pow_int, shr_int, negI_int, asB_bl, asI_int, items_lst, items_tup, listOf_lst, listOf_tup, tupOf_lst, tupOf_tup, rangeOf_1, rangeOf_2, f1_1, f2_2, isNon_non, isNon_bl, isNon_int, isNon_tup, isNon_lst, h0, h2, h1, ho, h4 rfl, e1, e]
    · cases b with
      | true => simp [g_next_low, b_next_low, runFn, env0, outD, Py.execs, Py.exec, exec_for, ev, evs, evAnd, evOr, evPart, evTests, evIt, lift, view, mask, tst, bindT, Tgt.bind, setAll, O.f, appD, extD, putD, haveL, Cop.f, Bop.f, Bi.f, divOk, powOk, mulOk, log2_small, Cst.d, D.isTy, D.lf, D.lfs, D.lfItems, R.bind_assoc, List.foldl, truth_non, truth_bl, truth_int, truth_lst, truth_tup, ix_t0, ix_t1, ix_t2, ix_t3, ix_t4, ix_l0, ix_l1, ix_l2, ix_l3, pd2_ix0, pd2_ix1, len_lst, len_tup, len_scr, ltD_int, eqD_int, eqD_bl, ne_int, ne_bl, cmpI_int, add_int, sub_int, mul_int, fdiv_int, mod_int, pow_int, shr_int, negI_int, asB_bl, asI_int, items_lst, items_tup, listOf_lst, listOf_tup, tupOf_lst, tupOf_tup, rangeOf_1, rangeOf_2, f1_1, f2_2, isNon_non, isNon_bl, isNon_int, isNon_tup, isNon_lst, h0, h2, h1, ho, h4 rfl, e1, e, e2, e3, e5 rfl, hb, hb1]
      | false => simp [g_next_low, b_next_low, runFn, env0, outD, Py.execs, Py.exec, exec_for, ev, evs, evAnd, evOr, evPart, evTests, evIt, lift, view, mask, tst, bindT, Tgt.bind, setAll, O.f, appD, extD, putD, haveL, Cop.f, Bop.f, Bi.f, divOk, powOk, mulOk, log2_small, Cst.d, D.isTy, D.lf, D.lfs, D.lfItems, R.bind_assoc, List.foldl, truth_non, truth_bl, truth_int, truth_lst, truth_tup, ix_t0, ix_t1, ix_t2, ix_t3, ix_t4, ix_l0, ix_l1, ix_l2, ix_l3, pd2_ix0, pd2_ix1, len_lst, len_tup, len_scr, ltD_int, eqD_int, eqD_bl, ne_int, ne_bl, cmpI_int, add_int, sub_int, mul_int, fdiv_int, mod_int, pow_int, shr_int, negI_int, asB_bl, asI_int, items_lst, items_tup, listOf_lst, listOf_tup, tupOf_lst, tupOf_tup, rangeOf_1, rangeOf_2, f1_1, f2_2, isNon_non, isNon_bl, isNon_int, isNon_tup, isNon_lst, h0, h2, h1, ho, h4 rfl, e1, e, e2, e3, e4 rfl, hb, hb1]
  | false =>
    have e : D.ne (ownD false) (.str "keeper") = .ok (.bl true) := rfl
    simp [g_next_low, b_next_low, runFn, env0, outD, Py.execs, Py.exec, exec_for, ev, evs, evAnd, evOr, evPart, evTests, evIt, lift, view, mask, tst, bindT, Tgt.bind, setAll, O.f, appD, extD, putD, haveL, Cop.f, Bop.f, Bi.f, divOk, powOk, mulOk, log2_small, Cst.d, D.isTy, D.lf, D.lfs, D.lfItems, R.bind_assoc, List.foldl, truth_non, truth_bl, truth_int, truth_lst, truth_tup, ix_t0, ix_t1, ix_t2, ix_t3, ix_t4, ix_l0, ix_l1, ix_l2, ix_l3, pd2_ix0, pd2_ix1, len_lst, len_tup, len_scr, ltD_int, eqD_int, eqD_bl, ne_int, ne_bl, cmpI_int, add_int, sub_int, mul_int, fdiv_int, mod_int, pow_int, shr_int, negI_int, asB_bl, asI_int, items_lst, items_tup, listOf_lst, listOf_tup, tupOf_lst, tupOf_tup, rangeOf_1, rangeOf_2, f1_1, f2_2, isNon_non, isNon_bl, isNon_int, isNon_tup, isNon_lst, h0, h2, h1, ho, h3 rfl, e]
theorem thru_len (b0 : Nat) (b1 f s : Int) (low : List (Option Int)) : (thru b0 b1 f s low).length = b0 + 1 := by simp [thru]
theorem ways_len (F : Flr) (lows : List (List (Option Int))) (p : Nat) : ∀ l ∈ waysOf F lows p, l.length = F.b0 + 1 := fun l hl => by
  obtain ⟨w, _, rfl⟩ := List.mem_map.mp hl
  exact thru_len ..
theorem ways_ne (F : Flr) (hF : F.Ok) (lows : List (List (Option Int))) (p : Nat) (hp : p < F.own.length) : waysOf F lows p ≠ [] := fun e => at_ne F hF hp (List.map_eq_nil_iff.mp e)
theorem at_few (F : Flr) (hF : F.Ok) (p : Nat) : (F.at p).length ≤ 100 := Nat.le_trans (List.length_filter_le _ _) hF.few
theorem ways_few (F : Flr) (hF : F.Ok) (lows : List (List (Option Int))) (p : Nat) : (waysOf F lows p).length ≤ 100 := by
  unfold waysOf
  rw [List.length_map]
  exact at_few F hF p
theorem next_ok (F : Flr) (hF : F.Ok) (lows : List (List (Option Int))) (hl : lows.length = F.own.length) (hll : ∀ l ∈ lows, l.length = F.b0 + 1) (p : Nat) (hp : p < F.own.length) :
    g_next_low [flrD F, .int p, lowsD lows] = .ok (lowD (nextLow F lows p)) := by
  have hfew := ways_few F hF lows p
  have hne := ways_ne F hF lows p hp
  have hb := hF.b0
  have hb1 := hF.b1
  have hcol : ∀ l ∈ (List.range (F.b0 + 1)).map (colOf (waysOf F lows p)), l.length ≤ 1000 ∧ l ≠ [] := fun l hl => by
    obtain ⟨c, _, rfl⟩ := List.mem_map.mp hl
    unfold colOf
    exact ⟨by rw [List.length_map]; omega, fun e => hne (List.map_eq_nil_iff.mp e)⟩
  have hca := fun (x5 x6 x7 x8 x9 : Option D) => cols_all (flrD F) (.int p) (lowsD lows) (some (.lst ((waysOf F lows p).map lowD))) x5 x6 x7 x8 x9 ((List.range (F.b0 + 1)).map (colOf (waysOf F lows p))) (by simp; omega) hcol
  have hnl : ∀ k, F.own.getD p false = k → base F lows p = ((List.range (F.b0 + 1)).map (colOf (waysOf F lows p))).map (if k then leastO else greatO) := fun k hk => by
    unfold base
    rw [List.map_map, hk]
    cases k <;> rfl
  have hbl := base_len F lows p
  refine next_ev (flrD F) (.int p) (lowsD lows) (.tup (F.own.map ownD)) _ _ (lowD (base F lows p)) _ (brimsD F) (.int F.b1) (F.own.getD p false) none (next_ways F hF lows hl hll p none none none none none none none) (next_cols (flrD F) (.int p) (lowsD lows) F.b0 F.b1 (by omega) (flr_0 F) (waysOf F lows p) (ways_len F lows p) (by omega) none none none none none none) (flr_1 F) (own_ix F hp) (flr_0 F) (brims_1 F) (fun hk => ?_) (fun hk => ?_) (fun hk => ?_)
  · unfold nextLow
    rw [hk, if_neg (by decide), hnl false hk]
    exact (hca none none none none none).1
  · rw [hnl true hk]
    exact (hca none none none none none).2
  · unfold nextLow
    rw [hk, if_pos rfl]
    refine ⟨_, stall_ok F p hp, ?_⟩
    cases hs : F.stall p with
    | none => exact .inl ⟨rfl, rfl⟩
    | some s =>
      obtain ⟨_, _, h1, h2, h3⟩ := hF.st s (stall_mem hs).1
      refine .inr ⟨rfl, s.k, st_1 s, fun e => ?_, fun e => ?_⟩
      · have := givF_ok s (base F lows p) (by omega) h1 (by omega)
        rw [hbl] at this
        simp only [e, Bool.false_eq_true, if_false]
        exact this
      · have := givS_ok F.b1 s (base F lows p) (by omega) (by omega) h1 (by omega)
        rw [hbl] at this
        simp only [e, if_true]
        exact this
/-! ### rounds -/
abbrev fsR : Fns := [(1, g_border_of), (3, g_next_low)]
theorem rounds_tell (FD x2 x3 x4 x5 x6 : Option D) (lows : List (List (Option Int))) (hl : lows.length ≤ 8) (hll : ∀ l ∈ lows, l.length ≤ 900) : ev fsR lc_rounds_1 [FD, some (lowsD lows), x2, x3, x4, x5, x6] = .ok (tellD (tell lows)) := by
  have e0 : tellD (tell lows) = .lst (lows.map fun l => bordD (bord l)) := by
    unfold tellD tell
    rw [List.map_map]
    rfl
  rw [e0]
  refine ev_lc_map lowD _ lows ?_ (by omega) fun l hl => ?_
  · have : D.items (lowsD lows) = .ok (lows.map lowD) := rfl
    generalize lowsD lows = q at this
    simp [runFn, env0, outD, Py.execs, Py.exec, exec_for, ev, evs, evAnd, evOr, evPart, evTests, evIt, lift, view, mask, tst, bindT, Tgt.bind, setAll, O.f, appD, extD, putD, haveL, Cop.f, Bop.f, Bi.f, divOk, powOk, mulOk, log2_small, Cst.d, D.isTy, D.lf, D.lfs, D.lfItems, R.bind_assoc, List.foldl, truth_non, truth_bl, truth_int, truth_lst, truth_tup, ix_t0, ix_t1, ix_t2, ix_t3, ix_t4, ix_l0, ix_l1, ix_l2, ix_l3, pd2_ix0, pd2_ix1, len_lst, len_tup, len_scr, ltD_int, eqD_int, eqD_bl, ne_int, ne_bl, cmpI_int, add_int, sub_int, mul_int, fdiv_int, mod_int, pow_int, shr_int, negI_int, asB_bl, asI_int, items_lst, items_tup, listOf_lst, listOf_tup, tupOf_lst, tupOf_tup, rangeOf_1, rangeOf_2, f1_1, f2_2, isNon_non, isNon_bl, isNon_int, isNon_tup, isNon_lst, this]
  · have e := border_ok l (hll l hl)
    generalize lowD l = q at e
    generalize bordD (bord l) = q2 at e
    simp [lcF, runFn, env0, outD, Py.execs, Py.exec, exec_for, ev, evs, evAnd, evOr, evPart, evTests, evIt, lift, view, mask, tst, bindT, Tgt.bind, setAll, O.f, appD, extD, putD, haveL, Cop.f, Bop.f, Bi.f, divOk, powOk, mulOk, log2_small, Cst.d, D.isTy, D.lf, D.lfs, D.lfItems, R.bind_assoc, List.foldl, truth_non, truth_bl, truth_int, truth_lst, truth_tup, ix_t0, ix_t1, ix_t2, ix_t3, ix_t4, ix_l0, ix_l1, ix_l2, ix_l3, pd2_ix0, pd2_ix1, len_lst, len_tup, len_scr, ltD_int, eqD_int, eqD_bl, ne_int, ne_bl, cmpI_int, add_int, sub_int, mul_int, fdiv_int, mod_int, pow_int, shr_int, negI_int, asB_bl, asI_int, items_lst, items_tup, listOf_lst, listOf_tup, tupOf_lst, tupOf_tup, rangeOf_1, rangeOf_2, f1_1, f2_2, isNon_non, isNon_bl, isNon_int, isNon_tup, isNon_lst, e]
theorem rounds_more (F : Flr) (hF : F.Ok) (x2 x3 x4 x5 x6 : Option D) (lows : List (List (Option Int))) (hl : lows.length = F.own.length) (hll : ∀ l ∈ lows, l.length = F.b0 + 1) : ev fsR lc_rounds_2 [some (flrD F), some (lowsD lows), x2, x3, x4, x5, x6] = .ok (lowsD (stepL F lows)) := by
  have e0 : lowsD (stepL F lows) = .lst ((List.range lows.length).map fun p => lowD (nextLow F lows p)) := by
    unfold lowsD stepL
    rw [List.map_map]
    rfl
  have hm := hF.many
  rw [e0]
  refine ev_lc_map (fun c : Nat => D.int (c : Int)) _ (List.range lows.length) ?_ (by simp; omega) fun p hp => ?_
  · have hr := rangeD_nat (n := lows.length) (by omega)
    have hn : D.len (lowsD lows) = .ok (.int lows.length) := len_map_lst _ _
    generalize (List.range lows.length).map (fun i : Nat => D.int (i : Int)) = q at hr ⊢
    generalize lowsD lows = q2 at hn
    simp [runFn, env0, outD, Py.execs, Py.exec, exec_for, ev, evs, evAnd, evOr, evPart, evTests, evIt, lift, view, mask, tst, bindT, Tgt.bind, setAll, O.f, appD, extD, putD, haveL, Cop.f, Bop.f, Bi.f, divOk, powOk, mulOk, log2_small, Cst.d, D.isTy, D.lf, D.lfs, D.lfItems, R.bind_assoc, List.foldl, truth_non, truth_bl, truth_int, truth_lst, truth_tup, ix_t0, ix_t1, ix_t2, ix_t3, ix_t4, ix_l0, ix_l1, ix_l2, ix_l3, pd2_ix0, pd2_ix1, len_lst, len_tup, len_scr, ltD_int, eqD_int, eqD_bl, ne_int, ne_bl, cmpI_int, add_int, sub_int, mul_int, fdiv_int, mod_int, pow_int, shr_int, negI_int, asB_bl, asI_int, items_lst, items_tup, listOf_lst, listOf_tup, tupOf_lst, tupOf_tup, rangeOf_1, rangeOf_2, f1_1, f2_2, isNon_non, isNon_bl, isNon_int, isNon_tup, isNon_lst, hn, hr]
  · have e := next_ok F hF lows hl hll p (by have := List.mem_range.mp hp; omega)
    generalize flrD F = FD at e
    generalize lowsD lows = q2 at e
    generalize lowD (nextLow F lows p) = q3 at e
    simp [lcF, runFn, env0, outD, Py.execs, Py.exec, exec_for, ev, evs, evAnd, evOr, evPart, evTests, evIt, lift, view, mask, tst, bindT, Tgt.bind, setAll, O.f, appD, extD, putD, haveL, Cop.f, Bop.f, Bi.f, divOk, powOk, mulOk, log2_small, Cst.d, D.isTy, D.lf, D.lfs, D.lfItems, R.bind_assoc, List.foldl, truth_non, truth_bl, truth_int, truth_lst, truth_tup, ix_t0, ix_t1, ix_t2, ix_t3, ix_t4, ix_l0, ix_l1, ix_l2, ix_l3, pd2_ix0, pd2_ix1, len_lst, len_tup, len_scr, ltD_int, eqD_int, eqD_bl, ne_int, ne_bl, cmpI_int, add_int, sub_int, mul_int, fdiv_int, mod_int, pow_int, shr_int, negI_int, asB_bl, asI_int, items_lst, items_tup, listOf_lst, listOf_tup, tupOf_lst, tupOf_tup, rangeOf_1, rangeOf_2, f1_1, f2_2, isNon_non, isNon_bl, isNon_int, isNon_tup, isNon_lst, e]
/-- one turn of rounds -/
theorem rounds_body (FD L B M : D) (acc : List D) (k : Bool) (x3 x4 x5 x6 : Option D) (ha : acc.length < 16777216) (h1 : ∀ x2 x3 x4 x5 x6, ev fsR lc_rounds_1 [some FD, some L, x2, x3, x4, x5, x6] = .ok B) (h2 : ∀ x2 x3 x4 x5 x6, ev fsR lc_rounds_2 [some FD, some L, x2, x3, x4, x5, x6] = .ok M)
    (h3 : D.eq M L = .ok (.bl k)) : Py.execs fsR [2] L_rounds_0 [some FD, some L, some (.lst acc), x3, x4, x5, x6] = if k then .ok (.rt (.lst (acc ++ [B]))) else .ok (.nx [some FD, some M, some (.lst (acc ++ [B])), some M, x4, x5, x6]) := by
  cases k <;> simp [L_rounds_0, runFn, env0, outD, Py.execs, Py.exec, exec_for, ev, evs, evAnd, evOr, evPart, evTests, evIt, lift, view, mask, tst, bindT, Tgt.bind, setAll, O.f, appD, extD, putD, haveL, Cop.f, Bop.f, Bi.f, divOk, powOk, mulOk, log2_small, Cst.d, D.isTy, D.lf, D.lfs, D.lfItems, R.bind_assoc, List.foldl, truth_non, truth_bl, truth_int, truth_lst, truth_tup, ix_t0, ix_t1, ix_t2, ix_t3, ix_t4, ix_l0, ix_l1, ix_l2, ix_l3, pd2_ix0, pd2_ix1, len_lst, len_tup, len_scr, ltD_int, eqD_int, eqD_bl, ne_int, ne_bl, cmpI_int, add_int, sub_int, mul_int, fdiv_int, mod_int, pow_int, shr_int, negI_int, asB_bl, asI_int, items_lst, items_tup, listOf_lst, listOf_tup, tupOf_lst, tupOf_tup, rangeOf_1, rangeOf_2, f1_1, f2_2, isNon_non, isNon_bl, isNon_int, isNon_tup, isNon_lst, h1, h2, h3, ha]
theorem rounds_while (F : Flr) (hF : F.Ok) : ∀ (n k : Nat) (x3 x4 x5 x6 : Option D), k ≤ rT F → rT F < k + n →
    whileN (fun ρ => tst fsR (.cst (.bl true)) (view [2] false ρ)) (Py.execs fsR [2] L_rounds_0) n [some (flrD F), some (lowsD (lowsN F k)), some (.lst ((List.range k).map fun i => tellD (tell (lowsN F i)))), x3, x4, x5, x6] = .ok (.rt (rdsD (rds F)))
  | 0, k, x3, x4, x5, x6, h1, h2 => by omega
  | n + 1, k, x3, x4, x5, x6, h1, h2 => by
    obtain ⟨s0, s1, s2⟩ := rT_spec F hF
    have hm := hF.many
    have hb := hF.b0
    have ok := lowsN_ok F hF k
    have b := rounds_body (flrD F) (lowsD (lowsN F k)) (tellD (tell (lowsN F k))) (lowsD (lowsN F (k + 1))) ((List.range k).map fun i => tellD (tell (lowsN F i))) (decide (lowsN F (k + 1) = lowsN F k)) x3 x4 x5 x6 (by simp; omega) (fun x2 x3 x4 x5 x6 => rounds_tell _ x2 x3 x4 x5 x6 _ (by rw [ok.1]; omega) fun l h => by rw [(ok.2 l h).len]; omega) (fun x2 x3 x4 x5 x6 => rounds_more F hF x2 x3 x4 x5 x6 _ ok.1 fun l h => (ok.2 l h).len) (lows_eq _ _)
    have ea : ((List.range k).map fun i => tellD (tell (lowsN F i))) ++ [tellD (tell (lowsN F k))] = (List.range (k + 1)).map fun i => tellD (tell (lowsN F i)) := by
      rw [List.range_succ, List.map_append]
      rfl
    rw [ea] at b
    rw [while_true, b]
    by_cases e : k = rT F
    · subst e
      rw [decide_eq_true s1]
      simp only [if_true]
      congr 2
      unfold rdsD rds
      rw [List.map_map]
      rfl
    · rw [decide_eq_false (s2 k (by omega))]
      exact rounds_while F hF n (k + 1) _ x4 x5 x6 (by omega) (by omega)
theorem rounds_ev (FD L : D) (l : D) (h0 : ev fsR lc_rounds_0 [some FD, none, none, none, none, none, none] = .ok L)
    (hw : whileN (fun ρ => tst fsR (.cst (.bl true)) (view [2] false ρ)) (Py.execs fsR [2] L_rounds_0) 100000 [some FD, some L, some (.lst []), none, none, none, none] = .ok (.rt l)) : g_rounds [FD] = .ok l := by
  show outD (Py.execs fsR [2] b_rounds [some FD, none, none, none, none, none, none]) = _
  unfold b_rounds
  rw [execs_cons (ρ' := [some FD, some L, none, none, none, none, none]) (by simp [runFn, env0, outD, Py.execs, Py.exec, exec_for, ev, evs, evAnd, evOr, evPart, evTests, evIt, lift, view, mask, tst, bindT, Tgt.bind, setAll, O.f, appD, extD, putD, haveL, Cop.f, Bop.f, Bi.f, divOk, powOk, mulOk, log2_small, Cst.d, D.isTy, D.lf, D.lfs, D.lfItems, R.bind_assoc, List.foldl, truth_non, truth_bl, truth_int, truth_lst, truth_tup, ix_t0, ix_t1, ix_t2, ix_t3, ix_t4, ix_l0, ix_l1, ix_l2, ix_l3, pd2_ix0, pd2_ix1, len_lst, len_tup, len_scr, ltD_int, eqD_int, eqD_bl, ne_int, ne_bl, cmpI_int, add_int, sub_int, mul_int, fdiv_int, mod_int, pow_int, shr_int, negI_int, asB_bl, asI_int, items_lst, items_tup, listOf_lst, listOf_tup, tupOf_lst, tupOf_tup, rangeOf_1, rangeOf_2, f1_1, f2_2, isNon_non, isNon_bl, isNon_int, isNon_tup, isNon_lst, h0]), execs_cons (ρ' := [some FD, some L, some (.lst []), none, none, none, none]) (by simp [runFn, env0, outD, Py.execs, Py.exec, exec_for, ev, evs, evAnd, evOr, evPart, evTests, evIt, lift, view, mask, tst, bindT, Tgt.bind, setAll, O.f, appD, extD, putD, haveL, Cop.f, Bop.f, Bi.f, divOk, powOk, mulOk, log2_small, Cst.d, D.isTy, D.lf, D.lfs, D.lfItems, R.bind_assoc, List.foldl, truth_non, truth_bl, truth_int, truth_lst, truth_tup, ix_t0, ix_t1, ix_t2, ix_t3, ix_t4, ix_l0, ix_l1, ix_l2, ix_l3, pd2_ix0, pd2_ix1, len_lst, len_tup, len_scr, ltD_int, eqD_int, eqD_bl, ne_int, ne_bl, cmpI_int, add_int, sub_int, mul_int, fdiv_int, mod_int, pow_int, shr_int, negI_int, asB_bl, asI_int, items_lst, items_tup, listOf_lst, listOf_tup, tupOf_lst, tupOf_tup, rangeOf_1, rangeOf_2, f1_1, f2_2, isNon_non, isNon_bl, isNon_int, isNon_tup, isNon_lst]), execs_rt (d := l) (by rw [Py.exec]; exact hw)]
  rfl
theorem mul_low (n : Nat) (h : n ≤ 1000) : D.mul (.lst [.int 0]) (.int n) = .ok (lowD (List.replicate n (some 0))) := by
  have e : D.mul (.lst [.int 0]) (.int (n : Int)) = if 0 ≤ (n : Int) ∧ (n : Int) < 16777216 ∧ [D.int 0].length * (n : Int).toNat ≤ 16777216 then .ok (.lst (List.replicate (n : Int).toNat [D.int 0]).flatten) else .stuck := Eq.trans rfl rfl
  rw [e, if_pos (by refine ⟨by omega, by omega, ?_⟩; show 1 * _ ≤ _; omega)]
  have : ∀ k : Nat, (List.replicate k [D.int 0]).flatten = (List.replicate k (some 0)).map encO := fun k => by
    induction k with
    | zero => rfl
    | succ k ih => rw [List.replicate_succ, List.flatten_cons, ih]; rfl
  rw [Int.toNat_natCast, this]
  rfl
theorem rounds_lows0 (F : Flr) (hF : F.Ok) (x1 x2 x3 x4 x5 x6 : Option D) : ev fsR lc_rounds_0 [some (flrD F), x1, x2, x3, x4, x5, x6] = .ok (lowsD (lows0 F)) := by
  have hm := hF.many
  have hb := hF.b0
  unfold lowsD lows0
  rw [List.map_map]
  refine ev_lc_map ownD _ F.own ?_ (by omega) fun k _ => ?_
  · have e := flr_1 F
    generalize flrD F = FD at e
    simp [runFn, env0, outD, Py.execs, Py.exec, exec_for, ev, evs, evAnd, evOr, evPart, evTests, evIt, lift, view, mask, tst, bindT, Tgt.bind, setAll, O.f, appD, extD, putD, haveL, Cop.f, Bop.f, Bi.f, divOk, powOk, mulOk, log2_small, Cst.d, D.isTy, D.lf, D.lfs, D.lfItems, R.bind_assoc, List.foldl, truth_non, truth_bl, truth_int, truth_lst, truth_tup, ix_t0, ix_t1, ix_t2, ix_t3, ix_t4, ix_l0, ix_l1, ix_l2, ix_l3, pd2_ix0, pd2_ix1, len_lst, len_tup, len_scr, ltD_int, eqD_int, eqD_bl, ne_int, ne_bl, cmpI_int, add_int, sub_int, mul_int, fdiv_int, mod_int, pow_int, shr_int, negI_int, asB_bl, asI_int, items_lst, items_tup, listOf_lst, listOf_tup, tupOf_lst, tupOf_tup, rangeOf_1, rangeOf_2, f1_1, f2_2, isNon_non, isNon_bl, isNon_int, isNon_tup, isNon_lst, e]
  · have e := flr_0 F
    have em := mul_low (F.b0 + 1) (by omega)
    have e0 := brims_0 F
    rw [Int.natCast_add, Int.natCast_one] at em
    simp only [Function.comp_apply]
    generalize lowD (List.replicate (F.b0 + 1) (some 0)) = q at em
    generalize brimsD F = BD at e e0
    generalize flrD F = FD at e
    simp [lcF, runFn, env0, outD, Py.execs, Py.exec, exec_for, ev, evs, evAnd, evOr, evPart, evTests, evIt, lift, view, mask, tst, bindT, Tgt.bind, setAll, O.f, appD, extD, putD, haveL, Cop.f, Bop.f, Bi.f, divOk, powOk, mulOk, log2_small, Cst.d, D.isTy, D.lf, D.lfs, D.lfItems, R.bind_assoc, List.foldl, truth_non, truth_bl, truth_int, truth_lst, truth_tup, ix_t0, ix_t1, ix_t2, ix_t3, ix_t4, ix_l0, ix_l1, ix_l2, ix_l3, pd2_ix0, pd2_ix1, len_lst, len_tup, len_scr, ltD_int, eqD_int, eqD_bl, ne_int, ne_bl, cmpI_int, add_int, sub_int, mul_int, fdiv_int, mod_int, pow_int, shr_int, negI_int, asB_bl, asI_int, items_lst, items_tup, listOf_lst, listOf_tup, tupOf_lst, tupOf_tup, rangeOf_1, rangeOf_2, f1_1, f2_2, isNon_non, isNon_bl, isNon_int, isNon_tup, isNon_lst, e, e0, em]
theorem rounds_ok (F : Flr) (hF : F.Ok) : g_rounds [flrD F] = .ok (rdsD (rds F)) := by
  refine rounds_ev _ _ _ (rounds_lows0 F hF none none none none none none) ?_
  have := rounds_while F hF 100000 0 none none none none (Nat.zero_le _) (by have := (rT_spec F hF).1; omega)
  exact this
theorem rds_last (F : Flr) : ∃ l, rds F = l ++ [bds F] := by
  refine ⟨(List.range (rT F)).map fun k => tell (lowsN F k), ?_⟩
  unfold rds bds
  rw [List.range_succ, List.map_append]
  rfl
theorem rds_ix_last (F : Flr) : D.ix (rdsD (rds F)) (.int (-1)) = .ok (tellD (bds F)) := by
  obtain ⟨l, e⟩ := rds_last F
  rw [e]
  exact last_ix tellD l (bds F)
theorem borders_ok (F : Flr) (hF : F.Ok) : g_borders [flrD F] = .ok (tellD (bds F)) := by
  have e := rounds_ok F hF
  have e2 := rds_ix_last F
  have hneg : D.negI (.int 1) = .ok (.int (-1)) := rfl
  generalize flrD F = FD at e ⊢
  generalize rdsD (rds F) = RD at e e2
  simp [g_borders, b_borders, runFn, env0, outD, Py.execs, Py.exec, exec_for, ev, evs, evAnd, evOr, evPart, evTests, evIt, lift, view, mask, tst, bindT, Tgt.bind, setAll, O.f, appD, extD, putD, haveL, Cop.f, Bop.f, Bi.f, divOk, powOk, mulOk, log2_small, Cst.d, D.isTy, D.lf, D.lfs, D.lfItems, R.bind_assoc, List.foldl, truth_non, truth_bl, truth_int, truth_lst, truth_tup, ix_t0, ix_t1, ix_t2, ix_t3, ix_t4, ix_l0, ix_l1, ix_l2, ix_l3, pd2_ix0, pd2_ix1, len_lst, len_tup, len_scr, ltD_int, eqD_int, eqD_bl, ne_int, ne_bl, cmpI_int, add_int, sub_int, mul_int, fdiv_int, mod_int, pow_int, shr_int, negI_int, asB_bl, asI_int, items_lst, items_tup, listOf_lst, listOf_tup, tupOf_lst, tupOf_tup, rangeOf_1, rangeOf_2, f1_1, f2_2, isNon_non, isNon_bl, isNon_int, isNon_tup, isNon_lst, e, hneg, e2]
end Py

namespace Py
open PySem PySem.Spec PyProof.Rows L2
/-! ## the program: borders held, lasting, steps -/
theorem aoa_ok (p q : Int × Int) : g_at_or_above [pd2 p, pd2 q] = .ok (.bl (aoa p q)) := by
  unfold aoa
  by_cases h : q.1 ≤ p.1
  · simp [g_at_or_above, b_at_or_above, runFn, env0, outD, Py.execs, Py.exec, exec_for, ev, evs, evAnd, evOr, evPart, evTests, evIt, lift, view, mask, tst, bindT, Tgt.bind, setAll, O.f, appD, extD, putD, haveL, Cop.f, Bop.f, Bi.f, divOk, powOk, mulOk, log2_small, Cst.d, D.isTy, D.lf, D.lfs, D.lfItems, R.bind_assoc, List.foldl, truth_non, truth_bl, truth_int, truth_lst, truth_tup, ix_t0, ix_t1, ix_t2, ix_t3, ix_t4, ix_l0, ix_l1, ix_l2, ix_l3, pd2_ix0, pd2_ix1, len_lst, len_tup, len_scr, ltD_int, eqD_int, eqD_bl, ne_int, ne_bl, cmpI_int, add_int, sub_int, mul_int, fdiv_int, mod_int, pow_int, shr_int, negI_int, asB_bl, asI_int, items_lst, items_tup, listOf_lst, listOf_tup, tupOf_lst, tupOf_tup, rangeOf_1, rangeOf_2, f1_1, f2_2, isNon_non, isNon_bl, isNon_int, isNon_tup, isNon_lst, pd2_ix0, pd2_ix1, h]
  · simp [g_at_or_above, b_at_or_above, runFn, env0, outD, Py.execs, Py.exec, exec_for, ev, evs, evAnd, evOr, evPart, evTests, evIt, lift, view, mask, tst, bindT, Tgt.bind, setAll, O.f, appD, extD, putD, haveL, Cop.f, Bop.f, Bi.f, divOk, powOk, mulOk, log2_small, Cst.d, D.isTy, D.lf, D.lfs, D.lfItems, R.bind_assoc, List.foldl, truth_non, truth_bl, truth_int, truth_lst, truth_tup, ix_t0, ix_t1, ix_t2, ix_t3, ix_t4, ix_l0, ix_l1, ix_l2, ix_l3, pd2_ix0, pd2_ix1, len_lst, len_tup, len_scr, ltD_int, eqD_int, eqD_bl, ne_int, ne_bl, cmpI_int, add_int, sub_int, mul_int, fdiv_int, mod_int, pow_int, shr_int, negI_int, asB_bl, asI_int, items_lst, items_tup, listOf_lst, listOf_tup, tupOf_lst, tupOf_tup, rangeOf_1, rangeOf_2, f1_1, f2_2, isNon_non, isNon_bl, isNon_int, isNon_tup, isNon_lst, pd2_ix0, pd2_ix1, h]
theorem findSome_any {α β : Type} (xs : List α) (f : α → Bool) (v : β) : xs.findSome? (fun x => if f x then some v else none) = if xs.any f then some v else none := by
  induction xs with
  | nil => rfl
  | cons x xs ih =>
    rw [List.findSome?_cons, List.any_cons]
    cases f x with
    | true => rfl
    | false => simpa using ih
theorem holds_ok (d : D) (b : List (Int × Int)) (h : D.items d = .ok (b.map pd2)) (p : Int × Int) : g_holds [d, pd2 p] = .ok (.bl (hld b p)) := by
  have e := forGo_first (t := .nm 2) (body := Py.execs [(2, g_at_or_above)] [] L_holds_0) (enc := pd2) (fun ρ => ∃ x, ρ = [some d, some (pd2 p), x]) (fun l => if aoa p l then some (D.bl true) else none) b (fun l _ ρ hρ => by
    obtain ⟨x, rfl⟩ := hρ
    refine ⟨_, rfl, fun v hv => ?_, fun hn => ⟨[some d, some (pd2 p), some (pd2 l)], .inl ?_, _, rfl⟩⟩
    · cases hl : aoa p l <;> rw [hl] at hv <;> cases hv
      simp [L_holds_0, runFn, env0, outD, Py.execs, Py.exec, exec_for, ev, evs, evAnd, evOr, evPart, evTests, evIt, lift, view, mask, tst, bindT, Tgt.bind, setAll, O.f, appD, extD, putD, haveL, Cop.f, Bop.f, Bi.f, divOk, powOk, mulOk, log2_small, Cst.d, D.isTy, D.lf, D.lfs, D.lfItems, R.bind_assoc, List.foldl, truth_non, truth_bl, truth_int, truth_lst, truth_tup, ix_t0, ix_t1, ix_t2, ix_t3, ix_t4, ix_l0, ix_l1, ix_l2, ix_l3, pd2_ix0, pd2_ix1, len_lst, len_tup, len_scr, ltD_int, eqD_int, eqD_bl, ne_int, ne_bl, cmpI_int, add_int, sub_int, mul_int, fdiv_int, mod_int, pow_int, shr_int, negI_int, asB_bl, asI_int, items_lst, items_tup, listOf_lst, listOf_tup, tupOf_lst, tupOf_tup, rangeOf_1, rangeOf_2, f1_1, f2_2, isNon_non, isNon_bl, isNon_int, isNon_tup, isNon_lst, aoa_ok, hl]
    · cases hl : aoa p l <;> rw [hl] at hn <;> cases hn
      simp [L_holds_0, runFn, env0, outD, Py.execs, Py.exec, exec_for, ev, evs, evAnd, evOr, evPart, evTests, evIt, lift, view, mask, tst, bindT, Tgt.bind, setAll, O.f, appD, extD, putD, haveL, Cop.f, Bop.f, Bi.f, divOk, powOk, mulOk, log2_small, Cst.d, D.isTy, D.lf, D.lfs, D.lfItems, R.bind_assoc, List.foldl, truth_non, truth_bl, truth_int, truth_lst, truth_tup, ix_t0, ix_t1, ix_t2, ix_t3, ix_t4, ix_l0, ix_l1, ix_l2, ix_l3, pd2_ix0, pd2_ix1, len_lst, len_tup, len_scr, ltD_int, eqD_int, eqD_bl, ne_int, ne_bl, cmpI_int, add_int, sub_int, mul_int, fdiv_int, mod_int, pow_int, shr_int, negI_int, asB_bl, asI_int, items_lst, items_tup, listOf_lst, listOf_tup, tupOf_lst, tupOf_tup, rangeOf_1, rangeOf_2, f1_1, f2_2, isNon_non, isNon_bl, isNon_int, isNon_tup, isNon_lst, aoa_ok, hl]) [some d, some (pd2 p), none] ⟨none, rfl⟩
  rw [findSome_any] at e
  unfold hld
  cases hh : b.any fun l => aoa p l
  · rw [hh] at e
    obtain ⟨ρ', e1, x, rfl⟩ := e.2 rfl
    simp [g_holds, b_holds, runFn, env0, outD, Py.execs, Py.exec, exec_for, ev, evs, evAnd, evOr, evPart, evTests, evIt, lift, view, mask, tst, bindT, Tgt.bind, setAll, O.f, appD, extD, putD, haveL, Cop.f, Bop.f, Bi.f, divOk, powOk, mulOk, log2_small, Cst.d, D.isTy, D.lf, D.lfs, D.lfItems, R.bind_assoc, List.foldl, truth_non, truth_bl, truth_int, truth_lst, truth_tup, ix_t0, ix_t1, ix_t2, ix_t3, ix_t4, ix_l0, ix_l1, ix_l2, ix_l3, pd2_ix0, pd2_ix1, len_lst, len_tup, len_scr, ltD_int, eqD_int, eqD_bl, ne_int, ne_bl, cmpI_int, add_int, sub_int, mul_int, fdiv_int, mod_int, pow_int, shr_int, negI_int, asB_bl, asI_int, items_lst, items_tup, listOf_lst, listOf_tup, tupOf_lst, tupOf_tup, rangeOf_1, rangeOf_2, f1_1, f2_2, isNon_non, isNon_bl, isNon_int, isNon_tup, isNon_lst, h, e1]
  · rw [hh] at e
    have e1 := e.1 _ rfl
    simp [g_holds, b_holds, runFn, env0, outD, Py.execs, Py.exec, exec_for, ev, evs, evAnd, evOr, evPart, evTests, evIt, lift, view, mask, tst, bindT, Tgt.bind, setAll, O.f, appD, extD, putD, haveL, Cop.f, Bop.f, Bi.f, divOk, powOk, mulOk, log2_small, Cst.d, D.isTy, D.lf, D.lfs, D.lfItems, R.bind_assoc, List.foldl, truth_non, truth_bl, truth_int, truth_lst, truth_tup, ix_t0, ix_t1, ix_t2, ix_t3, ix_t4, ix_l0, ix_l1, ix_l2, ix_l3, pd2_ix0, pd2_ix1, len_lst, len_tup, len_scr, ltD_int, eqD_int, eqD_bl, ne_int, ne_bl, cmpI_int, add_int, sub_int, mul_int, fdiv_int, mod_int, pow_int, shr_int, negI_int, asB_bl, asI_int, items_lst, items_tup, listOf_lst, listOf_tup, tupOf_lst, tupOf_tup, rangeOf_1, rangeOf_2, f1_1, f2_2, isNon_non, isNon_bl, isNon_int, isNon_tup, isNon_lst, h, e1]
theorem held_ok (d : D) (b : List (Int × Int)) (h : D.items d = .ok (b.map pd2)) (p : Int × Int) : g_t_law_held [d, pd2 p] = .ok (.bl (hld b p)) := by
  have e := forGo_first (t := .tp [2, 3]) (body := Py.execs [] [] L_t_law_held_0) (enc := pd2) (fun ρ => ∃ x y, ρ = [some d, some (pd2 p), x, y]) (fun l => if aoa p l then some (D.bl true) else none) b (fun l _ ρ hρ => by
    obtain ⟨x, y, rfl⟩ := hρ
    refine ⟨[some d, some (pd2 p), some (.int l.1), some (.int l.2)], rfl, fun v hv => ?_, fun hn => ⟨[some d, some (pd2 p), some (.int l.1), some (.int l.2)], .inl ?_, _, _, rfl⟩⟩
    · cases hl : aoa p l <;> rw [hl] at hv <;> cases hv
      obtain ⟨h1, h2⟩ := aoa_iff.mp hl
      simp [L_t_law_held_0, runFn, env0, outD, Py.execs, Py.exec, exec_for, ev, evs, evAnd, evOr, evPart, evTests, evIt, lift, view, mask, tst, bindT, Tgt.bind, setAll, O.f, appD, extD, putD, haveL, Cop.f, Bop.f, Bi.f, divOk, powOk, mulOk, log2_small, Cst.d, D.isTy, D.lf, D.lfs, D.lfItems, R.bind_assoc, List.foldl, truth_non, truth_bl, truth_int, truth_lst, truth_tup, ix_t0, ix_t1, ix_t2, ix_t3, ix_t4, ix_l0, ix_l1, ix_l2, ix_l3, pd2_ix0, pd2_ix1, len_lst, len_tup, len_scr, ltD_int, eqD_int, eqD_bl, ne_int, ne_bl, cmpI_int, add_int, sub_int, mul_int, fdiv_int, mod_int, pow_int, shr_int, negI_int, asB_bl, asI_int, items_lst, items_tup, listOf_lst, listOf_tup, tupOf_lst, tupOf_tup, rangeOf_1, rangeOf_2, f1_1, f2_2, isNon_non, isNon_bl, isNon_int, isNon_tup, isNon_lst, pd2_ix0, pd2_ix1, h1, h2]
    · cases hl : aoa p l <;> rw [hl] at hn <;> cases hn
      unfold aoa at hl
      by_cases h1 : l.1 ≤ p.1
      · by_cases h2 : l.2 ≤ p.2
        · simp [h1, h2] at hl
        · simp [L_t_law_held_0, runFn, env0, outD, Py.execs, Py.exec, exec_for, ev, evs, evAnd, evOr, evPart, evTests, evIt, lift, view, mask, tst, bindT, Tgt.bind, setAll, O.f, appD, extD, putD, haveL, Cop.f, Bop.f, Bi.f, divOk, powOk, mulOk, log2_small, Cst.d, D.isTy, D.lf, D.lfs, D.lfItems, R.bind_assoc, List.foldl, truth_non, truth_bl, truth_int, truth_lst, truth_tup, ix_t0, ix_t1, ix_t2, ix_t3, ix_t4, ix_l0, ix_l1, ix_l2, ix_l3, pd2_ix0, pd2_ix1, len_lst, len_tup, len_scr, ltD_int, eqD_int, eqD_bl, ne_int, ne_bl, cmpI_int, add_int, sub_int, mul_int, fdiv_int, mod_int, pow_int, shr_int, negI_int, asB_bl, asI_int, items_lst, items_tup, listOf_lst, listOf_tup, tupOf_lst, tupOf_tup, rangeOf_1, rangeOf_2, f1_1, f2_2, isNon_non, isNon_bl, isNon_int, isNon_tup, isNon_lst, pd2_ix0, pd2_ix1, h1, h2]
      · simp [L_t_law_held_0, runFn, env0, outD, Py.execs, Py.exec, exec_for, ev, evs, evAnd, evOr, evPart, evTests, evIt, lift, view, mask, tst, bindT, Tgt.bind, setAll, O.f, appD, extD, putD, haveL, Cop.f, Bop.f, Bi.f, divOk, powOk, mulOk, log2_small, Cst.d, D.isTy, D.lf, D.lfs, D.lfItems, R.bind_assoc, List.foldl, truth_non, truth_bl, truth_int, truth_lst, truth_tup, ix_t0, ix_t1, ix_t2, ix_t3, ix_t4, ix_l0, ix_l1, ix_l2, ix_l3, pd2_ix0, pd2_ix1, len_lst, len_tup, len_scr, ltD_int, eqD_int, eqD_bl, ne_int, ne_bl, cmpI_int, add_int, sub_int, mul_int, fdiv_int, mod_int, pow_int, shr_int, negI_int, asB_bl, asI_int, items_lst, items_tup, listOf_lst, listOf_tup, tupOf_lst, tupOf_tup, rangeOf_1, rangeOf_2, f1_1, f2_2, isNon_non, isNon_bl, isNon_int, isNon_tup, isNon_lst, pd2_ix0, pd2_ix1, h1]) [some d, some (pd2 p), none, none] ⟨none, none, rfl⟩
  rw [findSome_any] at e
  unfold hld
  cases hh : b.any fun l => aoa p l
  · rw [hh] at e
    obtain ⟨ρ', e1, x, y, rfl⟩ := e.2 rfl
    simp [g_t_law_held, b_t_law_held, runFn, env0, outD, Py.execs, Py.exec, exec_for, ev, evs, evAnd, evOr, evPart, evTests, evIt, lift, view, mask, tst, bindT, Tgt.bind, setAll, O.f, appD, extD, putD, haveL, Cop.f, Bop.f, Bi.f, divOk, powOk, mulOk, log2_small, Cst.d, D.isTy, D.lf, D.lfs, D.lfItems, R.bind_assoc, List.foldl, truth_non, truth_bl, truth_int, truth_lst, truth_tup, ix_t0, ix_t1, ix_t2, ix_t3, ix_t4, ix_l0, ix_l1, ix_l2, ix_l3, pd2_ix0, pd2_ix1, len_lst, len_tup, len_scr, ltD_int, eqD_int, eqD_bl, ne_int, ne_bl, cmpI_int, add_int, sub_int, mul_int, fdiv_int, mod_int, pow_int, shr_int, negI_int, asB_bl, asI_int, items_lst, items_tup, listOf_lst, listOf_tup, tupOf_lst, tupOf_tup, rangeOf_1, rangeOf_2, f1_1, f2_2, isNon_non, isNon_bl, isNon_int, isNon_tup, isNon_lst, h, e1]
  · rw [hh] at e
    have e1 := e.1 _ rfl
    simp [g_t_law_held, b_t_law_held, runFn, env0, outD, Py.execs, Py.exec, exec_for, ev, evs, evAnd, evOr, evPart, evTests, evIt, lift, view, mask, tst, bindT, Tgt.bind, setAll, O.f, appD, extD, putD, haveL, Cop.f, Bop.f, Bi.f, divOk, powOk, mulOk, log2_small, Cst.d, D.isTy, D.lf, D.lfs, D.lfItems, R.bind_assoc, List.foldl, truth_non, truth_bl, truth_int, truth_lst, truth_tup, ix_t0, ix_t1, ix_t2, ix_t3, ix_t4, ix_l0, ix_l1, ix_l2, ix_l3, pd2_ix0, pd2_ix1, len_lst, len_tup, len_scr, ltD_int, eqD_int, eqD_bl, ne_int, ne_bl, cmpI_int, add_int, sub_int, mul_int, fdiv_int, mod_int, pow_int, shr_int, negI_int, asB_bl, asI_int, items_lst, items_tup, listOf_lst, listOf_tup, tupOf_lst, tupOf_tup, rangeOf_1, rangeOf_2, f1_1, f2_2, isNon_non, isNon_bl, isNon_int, isNon_tup, isNon_lst, h, e1]
theorem bord_items (b : List Pr) : D.items (bordD b) = .ok (b.map pd2) := items_tup _
theorem holdsB_ok (b : List Pr) (p : Pr) : g_holds [bordD b, pd2 p] = .ok (.bl (hld b p)) := holds_ok _ b (bord_items b) p
theorem heldB_ok (b : List Pr) (p : Pr) : g_t_law_held [bordD b, pd2 p] = .ok (.bl (hld b p)) := held_ok _ b (bord_items b) p
/-- lasting_in -/
theorem findSome_find {α β : Type} (xs : List α) (f : α → Bool) (v : α → β) : xs.findSome? (fun x => if f x then some (v x) else none) = (xs.find? f).map v := by
  induction xs with
  | nil => rfl
  | cons x xs ih =>
    rw [List.findSome?_cons, List.find?_cons]
    cases f x with
    | true => rfl
    | false => simpa using ih
theorem lasting_body (RD PN PD TD BD : D) (k : Int) (x : Bool) (e1 : D.ix RD (.int k) = .ok TD) (e2 : D.ix TD PN = .ok BD) (e3 : g_holds [BD, PD] = .ok (.bl x)) : Py.execs [(2, g_holds)] [] L_lasting_in_0 [some RD, some PN, some PD, some (.int k)] = if x then .ok (.nx [some RD, some PN, some PD, some (.int k)]) else .ok (.rt (.int k)) := by
  cases x <;> simp [L_lasting_in_0, runFn, env0, outD, Py.execs, Py.exec, exec_for, ev, evs, evAnd, evOr, evPart, evTests, evIt, lift, view, mask, tst, bindT, Tgt.bind, setAll, O.f, appD, extD, putD, haveL, Cop.f, Bop.f, Bi.f, divOk, powOk, mulOk, log2_small, Cst.d, D.isTy, D.lf, D.lfs, D.lfItems, R.bind_assoc, List.foldl, truth_non, truth_bl, truth_int, truth_lst, truth_tup, ix_t0, ix_t1, ix_t2, ix_t3, ix_t4, ix_l0, ix_l1, ix_l2, ix_l3, pd2_ix0, pd2_ix1, len_lst, len_tup, len_scr, ltD_int, eqD_int, eqD_bl, ne_int, ne_bl, cmpI_int, add_int, sub_int, mul_int, fdiv_int, mod_int, pow_int, shr_int, negI_int, asB_bl, asI_int, items_lst, items_tup, listOf_lst, listOf_tup, tupOf_lst, tupOf_tup, rangeOf_1, rangeOf_2, f1_1, f2_2, isNon_non, isNon_bl, isNon_int, isNon_tup, isNon_lst, e1, e2, e3]
theorem lasting_ev (RD PN PD d : D) (n : Int) (RG : List D) (o : Option D) (hl : D.len RD = .ok (.int n)) (hr : rangeD 0 n = .ok RG) (e : (∀ d, o = some d → forGo (.nm 3) (Py.execs [(2, g_holds)] [] L_lasting_in_0) RG [some RD, some PN, some PD, none] = .ok (.rt d)) ∧ (o = none → ∃ x, forGo (.nm 3) (Py.execs [(2, g_holds)] [] L_lasting_in_0) RG [some RD, some PN, some PD, none] = .ok (.nx [some RD, some PN, some PD, x]))) :
    g_lasting_in [RD, PN, PD] = .ok (o.getD .non) := by
  cases o with
  | none =>
    obtain ⟨x, e1⟩ := e.2 rfl
    simp [g_lasting_in, b_lasting_in, runFn, env0, outD, Py.execs, Py.exec, exec_for, ev, evs, evAnd, evOr, evPart, evTests, evIt, lift, view, mask, tst, bindT, Tgt.bind, setAll, O.f, appD, extD, putD, haveL, Cop.f, Bop.f, Bi.f, divOk, powOk, mulOk, log2_small, Cst.d, D.isTy, D.lf, D.lfs, D.lfItems, R.bind_assoc, List.foldl, truth_non, truth_bl, truth_int, truth_lst, truth_tup, ix_t0, ix_t1, ix_t2, ix_t3, ix_t4, ix_l0, ix_l1, ix_l2, ix_l3, pd2_ix0, pd2_ix1, len_lst, len_tup, len_scr, ltD_int, eqD_int, eqD_bl, ne_int, ne_bl, cmpI_int, add_int, sub_int, mul_int, fdiv_int, mod_int, pow_int, shr_int, negI_int, asB_bl, asI_int, items_lst, items_tup, listOf_lst, listOf_tup, tupOf_lst, tupOf_tup, rangeOf_1, rangeOf_2, f1_1, f2_2, isNon_non, isNon_bl, isNon_int, isNon_tup, isNon_lst, hl, hr, e1]
  | some d =>
    have e1 := e.1 d rfl
    simp [g_lasting_in, b_lasting_in, runFn, env0, outD, Py.execs, Py.exec, exec_for, ev, evs, evAnd, evOr, evPart, evTests, evIt, lift, view, mask, tst, bindT, Tgt.bind, setAll, O.f, appD, extD, putD, haveL, Cop.f, Bop.f, Bi.f, divOk, powOk, mulOk, log2_small, Cst.d, D.isTy, D.lf, D.lfs, D.lfItems, R.bind_assoc, List.foldl, truth_non, truth_bl, truth_int, truth_lst, truth_tup, ix_t0, ix_t1, ix_t2, ix_t3, ix_t4, ix_l0, ix_l1, ix_l2, ix_l3, pd2_ix0, pd2_ix1, len_lst, len_tup, len_scr, ltD_int, eqD_int, eqD_bl, ne_int, ne_bl, cmpI_int, add_int, sub_int, mul_int, fdiv_int, mod_int, pow_int, shr_int, negI_int, asB_bl, asI_int, items_lst, items_tup, listOf_lst, listOf_tup, tupOf_lst, tupOf_tup, rangeOf_1, rangeOf_2, f1_1, f2_2, isNon_non, isNon_bl, isNon_int, isNon_tup, isNon_lst, hl, hr, e1]
theorem optN_get (o : Option Nat) : optN o = (o.map fun k : Nat => D.int (k : Int)).getD .non := by cases o <;> rfl
theorem lasting_ok (rs : List (List (List Pr))) (p : Nat) (pr : Pr) (hp : ∀ r ∈ rs, p < r.length) (hn : rs.length ≤ 100000) : g_lasting_in [rdsD rs, .int p, pd2 pr] = .ok (optN ((List.range rs.length).find? fun k => !hld ((rs.getD k []).getD p []) pr)) := by
  have e := forGo_first (t := .nm 3) (body := Py.execs [(2, g_holds)] [] L_lasting_in_0) (enc := fun k : Nat => D.int (k : Int)) (fun ρ => ∃ x, ρ = [some (rdsD rs), some (.int p), some (pd2 pr), x]) (fun k : Nat => if !hld ((rs.getD k []).getD p []) pr then some (D.int (k : Int)) else none) (List.range rs.length) (fun k hk ρ hρ => by
    obtain ⟨x, rfl⟩ := hρ
    have hk := List.mem_range.mp hk
    have hpk : p < (rs.getD k []).length := by
      rw [List.getD_eq_getElem?_getD, List.getElem?_eq_getElem hk]
      exact hp _ (List.getElem_mem hk)
    have b := lasting_body _ _ _ _ _ _ _ (rds_ix hk) (tell_ix hpk) (holdsB_ok ((rs.getD k []).getD p []) pr)
    refine ⟨_, rfl, fun v hv => ?_, fun hn => ⟨[some (rdsD rs), some (.int p), some (pd2 pr), some (.int k)], .inl ?_, _, rfl⟩⟩
    · cases hl : hld ((rs.getD k []).getD p []) pr <;> rw [hl] at hv b <;> cases hv
      exact b
    · cases hl : hld ((rs.getD k []).getD p []) pr <;> rw [hl] at hn b <;> cases hn
      exact b) [some (rdsD rs), some (.int p), some (pd2 pr), none] ⟨none, rfl⟩
  rw [findSome_find] at e
  rw [optN_get]
  refine lasting_ev _ _ _ .non _ _ _ (len_map_lst _ _) (rangeD_nat (n := rs.length) (by omega)) ⟨e.1, fun hn => ?_⟩
  obtain ⟨ρ', e1, x, rfl⟩ := e.2 hn
  exact ⟨x, e1⟩
theorem find_congr {α : Type} {xs : List α} {f g : α → Bool} (h : ∀ x ∈ xs, f x = g x) : xs.find? f = xs.find? g := by
  induction xs with
  | nil => rfl
  | cons x xs ih => rw [List.find?_cons, List.find?_cons, h x (by simp), ih fun y hy => h y (by simp [hy])]
theorem rds_mem_len (F : Flr) (hF : F.Ok) : ∀ r ∈ rds F, r.length = F.own.length := fun r hr => by
  obtain ⟨k, _, rfl⟩ := List.mem_map.mp hr
  unfold tell
  rw [List.length_map]
  exact (lowsN_ok F hF k).1
theorem lasting_rds (F : Flr) (hF : F.Ok) (p : Nat) (hp : p < F.own.length) (pr : Pr) (hi : F.In pr) : g_lasting_in [rdsD (rds F), .int p, pd2 pr] = .ok (optN (lst F p pr)) := by
  have hT := (rT_spec F hF).1
  rw [lasting_ok (rds F) p pr (fun r hr => by rw [rds_mem_len F hF r hr]; exact hp) (by rw [rds_len]; omega), rds_len]
  unfold lst
  congr 2
  refine find_congr fun k hk => ?_
  have hk := List.mem_range.mp hk
  rw [rds_at F (by omega), tell_at _ _ (by rw [(lowsN_ok F hF k).1]; exact hp), hld_rd F hF k hp hi]
theorem is_row_ok (xs : List D) (n : Nat) : g_is_row [.tup xs, .int n] = .ok (.bl (decide (xs.length = n))) := by
  simp [g_is_row, b_is_row, runFn, env0, outD, Py.execs, Py.exec, exec_for, ev, evs, evAnd, evOr, evPart, evTests, evIt, lift, view, mask, tst, bindT, Tgt.bind, setAll, O.f, appD, extD, putD, haveL, Cop.f, Bop.f, Bi.f, divOk, powOk, mulOk, log2_small, Cst.d, D.isTy, D.lf, D.lfs, D.lfItems, R.bind_assoc, List.foldl, truth_non, truth_bl, truth_int, truth_lst, truth_tup, ix_t0, ix_t1, ix_t2, ix_t3, ix_t4, ix_l0, ix_l1, ix_l2, ix_l3, pd2_ix0, pd2_ix1, len_lst, len_tup, len_scr, ltD_int, eqD_int, eqD_bl, ne_int, ne_bl, cmpI_int, add_int, sub_int, mul_int, fdiv_int, mod_int, pow_int, shr_int, negI_int, asB_bl, asI_int, items_lst, items_tup, listOf_lst, listOf_tup, tupOf_lst, tupOf_tup, rangeOf_1, rangeOf_2, f1_1, f2_2, isNon_non, isNon_bl, isNon_int, isNon_tup, isNon_lst]
  omega
theorem pair_ev (FD PD BD : D) (x y a b : Int) (h0 : D.ix FD (.int 0) = .ok BD) (hb0 : D.ix BD (.int 0) = .ok (.int a)) (hb1 : D.ix BD (.int 1) = .ok (.int b)) (hr : g_is_row [PD, .int 2] = .ok (.bl true)) (h1 : D.ix PD (.int 0) = .ok (.int x)) (h2 : D.ix PD (.int 1) = .ok (.int y)) (hx : 0 ≤ x) (hx2 : x ≤ a) (hy : 0 ≤ y) (hy2 : y ≤ b) : g_check_pair [FD, PD] = .ok .non := by
  have e1 := within_ok x 0 a hx hx2
  have e2 := within_ok y 0 b hy hy2
  simp [g_check_pair, b_check_pair, runFn, env0, outD, Py.execs, Py.exec, exec_for, ev, evs, evAnd, evOr, evPart, evTests, evIt, lift, view, mask, tst, bindT, Tgt.bind, setAll, O.f, appD, extD, putD, haveL, Cop.f, Bop.f, Bi.f, divOk, powOk, mulOk, log2_small, Cst.d, D.isTy, D.lf, D.lfs, D.lfItems, R.bind_assoc, List.foldl, truth_non, truth_bl, truth_int, truth_lst, truth_tup, ix_t0, ix_t1, ix_t2, ix_t3, ix_t4, ix_l0, ix_l1, ix_l2, ix_l3, pd2_ix0, pd2_ix1, len_lst, len_tup, len_scr, ltD_int, eqD_int, eqD_bl, ne_int, ne_bl, cmpI_int, add_int, sub_int, mul_int, fdiv_int, mod_int, pow_int, shr_int, negI_int, asB_bl, asI_int, items_lst, items_tup, listOf_lst, listOf_tup, tupOf_lst, tupOf_tup, rangeOf_1, rangeOf_2, f1_1, f2_2, isNon_non, isNon_bl, isNon_int, isNon_tup, isNon_lst, h0, hb0, hb1, hr, h1, h2, e1, e2]
theorem pair_ok (F : Flr) (pr : Pr) (hi : F.In pr) : g_check_pair [flrD F, pd2 pr] = .ok .non := by
  obtain ⟨a, b, c, d⟩ := hi
  exact pair_ev _ _ _ pr.1 pr.2 F.b0 F.b1 (flr_0 F) (brims_0 F) (brims_1 F) (is_row_ok _ 2) (pd2_ix0 pr) (pd2_ix1 pr) a b c d
theorem lasts_ok (F : Flr) (hF : F.Ok) (p : Nat) (hp : p < F.own.length) (pr : Pr) (hi : F.In pr) : g_lasts [flrD F, .int p, pd2 pr] = .ok (optN (lst F p pr)) := by
  have e1 := place_ok F p hp
  have e2 := pair_ok F pr hi
  have e3 := rounds_ok F hF
  have e4 := lasting_rds F hF p hp pr hi
  generalize flrD F = FD at e1 e2 e3 ⊢
  generalize rdsD (rds F) = RD at e3 e4
  generalize pd2 pr = PD at e2 e4 ⊢
  simp [g_lasts, b_lasts, runFn, env0, outD, Py.execs, Py.exec, exec_for, ev, evs, evAnd, evOr, evPart, evTests, evIt, lift, view, mask, tst, bindT, Tgt.bind, setAll, O.f, appD, extD, putD, haveL, Cop.f, Bop.f, Bi.f, divOk, powOk, mulOk, log2_small, Cst.d, D.isTy, D.lf, D.lfs, D.lfItems, R.bind_assoc, List.foldl, truth_non, truth_bl, truth_int, truth_lst, truth_tup, ix_t0, ix_t1, ix_t2, ix_t3, ix_t4, ix_l0, ix_l1, ix_l2, ix_l3, pd2_ix0, pd2_ix1, len_lst, len_tup, len_scr, ltD_int, eqD_int, eqD_bl, ne_int, ne_bl, cmpI_int, add_int, sub_int, mul_int, fdiv_int, mod_int, pow_int, shr_int, negI_int, asB_bl, asI_int, items_lst, items_tup, listOf_lst, listOf_tup, tupOf_lst, tupOf_tup, rangeOf_1, rangeOf_2, f1_1, f2_2, isNon_non, isNon_bl, isNon_int, isNon_tup, isNon_lst, e1, e2, e3, e4]
theorem bds_ix (F : Flr) (hF : F.Ok) (p : Nat) (hp : p < F.own.length) : D.ix (tellD (bds F)) (.int p) = .ok (bordD (bd F p)) := by
  have := tell_ix (bs := bds F) (p := p) (by rw [bds_len F hF]; exact hp)
  rw [bds_at F hF hp] at this
  exact this
theorem enough_ok (F : Flr) (hF : F.Ok) (p : Nat) (hp : p < F.own.length) (pr : Pr) (hi : F.In pr) : g_enough [flrD F, .int p, pd2 pr] = .ok (.bl (hw F p pr)) := by
  have e1 := place_ok F p hp
  have e2 := pair_ok F pr hi
  have e3 := borders_ok F hF
  have e4 := bds_ix F hF p hp
  have e5 := holdsB_ok (bd F p) pr
  rw [hld_bd F hF hp hi] at e5
  generalize flrD F = FD at e1 e2 e3 ⊢
  generalize tellD (bds F) = RD at e3 e4
  generalize bordD (bd F p) = BD at e4 e5
  generalize pd2 pr = PD at e2 e5 ⊢
  simp [g_enough, b_enough, runFn, env0, outD, Py.execs, Py.exec, exec_for, ev, evs, evAnd, evOr, evPart, evTests, evIt, lift, view, mask, tst, bindT, Tgt.bind, setAll, O.f, appD, extD, putD, haveL, Cop.f, Bop.f, Bi.f, divOk, powOk, mulOk, log2_small, Cst.d, D.isTy, D.lf, D.lfs, D.lfItems, R.bind_assoc, List.foldl, truth_non, truth_bl, truth_int, truth_lst, truth_tup, ix_t0, ix_t1, ix_t2, ix_t3, ix_t4, ix_l0, ix_l1, ix_l2, ix_l3, pd2_ix0, pd2_ix1, len_lst, len_tup, len_scr, ltD_int, eqD_int, eqD_bl, ne_int, ne_bl, cmpI_int, add_int, sub_int, mul_int, fdiv_int, mod_int, pow_int, shr_int, negI_int, asB_bl, asI_int, items_lst, items_tup, listOf_lst, listOf_tup, tupOf_lst, tupOf_tup, rangeOf_1, rangeOf_2, f1_1, f2_2, isNon_non, isNon_bl, isNon_int, isNon_tup, isNon_lst, e1, e2, e3, e4, e5]
/-! ### steps -/
theorem after_ev (FD PD WD BD : D) (x y f g a b : Int) (h0 : D.ix FD (.int 0) = .ok BD) (hb0 : D.ix BD (.int 0) = .ok (.int a)) (hb1 : D.ix BD (.int 1) = .ok (.int b)) (h1 : D.ix PD (.int 0) = .ok (.int x)) (h2 : D.ix PD (.int 1) = .ok (.int y)) (h3 : D.ix WD (.int 2) = .ok (.int f)) (h4 : D.ix WD (.int 3) = .ok (.int g)) :
    g_after [FD, PD, WD] = .ok (if x + f < 0 ∨ y + g < 0 then .non else pd2 (min (x + f) a, min (y + g) b)) := by
  by_cases h : x + f < 0
  · rw [if_pos (.inl h)]
    simp [g_after, b_after, runFn, env0, outD, Py.execs, Py.exec, exec_for, ev, evs, evAnd, evOr, evPart, evTests, evIt, lift, view, mask, tst, bindT, Tgt.bind, setAll, O.f, appD, extD, putD, haveL, Cop.f, Bop.f, Bi.f, divOk, powOk, mulOk, log2_small, Cst.d, D.isTy, D.lf, D.lfs, D.lfItems, R.bind_assoc, List.foldl, truth_non, truth_bl, truth_int, truth_lst, truth_tup, ix_t0, ix_t1, ix_t2, ix_t3, ix_t4, ix_l0, ix_l1, ix_l2, ix_l3, pd2_ix0, pd2_ix1, len_lst, len_tup, len_scr, ltD_int, eqD_int, eqD_bl, ne_int, ne_bl, cmpI_int, add_int, sub_int, mul_int, fdiv_int, mod_int, pow_int, shr_int, negI_int, asB_bl, asI_int, items_lst, items_tup, listOf_lst, listOf_tup, tupOf_lst, tupOf_tup, rangeOf_1, rangeOf_2, f1_1, f2_2, isNon_non, isNon_bl, isNon_int, isNon_tup, isNon_lst, h0, hb0, hb1, h1, h2, h3, h4, h]
  · by_cases h' : y + g < 0
    · rw [if_pos (.inr h')]
      simp [g_after, b_after, runFn, env0, outD, Py.execs, Py.exec, exec_for, ev, evs, evAnd, evOr, evPart, evTests, evIt, lift, view, mask, tst, bindT, Tgt.bind, setAll, O.f, appD, extD, putD, haveL, Cop.f, Bop.f, Bi.f, divOk, powOk, mulOk, log2_small, Cst.d, D.isTy, D.lf, D.lfs, D.lfItems, R.bind_assoc, List.foldl, truth_non, truth_bl, truth_int, truth_lst, truth_tup, ix_t0, ix_t1, ix_t2, ix_t3, ix_t4, ix_l0, ix_l1, ix_l2, ix_l3, pd2_ix0, pd2_ix1, len_lst, len_tup, len_scr, ltD_int, eqD_int, eqD_bl, ne_int, ne_bl, cmpI_int, add_int, sub_int, mul_int, fdiv_int, mod_int, pow_int, shr_int, negI_int, asB_bl, asI_int, items_lst, items_tup, listOf_lst, listOf_tup, tupOf_lst, tupOf_tup, rangeOf_1, rangeOf_2, f1_1, f2_2, isNon_non, isNon_bl, isNon_int, isNon_tup, isNon_lst, h0, hb0, hb1, h1, h2, h3, h4, h, h']
    · rw [if_neg (by omega)]
      simp [g_after, b_after, runFn, env0, outD, Py.execs, Py.exec, exec_for, ev, evs, evAnd, evOr, evPart, evTests, evIt, lift, view, mask, tst, bindT, Tgt.bind, setAll, O.f, appD, extD, putD, haveL, Cop.f, Bop.f, Bi.f, divOk, powOk, mulOk, log2_small, Cst.d, D.isTy, D.lf, D.lfs, D.lfItems, R.bind_assoc, List.foldl, truth_non, truth_bl, truth_int, truth_lst, truth_tup, ix_t0, ix_t1, ix_t2, ix_t3, ix_t4, ix_l0, ix_l1, ix_l2, ix_l3, pd2_ix0, pd2_ix1, len_lst, len_tup, len_scr, ltD_int, eqD_int, eqD_bl, ne_int, ne_bl, cmpI_int, add_int, sub_int, mul_int, fdiv_int, mod_int, pow_int, shr_int, negI_int, asB_bl, asI_int, items_lst, items_tup, listOf_lst, listOf_tup, tupOf_lst, tupOf_tup, rangeOf_1, rangeOf_2, f1_1, f2_2, isNon_non, isNon_bl, isNon_int, isNon_tup, isNon_lst, h0, hb0, hb1, h1, h2, h3, h4, h, h', min2_ok, pd2]
theorem after_ok (F : Flr) (pr : Pr) (w : Wy) : g_after [flrD F, pd2 pr, wyD w] = .ok (optP (behind F pr w)) := by
  rw [after_ev _ _ _ _ pr.1 pr.2 w.f w.g F.b0 F.b1 (flr_0 F) (brims_0 F) (brims_1 F) (pd2_ix0 pr) (pd2_ix1 pr) (wy_2 w) (wy_3 w)]
  unfold behind
  split <;> rfl
/-- so many changes, or none -/
def tradeO (F : Flr) (o : Option St) (pr : Pr) (t : Nat) : Option Pr := if t = 0 then some pr else match o with
  | none => none
  | some s => if (if s.k then pr.2 else pr.1) - (t : Int) * s.give < 0 then none else some (trade F s pr t)
theorem traded_0 (FD SD PD : D) : g_traded [FD, SD, PD, .int 0] = .ok PD := by
  simp [g_traded, b_traded, runFn, env0, outD, Py.execs, Py.exec, exec_for, ev, evs, evAnd, evOr, evPart, evTests, evIt, lift, view, mask, tst, bindT, Tgt.bind, setAll, O.f, appD, extD, putD, haveL, Cop.f, Bop.f, Bi.f, divOk, powOk, mulOk, log2_small, Cst.d, D.isTy, D.lf, D.lfs, D.lfItems, R.bind_assoc, List.foldl, truth_non, truth_bl, truth_int, truth_lst, truth_tup, ix_t0, ix_t1, ix_t2, ix_t3, ix_t4, ix_l0, ix_l1, ix_l2, ix_l3, pd2_ix0, pd2_ix1, len_lst, len_tup, len_scr, ltD_int, eqD_int, eqD_bl, ne_int, ne_bl, cmpI_int, add_int, sub_int, mul_int, fdiv_int, mod_int, pow_int, shr_int, negI_int, asB_bl, asI_int, items_lst, items_tup, listOf_lst, listOf_tup, tupOf_lst, tupOf_tup, rangeOf_1, rangeOf_2, f1_1, f2_2, isNon_non, isNon_bl, isNon_int, isNon_tup, isNon_lst]
theorem traded_n (FD PD : D) (T : Int) (h : ¬ T = 0) : g_traded [FD, .non, PD, .int T] = .ok .non := by
  simp [g_traded, b_traded, runFn, env0, outD, Py.execs, Py.exec, exec_for, ev, evs, evAnd, evOr, evPart, evTests, evIt, lift, view, mask, tst, bindT, Tgt.bind, setAll, O.f, appD, extD, putD, haveL, Cop.f, Bop.f, Bi.f, divOk, powOk, mulOk, log2_small, Cst.d, D.isTy, D.lf, D.lfs, D.lfItems, R.bind_assoc, List.foldl, truth_non, truth_bl, truth_int, truth_lst, truth_tup, ix_t0, ix_t1, ix_t2, ix_t3, ix_t4, ix_l0, ix_l1, ix_l2, ix_l3, pd2_ix0, pd2_ix1, len_lst, len_tup, len_scr, ltD_int, eqD_int, eqD_bl, ne_int, ne_bl, cmpI_int, add_int, sub_int, mul_int, fdiv_int, mod_int, pow_int, shr_int, negI_int, asB_bl, asI_int, items_lst, items_tup, listOf_lst, listOf_tup, tupOf_lst, tupOf_tup, rangeOf_1, rangeOf_2, f1_1, f2_2, isNon_non, isNon_bl, isNon_int, isNon_tup, isNon_lst, h]
theorem traded_2 (FD BD SD PD : D) (T x y gv gt a m1 m2 : Int) (h : ¬ T = 0) (sn : SD.isNon = false) (h0 : D.ix FD (.int 0) = .ok BD) (b0 : D.ix BD (.int 0) = .ok (.int a)) (p0 : D.ix PD (.int 0) = .ok (.int x)) (p1 : D.ix PD (.int 1) = .ok (.int y)) (s1 : D.ix SD (.int 1) = .ok (.int 1)) (s2 : D.ix SD (.int 2) = .ok (.int gv)) (s3 : D.ix SD (.int 3) = .ok (.int gt))
    (e1 : D.mul (.int T) (.int gv) = .ok (.int m1)) (e2 : D.mul (.int T) (.int gt) = .ok (.int m2)) : g_traded [FD, SD, PD, .int T] = .ok (if y - m1 < 0 then .non else pd2 (min (x + m2) a, y - m1)) := by
  by_cases hz : y - m1 < 0
  · rw [if_pos hz]
    simp [g_traded, b_traded, runFn, env0, outD, Py.execs, Py.exec, exec_for, ev, evs, evAnd, evOr, evPart, evTests, evIt, lift, view, mask, tst, bindT, Tgt.bind, setAll, O.f, appD, extD, putD, haveL, Cop.f, Bop.f, Bi.f, Cst.d, D.isTy, D.lf, D.lfs, D.lfItems, R.bind_assoc, List.foldl, truth_non, truth_bl, truth_int, truth_lst, truth_tup, ix_t0, ix_t1, ix_t2, ix_t3, ix_t4, ix_l0, ix_l1, ix_l2, ix_l3, pd2_ix0, pd2_ix1, len_lst, len_tup, len_scr, ltD_int, eqD_int, eqD_bl, ne_int, ne_bl, cmpI_int, add_int, sub_int, shr_int, negI_int, asB_bl, asI_int, items_lst, items_tup, listOf_lst, listOf_tup, tupOf_lst, tupOf_tup, rangeOf_1, rangeOf_2, f1_1, f2_2, isNon_non, isNon_bl, isNon_int, isNon_tup, isNon_lst, h, sn, h0, b0, p0, p1, s1, s2, s3, e1, e2, hz]
  · rw [if_neg hz]
    simp [g_traded, b_traded, runFn, env0, outD, Py.execs, Py.exec, exec_for, ev, evs, evAnd, evOr, evPart, evTests, evIt, lift, view, mask, tst, bindT, Tgt.bind, setAll, O.f, appD, extD, putD, haveL, Cop.f, Bop.f, Bi.f, Cst.d, D.isTy, D.lf, D.lfs, D.lfItems, R.bind_assoc, List.foldl, truth_non, truth_bl, truth_int, truth_lst, truth_tup, ix_t0, ix_t1, ix_t2, ix_t3, ix_t4, ix_l0, ix_l1, ix_l2, ix_l3, pd2_ix0, pd2_ix1, len_lst, len_tup, len_scr, ltD_int, eqD_int, eqD_bl, ne_int, ne_bl, cmpI_int, add_int, sub_int, shr_int, negI_int, asB_bl, asI_int, items_lst, items_tup, listOf_lst, listOf_tup, tupOf_lst, tupOf_tup, rangeOf_1, rangeOf_2, f1_1, f2_2, isNon_non, isNon_bl, isNon_int, isNon_tup, isNon_lst, h, sn, h0, b0, p0, p1, s1, s2, s3, e1, e2, hz, min2_ok, pd2]
theorem traded_1 (FD BD SD PD : D) (T x y gv gt a m1 m2 : Int) (h : ¬ T = 0) (sn : SD.isNon = false) (h0 : D.ix FD (.int 0) = .ok BD) (b0 : D.ix BD (.int 1) = .ok (.int a)) (p0 : D.ix PD (.int 0) = .ok (.int x)) (p1 : D.ix PD (.int 1) = .ok (.int y)) (s1 : D.ix SD (.int 1) = .ok (.int 0)) (s2 : D.ix SD (.int 2) = .ok (.int gv)) (s3 : D.ix SD (.int 3) = .ok (.int gt))
    (e1 : D.mul (.int T) (.int gv) = .ok (.int m1)) (e2 : D.mul (.int T) (.int gt) = .ok (.int m2)) : g_traded [FD, SD, PD, .int T] = .ok (if x - m1 < 0 then .non else pd2 (x - m1, min (y + m2) a)) := by
  by_cases hz : x - m1 < 0
  · rw [if_pos hz]
    simp [g_traded, b_traded, runFn, env0, outD, Py.execs, Py.exec, exec_for, ev, evs, evAnd, evOr, evPart, evTests, evIt, lift, view, mask, tst, bindT, Tgt.bind, setAll, O.f, appD, extD, putD, haveL, Cop.f, Bop.f, Bi.f, Cst.d, D.isTy, D.lf, D.lfs, D.lfItems, R.bind_assoc, List.foldl, truth_non, truth_bl, truth_int, truth_lst, truth_tup, ix_t0, ix_t1, ix_t2, ix_t3, ix_t4, ix_l0, ix_l1, ix_l2, ix_l3, pd2_ix0, pd2_ix1, len_lst, len_tup, len_scr, ltD_int, eqD_int, eqD_bl, ne_int, ne_bl, cmpI_int, add_int, sub_int, shr_int, negI_int, asB_bl, asI_int, items_lst, items_tup, listOf_lst, listOf_tup, tupOf_lst, tupOf_tup, rangeOf_1, rangeOf_2, f1_1, f2_2, isNon_non, isNon_bl, isNon_int, isNon_tup, isNon_lst, h, sn, h0, b0, p0, p1, s1, s2, s3, e1, e2, hz]
  · rw [if_neg hz]
    simp [g_traded, b_traded, runFn, env0, outD, Py.execs, Py.exec, exec_for, ev, evs, evAnd, evOr, evPart, evTests, evIt, lift, view, mask, tst, bindT, Tgt.bind, setAll, O.f, appD, extD, putD, haveL, Cop.f, Bop.f, Bi.f, Cst.d, D.isTy, D.lf, D.lfs, D.lfItems, R.bind_assoc, List.foldl, truth_non, truth_bl, truth_int, truth_lst, truth_tup, ix_t0, ix_t1, ix_t2, ix_t3, ix_t4, ix_l0, ix_l1, ix_l2, ix_l3, pd2_ix0, pd2_ix1, len_lst, len_tup, len_scr, ltD_int, eqD_int, eqD_bl, ne_int, ne_bl, cmpI_int, add_int, sub_int, shr_int, negI_int, asB_bl, asI_int, items_lst, items_tup, listOf_lst, listOf_tup, tupOf_lst, tupOf_tup, rangeOf_1, rangeOf_2, f1_1, f2_2, isNon_non, isNon_bl, isNon_int, isNon_tup, isNon_lst, h, sn, h0, b0, p0, p1, s1, s2, s3, e1, e2, hz, min2_ok, pd2]
theorem traded_ok (F : Flr) (o : Option St) (pr : Pr) (t : Nat) (ho : ∀ s, o = some s → s.give ≤ 1000 ∧ s.get ≤ 1000) (ht : t < 1000000) : g_traded [flrD F, optS o, pd2 pr, .int t] = .ok (optP (tradeO F o pr t)) := by
  unfold tradeO
  by_cases ht0 : t = 0
  · subst ht0
    exact traded_0 _ _ _
  · rw [if_neg ht0]
    have ht1 : ¬ ((t : Int) = 0) := by omega
    cases o with
    | none => exact traded_n _ _ _ ht1
    | some s =>
      obtain ⟨g1, g2⟩ := ho s rfl
      have m1 : D.mul (.int (t : Int)) (.int s.give) = .ok (.int ((t : Int) * s.give)) := mul_ok (by omega) (by omega)
      have m2 : D.mul (.int (t : Int)) (.int s.get) = .ok (.int ((t : Int) * s.get)) := mul_ok (by omega) (by omega)
      have s1 := st_1 s
      show g_traded [flrD F, stD s, pd2 pr, .int t] = _
      cases hk : s.k with
      | true =>
        rw [hk] at s1
        rw [traded_2 _ _ _ _ _ _ _ _ _ _ _ _ ht1 (isNon_stD s) (flr_0 F) (brims_0 F) (pd2_ix0 pr) (pd2_ix1 pr) s1 (st_2 s) (st_3 s) m1 m2]
        simp only [hk, if_true]
        split
        · rfl
        · unfold trade
          rw [hk]
          rfl
      | false =>
        rw [hk] at s1
        rw [traded_1 _ _ _ _ _ _ _ _ _ _ _ _ ht1 (isNon_stD s) (flr_0 F) (brims_1 F) (pd2_ix0 pr) (pd2_ix1 pr) s1 (st_2 s) (st_3 s) m1 m2]
        simp only [hk, Bool.false_eq_true, if_false]
        split
        · rfl
        · unfold trade
          rw [hk]
          rfl
/-! ### ways by their numbers -/
def Flr.nums (F : Flr) (p : Nat) : List Nat := (List.range F.ways.length).filter fun k => decide ((F.ways.getD k ⟨0, 0, 0, 0⟩).s = p)
def Flr.way (F : Flr) (k : Nat) : Wy := F.ways.getD k ⟨0, 0, 0, 0⟩
theorem nums_mem {F : Flr} {p k : Nat} : k ∈ F.nums p ↔ k < F.ways.length ∧ (F.way k).s = p := by
  simp [Flr.nums, Flr.way]
theorem way_some {F : Flr} {k : Nat} (h : k < F.ways.length) : F.ways[k]? = some (F.way k) := by
  unfold Flr.way
  rw [List.getD_eq_getElem?_getD, List.getElem?_eq_getElem h]
  rfl
theorem way_mem {F : Flr} {k : Nat} (h : k < F.ways.length) : F.way k ∈ F.ways := List.mem_of_getElem? (way_some h)
theorem at_nums {F : Flr} {p : Nat} {w : Wy} : w ∈ F.at p ↔ ∃ k ∈ F.nums p, F.way k = w := by
  rw [at_mem]
  constructor
  · rintro ⟨h1, h2⟩
    obtain ⟨k, hk, e⟩ := List.getElem_of_mem h1
    have : F.way k = w := by
      have := way_some hk
      rw [List.getElem?_eq_getElem hk, e] at this
      cases this
      rfl
    exact ⟨k, nums_mem.mpr ⟨hk, by rw [this]; exact h2⟩, this⟩
  · rintro ⟨k, hk, rfl⟩
    obtain ⟨h1, h2⟩ := nums_mem.mp hk
    exact ⟨way_mem h1, h2⟩
theorem ways_it (FD WD : D) (x y : Option D) (n : Int) (RG : List D) (h2 : D.ix FD (.int 2) = .ok WD) (hn : D.len WD = .ok (.int n)) (hr : rangeD 0 n = .ok RG) : evIt [(2, g_check_place)] (.range (.cons (.bi .len (.cons (.ix (.var 0) (.cst (.int 2))) .nil)) .nil)) [some FD, x, y] = .ok RG := by
  simp [runFn, env0, outD, Py.execs, Py.exec, exec_for, ev, evs, evAnd, evOr, evPart, evTests, evIt, lift, view, mask, tst, bindT, Tgt.bind, setAll, O.f, appD, extD, putD, haveL, Cop.f, Bop.f, Bi.f, divOk, powOk, mulOk, log2_small, Cst.d, D.isTy, D.lf, D.lfs, D.lfItems, R.bind_assoc, List.foldl, truth_non, truth_bl, truth_int, truth_lst, truth_tup, ix_t0, ix_t1, ix_t2, ix_t3, ix_t4, ix_l0, ix_l1, ix_l2, ix_l3, pd2_ix0, pd2_ix1, len_lst, len_tup, len_scr, ltD_int, eqD_int, eqD_bl, ne_int, ne_bl, cmpI_int, add_int, sub_int, mul_int, fdiv_int, mod_int, pow_int, shr_int, negI_int, asB_bl, asI_int, items_lst, items_tup, listOf_lst, listOf_tup, tupOf_lst, tupOf_tup, rangeOf_1, rangeOf_2, f1_1, f2_2, isNon_non, isNon_bl, isNon_int, isNon_tup, isNon_lst, h2, hn, hr]
theorem ways_lc (FD WS W : D) (p k s : Int) (x : Option D) (h2 : D.ix FD (.int 2) = .ok WS) (h3 : D.ix WS (.int k) = .ok W) (h4 : D.ix W (.int 0) = .ok (.int s)) :
    lcF (evTests [(2, g_check_place)] (.cons (.cmp .eq (.ix (.ix (.ix (.var 0) (.cst (.int 2))) (.var 2)) (.cst (.int 0))) (.var 1)) .nil)) (ev [(2, g_check_place)] (.var 2)) (.nm 2) [some FD, some (.int p), x] (.int k) = .ok (if s = p then some (.int k) else none) := by
  by_cases h : s = p
  · simp [lcF, runFn, env0, outD, Py.execs, Py.exec, exec_for, ev, evs, evAnd, evOr, evPart, evTests, evIt, lift, view, mask, tst, bindT, Tgt.bind, setAll, O.f, appD, extD, putD, haveL, Cop.f, Bop.f, Bi.f, divOk, powOk, mulOk, log2_small, Cst.d, D.isTy, D.lf, D.lfs, D.lfItems, R.bind_assoc, List.foldl, truth_non, truth_bl, truth_int, truth_lst, truth_tup, ix_t0, ix_t1, ix_t2, ix_t3, ix_t4, ix_l0, ix_l1, ix_l2, ix_l3, pd2_ix0, pd2_ix1, len_lst, len_tup, len_scr, ltD_int, eqD_int, eqD_bl, ne_int, ne_bl, cmpI_int, add_int, sub_int, mul_int, fdiv_int, mod_int, pow_int, shr_int, negI_int, asB_bl, asI_int, items_lst, items_tup, listOf_lst, listOf_tup, tupOf_lst, tupOf_tup, rangeOf_1, rangeOf_2, f1_1, f2_2, isNon_non, isNon_bl, isNon_int, isNon_tup, isNon_lst, h2, h3, h4, h]
  · simp [lcF, runFn, env0, outD, Py.execs, Py.exec, exec_for, ev, evs, evAnd, evOr, evPart, evTests, evIt, lift, view, mask, tst, bindT, Tgt.bind, setAll, O.f, appD, extD, putD, haveL, Cop.f, Bop.f, Bi.f, divOk, powOk, mulOk, log2_small, Cst.d, D.isTy, D.lf, D.lfs, D.lfItems, R.bind_assoc, List.foldl, truth_non, truth_bl, truth_int, truth_lst, truth_tup, ix_t0, ix_t1, ix_t2, ix_t3, ix_t4, ix_l0, ix_l1, ix_l2, ix_l3, pd2_ix0, pd2_ix1, len_lst, len_tup, len_scr, ltD_int, eqD_int, eqD_bl, ne_int, ne_bl, cmpI_int, add_int, sub_int, mul_int, fdiv_int, mod_int, pow_int, shr_int, negI_int, asB_bl, asI_int, items_lst, items_tup, listOf_lst, listOf_tup, tupOf_lst, tupOf_tup, rangeOf_1, rangeOf_2, f1_1, f2_2, isNon_non, isNon_bl, isNon_int, isNon_tup, isNon_lst, h2, h3, h4, h]
theorem ways_ev (FD PN RD : D) (h1 : g_check_place [FD, PN] = .ok .non) (h2 : ev [(2, g_check_place)] lc_ways_from_0 [some FD, some PN, none] = .ok RD) : g_ways_from [FD, PN] = .ok RD := by
  simp [g_ways_from, b_ways_from, runFn, env0, outD, Py.execs, Py.exec, exec_for, ev, evs, evAnd, evOr, evPart, evTests, evIt, lift, view, mask, tst, bindT, Tgt.bind, setAll, O.f, appD, extD, putD, haveL, Cop.f, Bop.f, Bi.f, divOk, powOk, mulOk, log2_small, Cst.d, D.isTy, D.lf, D.lfs, D.lfItems, R.bind_assoc, List.foldl, truth_non, truth_bl, truth_int, truth_lst, truth_tup, ix_t0, ix_t1, ix_t2, ix_t3, ix_t4, ix_l0, ix_l1, ix_l2, ix_l3, pd2_ix0, pd2_ix1, len_lst, len_tup, len_scr, ltD_int, eqD_int, eqD_bl, ne_int, ne_bl, cmpI_int, add_int, sub_int, mul_int, fdiv_int, mod_int, pow_int, shr_int, negI_int, asB_bl, asI_int, items_lst, items_tup, listOf_lst, listOf_tup, tupOf_lst, tupOf_tup, rangeOf_1, rangeOf_2, f1_1, f2_2, isNon_non, isNon_bl, isNon_int, isNon_tup, isNon_lst, h1, h2]
theorem ways_from_ok (F : Flr) (hF : F.Ok) (p : Nat) (hp : p < F.own.length) : g_ways_from [flrD F, .int p] = .ok (.lst ((F.nums p).map fun k : Nat => D.int (k : Int))) := by
  have hl := hF.few
  have e0 : (F.nums p).map (fun k : Nat => D.int (k : Int)) = (List.range F.ways.length).filterMap fun k => if ((F.way k).s : Int) = p then some (D.int (k : Int)) else none := by
    unfold Flr.nums Flr.way
    induction List.range F.ways.length with
    | nil => rfl
    | cons k ks ih =>
      by_cases h : (F.ways.getD k ⟨0, 0, 0, 0⟩).s = p
      · rw [List.filter_cons, decide_eq_true h, if_pos rfl, List.map_cons, List.filterMap_cons, if_pos (by omega), ih]
      · rw [List.filter_cons, decide_eq_false h, if_neg (by decide), List.filterMap_cons, if_neg (by omega), ih]
  refine ways_ev _ _ _ (place_ok F p hp) ?_
  rw [e0]
  refine ev_lc_fm (fun k : Nat => D.int (k : Int)) _ (List.range F.ways.length) (ways_it _ _ _ _ _ _ (flr_2 F) (len_map_tup wyD F.ways) (rangeD_nat (n := F.ways.length) (by omega))) (by simp; omega) fun k hk => ?_
  exact ways_lc _ _ _ _ _ _ _ (flr_2 F) (ways_ix (way_some (List.mem_range.mp hk))) (wy_0 (F.way k))
def wayW (F : Flr) (h : Nat → Pr → Bool) (p : Nat) (pr : Pr) : Option Nat := (F.nums p).find? fun k => leads F h pr (F.way k)
theorem wayW_body (FD TD PN PD WS WD W : D) (k e : Int) (A BD : D) (x : Bool) (h2 : D.ix FD (.int 2) = .ok WS) (hw : D.ix WS (.int k) = .ok W) (ha : g_after [FD, PD, W] = .ok A) (y : Option D) (z : Option D) (h1 : D.ix W (.int 1) = .ok (.int e)) (h3 : D.ix TD (.int e) = .ok BD) (hx : A.isNon = false → g_holds [BD, A] = .ok (.bl x)) (hn : A.isNon = true → x = false) :
    Py.execs [(2, g_ways_from), (3, g_after), (2, g_holds)] [] L_way_within_0 [some FD, some TD, some PN, some PD, some (.int k), y, z] = if x then .ok (.rt (.int k)) else .ok (.nx [some FD, some TD, some PN, some PD, some (.int k), some W, some A]) := by
  cases ho : A.isNon with
  | true =>
    rw [hn ho]
    simp [L_way_within_0, runFn, env0, outD, Py.execs, Py.exec, exec_for, ev, evs, evAnd, evOr, evPart, evTests, evIt, lift, view, mask, tst, bindT, Tgt.bind, setAll, O.f, appD, extD, putD, haveL, Cop.f, Bop.f, Bi.f, divOk, powOk, mulOk, log2_small, Cst.d, D.isTy, D.lf, D.lfs, D.lfItems, R.bind_assoc, List.foldl, truth_non, truth_bl, truth_int, truth_lst, truth_tup, ix_t0, ix_t1, ix_t2, ix_t3, ix_t4, ix_l0, ix_l1, ix_l2, ix_l3, pd2_ix0, pd2_ix1, len_lst, len_tup, len_scr, ltD_int, eqD_int, eqD_bl, ne_int, ne_bl, cmpI_int, add_int, sub_int, mul_int, fdiv_int, mod_int, pow_int, shr_int, negI_int, asB_bl, asI_int, items_lst, items_tup, listOf_lst, listOf_tup, tupOf_lst, tupOf_tup, rangeOf_1, rangeOf_2, f1_1, f2_2, isNon_non, isNon_bl, isNon_int, isNon_tup, isNon_lst, h2, hw, ha, ho]
  | false =>
    have hx := hx ho
    cases x <;> simp [L_way_within_0, runFn, env0, outD, Py.execs, Py.exec, exec_for, ev, evs, evAnd, evOr, evPart, evTests, evIt, lift, view, mask, tst, bindT, Tgt.bind, setAll, O.f, appD, extD, putD, haveL, Cop.f, Bop.f, Bi.f, divOk, powOk, mulOk, log2_small, Cst.d, D.isTy, D.lf, D.lfs, D.lfItems, R.bind_assoc, List.foldl, truth_non, truth_bl, truth_int, truth_lst, truth_tup, ix_t0, ix_t1, ix_t2, ix_t3, ix_t4, ix_l0, ix_l1, ix_l2, ix_l3, pd2_ix0, pd2_ix1, len_lst, len_tup, len_scr, ltD_int, eqD_int, eqD_bl, ne_int, ne_bl, cmpI_int, add_int, sub_int, mul_int, fdiv_int, mod_int, pow_int, shr_int, negI_int, asB_bl, asI_int, items_lst, items_tup, listOf_lst, listOf_tup, tupOf_lst, tupOf_tup, rangeOf_1, rangeOf_2, f1_1, f2_2, isNon_non, isNon_bl, isNon_int, isNon_tup, isNon_lst, h2, hw, ha, ho, h1, h3, hx]
theorem wayW_ev (FD TD PN PD : D) (RG : List D) (o : Option D) (hw : g_ways_from [FD, PN] = .ok (.lst RG)) (e : (∀ d, o = some d → forGo (.nm 4) (Py.execs [(2, g_ways_from), (3, g_after), (2, g_holds)] [] L_way_within_0) RG [some FD, some TD, some PN, some PD, none, none, none] = .ok (.rt d)) ∧ (o = none → ∃ x y z, forGo (.nm 4) (Py.execs [(2, g_ways_from), (3, g_after), (2, g_holds)] [] L_way_within_0) RG [some FD, some TD, some PN, some PD, none, none, none] = .ok (.nx [some FD, some TD, some PN, some PD, x, y, z]))) :
    g_way_within [FD, TD, PN, PD] = .ok (o.getD .non) := by
  cases o with
  | none =>
    obtain ⟨x, y, z, e1⟩ := e.2 rfl
    simp [g_way_within, b_way_within, runFn, env0, outD, Py.execs, Py.exec, exec_for, ev, evs, evAnd, evOr, evPart, evTests, evIt, lift, view, mask, tst, bindT, Tgt.bind, setAll, O.f, appD, extD, putD, haveL, Cop.f, Bop.f, Bi.f, divOk, powOk, mulOk, log2_small, Cst.d, D.isTy, D.lf, D.lfs, D.lfItems, R.bind_assoc, List.foldl, truth_non, truth_bl, truth_int, truth_lst, truth_tup, ix_t0, ix_t1, ix_t2, ix_t3, ix_t4, ix_l0, ix_l1, ix_l2, ix_l3, pd2_ix0, pd2_ix1, len_lst, len_tup, len_scr, ltD_int, eqD_int, eqD_bl, ne_int, ne_bl, cmpI_int, add_int, sub_int, mul_int, fdiv_int, mod_int, pow_int, shr_int, negI_int, asB_bl, asI_int, items_lst, items_tup, listOf_lst, listOf_tup, tupOf_lst, tupOf_tup, rangeOf_1, rangeOf_2, f1_1, f2_2, isNon_non, isNon_bl, isNon_int, isNon_tup, isNon_lst, hw, e1]
  | some d =>
    have e1 := e.1 d rfl
    simp [g_way_within, b_way_within, runFn, env0, outD, Py.execs, Py.exec, exec_for, ev, evs, evAnd, evOr, evPart, evTests, evIt, lift, view, mask, tst, bindT, Tgt.bind, setAll, O.f, appD, extD, putD, haveL, Cop.f, Bop.f, Bi.f, divOk, powOk, mulOk, log2_small, Cst.d, D.isTy, D.lf, D.lfs, D.lfItems, R.bind_assoc, List.foldl, truth_non, truth_bl, truth_int, truth_lst, truth_tup, ix_t0, ix_t1, ix_t2, ix_t3, ix_t4, ix_l0, ix_l1, ix_l2, ix_l3, pd2_ix0, pd2_ix1, len_lst, len_tup, len_scr, ltD_int, eqD_int, eqD_bl, ne_int, ne_bl, cmpI_int, add_int, sub_int, mul_int, fdiv_int, mod_int, pow_int, shr_int, negI_int, asB_bl, asI_int, items_lst, items_tup, listOf_lst, listOf_tup, tupOf_lst, tupOf_tup, rangeOf_1, rangeOf_2, f1_1, f2_2, isNon_non, isNon_bl, isNon_int, isNon_tup, isNon_lst, hw, e1]
theorem way_within_ok (F : Flr) (hF : F.Ok) (bs : List (List Pr)) (hb : bs.length = F.own.length) (p : Nat) (hp : p < F.own.length) (pr : Pr) : g_way_within [flrD F, tellD bs, .int p, pd2 pr] = .ok (optN (wayW F (fun q r => hld (bs.getD q []) r) p pr)) := by
  have e := forGo_first (t := .nm 4) (body := Py.execs [(2, g_ways_from), (3, g_after), (2, g_holds)] [] L_way_within_0) (enc := fun k : Nat => D.int (k : Int)) (fun ρ => ∃ x y z, ρ = [some (flrD F), some (tellD bs), some (.int p), some (pd2 pr), x, y, z]) (fun k : Nat => if leads F (fun q r => hld (bs.getD q []) r) pr (F.way k) then some (D.int (k : Int)) else none) (F.nums p) (fun k hk ρ hρ => by
    obtain ⟨x, y, z, rfl⟩ := hρ
    have hk := (nums_mem.mp hk).1
    have hwe := (hF.ends _ (way_mem hk)).2
    have b := wayW_body (flrD F) (tellD bs) (.int p) (pd2 pr) _ (.non) _ k _ _ _ (leads F (fun q r => hld (bs.getD q []) r) pr (F.way k)) (flr_2 F) (ways_ix (way_some hk)) (after_ok F pr (F.way k)) y z (wy_1 _) (tell_ix (by omega)) (fun hA => by
      unfold leads
      cases hb : behind F pr (F.way k) with
      | none => rw [hb] at hA; cases hA
      | some q => exact holdsB_ok _ q) (fun hA => by
      unfold leads
      cases hb : behind F pr (F.way k) with
      | none => rfl
      | some q => rw [hb] at hA; cases hA)
    refine ⟨_, rfl, fun v hv => ?_, fun hn => ⟨[some (flrD F), some (tellD bs), some (.int p), some (pd2 pr), some (.int k), some (wyD (F.way k)), some (optP (behind F pr (F.way k)))], .inl ?_, _, _, _, rfl⟩⟩
    · cases hl : leads F (fun q r => hld (bs.getD q []) r) pr (F.way k) <;> rw [hl] at hv b <;> cases hv
      exact b
    · cases hl : leads F (fun q r => hld (bs.getD q []) r) pr (F.way k) <;> rw [hl] at hn b <;> cases hn
      exact b) [some (flrD F), some (tellD bs), some (.int p), some (pd2 pr), none, none, none] ⟨none, none, none, rfl⟩
  rw [findSome_find] at e
  rw [optN_get]
  refine wayW_ev _ _ _ _ _ _ (ways_from_ok F hF p hp) ⟨e.1, fun hn => ?_⟩
  obtain ⟨ρ', e1, x, y, z, rfl⟩ := e.2 hn
  exact ⟨x, y, z, e1⟩
/-! ### deeds -/
theorem trade_0 {F : Flr} {s : St} {pr : Pr} (hi : F.In pr) : trade F s pr 0 = pr := by
  obtain ⟨a, b, c, d⟩ := hi
  unfold trade
  split <;> refine Prod.ext ?_ ?_ <;> simp <;> omega
theorem tradeO_some {F : Flr} {s : St} {pr : Pr} {t : Nat} (hi : F.In pr) (hg : 1 ≤ s.give) (ht : t < tradesN s pr + 1) : tradeO F (some s) pr t = some (trade F s pr t) := by
  unfold tradeO
  by_cases h0 : t = 0
  · rw [if_pos h0, h0, trade_0 hi]
  · rw [if_neg h0]
    have := (div_le_iff hg).mp ht
    have c := Int.natCast_mul t s.give
    obtain ⟨a1, b1, c1, d1⟩ := hi
    simp only
    rw [if_neg]
    cases hk : s.k <;> simp only [hk, if_true, Bool.false_eq_true, if_false] at this ⊢ <;> omega
theorem tradeO_none {F : Flr} {s : St} {pr : Pr} {t : Nat} (hi : F.In pr) (hg : 1 ≤ s.give) (ht : ¬ t < tradesN s pr + 1) : tradeO F (some s) pr t = none := by
  unfold tradeO
  by_cases h0 : t = 0
  · omega
  · rw [if_neg h0]
    have := mt (div_le_iff hg).mpr ht
    have c := Int.natCast_mul t s.give
    obtain ⟨a1, b1, c1, d1⟩ := hi
    simp only
    rw [if_pos]
    cases hk : s.k <;> simp only [hk, if_true, Bool.false_eq_true, if_false] at this ⊢ <;> omega
/-- how many changes can be done -/
def chgs (F : Flr) (p : Nat) (pr : Pr) : Nat := match F.stall p with
  | none => 0
  | some s => tradesN s pr
def chg (F : Flr) (p : Nat) (pr : Pr) (t : Nat) : Pr := match F.stall p with
  | none => pr
  | some s => trade F s pr t
theorem tradeO_chg {F : Flr} (hF : F.Ok) {p : Nat} {pr : Pr} (hi : F.In pr) (t : Nat) : tradeO F (F.stall p) pr t = if t ≤ chgs F p pr then some (chg F p pr t) else none := by
  unfold chgs chg
  cases hs : F.stall p with
  | none =>
    unfold tradeO
    by_cases h0 : t = 0
    · simp [h0]
    · simp [h0]
  | some s =>
    have hg := (hF.st s (stall_mem hs).1).2.2.1
    simp only
    by_cases h : t < tradesN s pr + 1
    · rw [tradeO_some hi hg h, if_pos (by omega)]
    · rw [tradeO_none hi hg h, if_neg (by omega)]
theorem trades_chg (F : Flr) (p : Nat) (pr : Pr) : trades F p pr = (List.range (chgs F p pr + 1)).map (chg F p pr) := by
  unfold trades chgs chg
  cases F.stall p with
  | none => rfl
  | some s => rfl
theorem chgs_le {F : Flr} (hF : F.Ok) {p : Nat} {pr : Pr} (hi : F.In pr) : chgs F p pr ≤ 12 := by
  unfold chgs
  cases hs : F.stall p with
  | none => simp
  | some s =>
    simp only
    unfold tradesN
    obtain ⟨a, b, c, d⟩ := hi
    have := hF.b0
    have := hF.b1
    refine Nat.le_trans (Nat.div_le_self _ _) ?_
    split <;> omega
theorem chg_0 {F : Flr} {p : Nat} {pr : Pr} (hi : F.In pr) : chg F p pr 0 = pr := by
  unfold chg
  cases F.stall p with
  | none => rfl
  | some s => exact trade_0 hi
theorem chg_in {F : Flr} (hF : F.Ok) {p : Nat} {pr : Pr} (hi : F.In pr) {t : Nat} (ht : t ≤ chgs F p pr) : F.In (chg F p pr t) := by
  refine trades_in hF hi (p := p) ?_
  rw [trades_chg]
  exact List.mem_map.mpr ⟨t, List.mem_range.mpr (by omega), rfl⟩
def deedW (F : Flr) (h : Nat → Pr → Bool) (p : Nat) (pr : Pr) : Option (Nat × Nat) := (List.range (chgs F p pr + 1)).findSome? fun t => (wayW F h p (chg F p pr t)).map fun k => (t, k)
def optD : Option (Nat × Nat) → D
  | none => .non
  | some d => .tup [.int d.1, .int d.2]
abbrev fsD : Fns := [(2, g_stall_at), (4, g_way_within), (4, g_traded)]
theorem deed_body (FD TD PN PD SD HD WD ND : D) (t : Int) (z : Option D) (hw : g_way_within [FD, TD, PN, HD] = .ok WD) (ht : WD.isNon = true → g_traded [FD, SD, PD, .int (t + 1)] = .ok ND) : Py.execs fsD [] L_deed_within_0 [some FD, some TD, some PN, some PD, some SD, some (.int t), some HD, z] =
    if WD.isNon then .ok (.nx [some FD, some TD, some PN, some PD, some SD, some (.int (t + 1)), some ND, some WD]) else .ok (.rt (.tup [.int t, WD])) := by
  cases h : WD.isNon with
  | true =>
    have ht := ht h
    simp [L_deed_within_0, runFn, env0, outD, Py.execs, Py.exec, exec_for, ev, evs, evAnd, evOr, evPart, evTests, evIt, lift, view, mask, tst, bindT, Tgt.bind, setAll, O.f, appD, extD, putD, haveL, Cop.f, Bop.f, Bi.f, divOk, powOk, mulOk, log2_small, Cst.d, D.isTy, D.lf, D.lfs, D.lfItems, R.bind_assoc, List.foldl, truth_non, truth_bl, truth_int, truth_lst, truth_tup, ix_t0, ix_t1, ix_t2, ix_t3, ix_t4, ix_l0, ix_l1, ix_l2, ix_l3, pd2_ix0, pd2_ix1, len_lst, len_tup, len_scr, ltD_int, eqD_int, eqD_bl, ne_int, ne_bl, cmpI_int, add_int, sub_int, mul_int, fdiv_int, mod_int, pow_int, shr_int, negI_int, asB_bl, asI_int, items_lst, items_tup, listOf_lst, listOf_tup, tupOf_lst, tupOf_tup, rangeOf_1, rangeOf_2, f1_1, f2_2, isNon_non, isNon_bl, isNon_int, isNon_tup, isNon_lst, hw, h, ht]
  | false => simp [L_deed_within_0, runFn, env0, outD, Py.execs, Py.exec, exec_for, ev, evs, evAnd, evOr, evPart, evTests, evIt, lift, view, mask, tst, bindT, Tgt.bind, setAll, O.f, appD, extD, putD, haveL, Cop.f, Bop.f, Bi.f, divOk, powOk, mulOk, log2_small, Cst.d, D.isTy, D.lf, D.lfs, D.lfItems, R.bind_assoc, List.foldl, truth_non, truth_bl, truth_int, truth_lst, truth_tup, ix_t0, ix_t1, ix_t2, ix_t3, ix_t4, ix_l0, ix_l1, ix_l2, ix_l3, pd2_ix0, pd2_ix1, len_lst, len_tup, len_scr, ltD_int, eqD_int, eqD_bl, ne_int, ne_bl, cmpI_int, add_int, sub_int, mul_int, fdiv_int, mod_int, pow_int, shr_int, negI_int, asB_bl, asI_int, items_lst, items_tup, listOf_lst, listOf_tup, tupOf_lst, tupOf_tup, rangeOf_1, rangeOf_2, f1_1, f2_2, isNon_non, isNon_bl, isNon_int, isNon_tup, isNon_lst, hw, h]
theorem deed_tst (M : List Nat) (a b c d e f HD : D) (z : Option D) : (fun ρ => tst fsD (.isn true (.var 6)) (view [] false ρ)) [some a, some b, some c, some d, some e, some f, some HD, z] = .ok (!HD.isNon) := by
  simp [runFn, env0, outD, Py.execs, Py.exec, exec_for, ev, evs, evAnd, evOr, evPart, evTests, evIt, lift, view, mask, tst, bindT, Tgt.bind, setAll, O.f, appD, extD, putD, haveL, Cop.f, Bop.f, Bi.f, divOk, powOk, mulOk, log2_small, Cst.d, D.isTy, D.lf, D.lfs, D.lfItems, R.bind_assoc, List.foldl, truth_non, truth_bl, truth_int, truth_lst, truth_tup, ix_t0, ix_t1, ix_t2, ix_t3, ix_t4, ix_l0, ix_l1, ix_l2, ix_l3, pd2_ix0, pd2_ix1, len_lst, len_tup, len_scr, ltD_int, eqD_int, eqD_bl, ne_int, ne_bl, cmpI_int, add_int, sub_int, mul_int, fdiv_int, mod_int, pow_int, shr_int, negI_int, asB_bl, asI_int, items_lst, items_tup, listOf_lst, listOf_tup, tupOf_lst, tupOf_tup, rangeOf_1, rangeOf_2, f1_1, f2_2, isNon_non, isNon_bl, isNon_int, isNon_tup, isNon_lst]
theorem deed_while (F : Flr) (hF : F.Ok) (bs : List (List Pr)) (hb : bs.length = F.own.length) (p : Nat) (hp : p < F.own.length) (pr : Pr) (hi : F.In pr) : ∀ (n t : Nat) (z : Option D), t + n = chgs F p pr + 1 →
    (∀ d, ((List.range n).findSome? fun i => (wayW F (fun q r => hld (bs.getD q []) r) p (chg F p pr (t + i))).map fun k => (t + i, k)) = some d → whileN (fun ρ => tst fsD (.isn true (.var 6)) (view [] false ρ)) (Py.execs fsD [] L_deed_within_0) (99000 + n) [some (flrD F), some (tellD bs), some (.int p), some (pd2 pr), some (optS (F.stall p)), some (.int t), some (optP (tradeO F (F.stall p) pr t)), z] = .ok (.rt (optD (some d)))) ∧
    (((List.range n).findSome? fun i => (wayW F (fun q r => hld (bs.getD q []) r) p (chg F p pr (t + i))).map fun k => (t + i, k)) = none → ∃ ρ', whileN (fun ρ => tst fsD (.isn true (.var 6)) (view [] false ρ)) (Py.execs fsD [] L_deed_within_0) (99000 + n) [some (flrD F), some (tellD bs), some (.int p), some (pd2 pr), some (optS (F.stall p)), some (.int t), some (optP (tradeO F (F.stall p) pr t)), z] = .ok (.nx ρ'))
  | 0, t, z, h => by
    have e : tradeO F (F.stall p) pr t = none := by rw [tradeO_chg hF hi, if_neg (by omega)]
    rw [e]
    refine ⟨fun d hd => by simp at hd, fun _ => ⟨_, whileN_no (n := 98999) (deed_tst [] _ _ _ _ _ _ .non z)⟩⟩
  | n + 1, t, z, h => by
    have hc := chgs_le hF (p := p) hi
    have e : tradeO F (F.stall p) pr t = some (chg F p pr t) := by rw [tradeO_chg hF hi, if_pos (by omega)]
    have hst : ∀ s, F.stall p = some s → s.give ≤ 1000 ∧ s.get ≤ 1000 := fun s hs => by
      obtain ⟨_, _, _, h1, h2⟩ := hF.st s (stall_mem hs).1
      omega
    have b := deed_body (flrD F) (tellD bs) (.int p) (pd2 pr) (optS (F.stall p)) (pd2 (chg F p pr t)) _ (optP (tradeO F (F.stall p) pr (t + 1))) t z (way_within_ok F hF bs hb p hp (chg F p pr t)) (fun _ => traded_ok F (F.stall p) pr (t + 1) hst (by omega))
    have hT : (fun ρ => tst fsD (.isn true (.var 6)) (view [] false ρ)) [some (flrD F), some (tellD bs), some (.int p), some (pd2 pr), some (optS (F.stall p)), some (.int t), some (pd2 (chg F p pr t)), z] = .ok true := deed_tst [] _ _ _ _ _ _ _ z
    rw [e]
    show (∀ d, _ → whileN _ _ (99000 + n + 1) [some (flrD F), some (tellD bs), some (.int p), some (pd2 pr), some (optS (F.stall p)), some (.int t), some (pd2 (chg F p pr t)), z] = _) ∧ (_ → ∃ ρ', whileN _ _ (99000 + n + 1) [some (flrD F), some (tellD bs), some (.int p), some (pd2 pr), some (optS (F.stall p)), some (.int t), some (pd2 (chg F p pr t)), z] = _)
    have eT : ((t : Int) + 1) = ((t + 1 : Nat) : Int) := by omega
    cases hw : wayW F (fun q r => hld (bs.getD q []) r) p (chg F p pr t) with
    | some k =>
      rw [hw] at b
      have b : Py.execs fsD [] L_deed_within_0 _ = .ok (.rt (.tup [.int t, .int k])) := b
      have ef : ((List.range (n + 1)).findSome? fun i => (wayW F (fun q r => hld (bs.getD q []) r) p (chg F p pr (t + i))).map fun k => (t + i, k)) = some (t, k) := by
        rw [List.range_succ_eq_map, List.findSome?_cons, Nat.add_zero, hw]
        rfl
      rw [ef]
      refine ⟨fun d hd => ?_, fun hd => by cases hd⟩
      cases hd
      exact whileN_rt hT b
    | none =>
      rw [hw] at b
      have b : Py.execs fsD [] L_deed_within_0 _ = .ok (.nx [some (flrD F), some (tellD bs), some (.int p), some (pd2 pr), some (optS (F.stall p)), some (.int ((t : Int) + 1)), some (optP (tradeO F (F.stall p) pr (t + 1))), some .non]) := b
      rw [eT] at b
      have ef : ((List.range (n + 1)).findSome? fun i => (wayW F (fun q r => hld (bs.getD q []) r) p (chg F p pr (t + i))).map fun k => (t + i, k)) = ((List.range n).findSome? fun i => (wayW F (fun q r => hld (bs.getD q []) r) p (chg F p pr (t + 1 + i))).map fun k => (t + 1 + i, k)) := by
        rw [List.range_succ_eq_map, List.findSome?_cons, Nat.add_zero, hw]
        show (List.map Nat.succ (List.range n)).findSome? _ = _
        rw [List.findSome?_map]
        congr 1
        funext i
        show (wayW F _ p (chg F p pr (t + (i + 1)))).map _ = _
        rw [show t + (i + 1) = t + 1 + i by omega]
      rw [ef]
      obtain ⟨i1, i2⟩ := deed_while F hF bs hb p hp pr hi n (t + 1) (some .non) (by omega)
      refine ⟨fun d hd => ?_, fun hd => ?_⟩
      · exact (whileN_nx hT b).trans (i1 d hd)
      · obtain ⟨ρ', e1⟩ := i2 hd
        exact ⟨ρ', (whileN_nx hT b).trans e1⟩
theorem whileN_more {c : Env → R Bool} {body : Env → R Fl} : ∀ {n m : Nat} {ρ : Env} {r : Fl}, whileN c body n ρ = .ok r → whileN c body (n + m) ρ = .ok r
  | 0, m, ρ, r, h => by cases h
  | n + 1, m, ρ, r, h => by
    rw [show n + 1 + m = (n + m) + 1 by omega]
    rw [whileN] at h ⊢
    cases hc : c ρ with
    | ok k =>
      rw [hc] at h
      cases k with
      | false => exact h
      | true =>
        have h : (match body ρ with | .ok (.nx ρ') => whileN c body n ρ' | .ok (.ct ρ') => whileN c body n ρ' | .ok (.bk ρ') => .ok (.nx ρ') | r => r) = .ok r := h
        show (match body ρ with | .ok (.nx ρ') => whileN c body (n + m) ρ' | .ok (.ct ρ') => whileN c body (n + m) ρ' | .ok (.bk ρ') => .ok (.nx ρ') | r => r) = .ok r
        cases hb : body ρ with
        | ok f =>
          rw [hb] at h
          cases f with
          | nx ρ' => exact whileN_more (n := n) h
          | ct ρ' => exact whileN_more (n := n) h
          | bk ρ' => exact h
          | rt d => exact h
          | xc x ρ' => exact h
        | exc x => rw [hb] at h; exact h
        | stuck => rw [hb] at h; exact h
    | exc x => rw [hc] at h; exact h
    | stuck => rw [hc] at h; exact h
theorem deed_ev (FD TD PN PD SD d : D) (o : Option D) (hs : g_stall_at [FD, PN] = .ok SD) (e : (∀ d, o = some d → whileN (fun ρ => tst fsD (.isn true (.var 6)) (view [] false ρ)) (Py.execs fsD [] L_deed_within_0) 100000 [some FD, some TD, some PN, some PD, some SD, some (.int 0), some PD, none] = .ok (.rt d)) ∧ (o = none → ∃ ρ', whileN (fun ρ => tst fsD (.isn true (.var 6)) (view [] false ρ)) (Py.execs fsD [] L_deed_within_0) 100000 [some FD, some TD, some PN, some PD, some SD, some (.int 0), some PD, none] = .ok (.nx ρ'))) : g_deed_within [FD, TD, PN, PD] = .ok (o.getD .non) := by
  show outD (Py.execs fsD [] b_deed_within [some FD, some TD, some PN, some PD, none, none, none, none]) = _
  unfold b_deed_within
  rw [execs_cons (ρ' := [some FD, some TD, some PN, some PD, some SD, none, none, none]) (by simp [runFn, env0, outD, Py.execs, Py.exec, exec_for, ev, evs, evAnd, evOr, evPart, evTests, evIt, lift, view, mask, tst, bindT, Tgt.bind, setAll, O.f, appD, extD, putD, haveL, Cop.f, Bop.f, Bi.f, divOk, powOk, mulOk, log2_small, Cst.d, D.isTy, D.lf, D.lfs, D.lfItems, R.bind_assoc, List.foldl, truth_non, truth_bl, truth_int, truth_lst, truth_tup, ix_t0, ix_t1, ix_t2, ix_t3, ix_t4, ix_l0, ix_l1, ix_l2, ix_l3, pd2_ix0, pd2_ix1, len_lst, len_tup, len_scr, ltD_int, eqD_int, eqD_bl, ne_int, ne_bl, cmpI_int, add_int, sub_int, mul_int, fdiv_int, mod_int, pow_int, shr_int, negI_int, asB_bl, asI_int, items_lst, items_tup, listOf_lst, listOf_tup, tupOf_lst, tupOf_tup, rangeOf_1, rangeOf_2, f1_1, f2_2, isNon_non, isNon_bl, isNon_int, isNon_tup, isNon_lst, hs]), execs_cons (ρ' := [some FD, some TD, some PN, some PD, some SD, some (.int 0), none, none]) (by simp [runFn, env0, outD, Py.execs, Py.exec, exec_for, ev, evs, evAnd, evOr, evPart, evTests, evIt, lift, view, mask, tst, bindT, Tgt.bind, setAll, O.f, appD, extD, putD, haveL, Cop.f, Bop.f, Bi.f, divOk, powOk, mulOk, log2_small, Cst.d, D.isTy, D.lf, D.lfs, D.lfItems, R.bind_assoc, List.foldl, truth_non, truth_bl, truth_int, truth_lst, truth_tup, ix_t0, ix_t1, ix_t2, ix_t3, ix_t4, ix_l0, ix_l1, ix_l2, ix_l3, pd2_ix0, pd2_ix1, len_lst, len_tup, len_scr, ltD_int, eqD_int, eqD_bl, ne_int, ne_bl, cmpI_int, add_int, sub_int, mul_int, fdiv_int, mod_int, pow_int, shr_int, negI_int, asB_bl, asI_int, items_lst, items_tup, listOf_lst, listOf_tup, tupOf_lst, tupOf_tup, rangeOf_1, rangeOf_2, f1_1, f2_2, isNon_non, isNon_bl, isNon_int, isNon_tup, isNon_lst]), execs_cons (ρ' := [some FD, some TD, some PN, some PD, some SD, some (.int 0), some PD, none]) (by simp [runFn, env0, outD, Py.execs, Py.exec, exec_for, ev, evs, evAnd, evOr, evPart, evTests, evIt, lift, view, mask, tst, bindT, Tgt.bind, setAll, O.f, appD, extD, putD, haveL, Cop.f, Bop.f, Bi.f, divOk, powOk, mulOk, log2_small, Cst.d, D.isTy, D.lf, D.lfs, D.lfItems, R.bind_assoc, List.foldl, truth_non, truth_bl, truth_int, truth_lst, truth_tup, ix_t0, ix_t1, ix_t2, ix_t3, ix_t4, ix_l0, ix_l1, ix_l2, ix_l3, pd2_ix0, pd2_ix1, len_lst, len_tup, len_scr, ltD_int, eqD_int, eqD_bl, ne_int, ne_bl, cmpI_int, add_int, sub_int, mul_int, fdiv_int, mod_int, pow_int, shr_int, negI_int, asB_bl, asI_int, items_lst, items_tup, listOf_lst, listOf_tup, tupOf_lst, tupOf_tup, rangeOf_1, rangeOf_2, f1_1, f2_2, isNon_non, isNon_bl, isNon_int, isNon_tup, isNon_lst])]
  cases o with
  | none =>
    obtain ⟨ρ', e1⟩ := e.2 rfl
    rw [execs_cons (ρ' := ρ') (by rw [Py.exec]; exact e1)]
    simp [runFn, env0, outD, Py.execs, Py.exec, exec_for, ev, evs, evAnd, evOr, evPart, evTests, evIt, lift, view, mask, tst, bindT, Tgt.bind, setAll, O.f, appD, extD, putD, haveL, Cop.f, Bop.f, Bi.f, divOk, powOk, mulOk, log2_small, Cst.d, D.isTy, D.lf, D.lfs, D.lfItems, R.bind_assoc, List.foldl, truth_non, truth_bl, truth_int, truth_lst, truth_tup, ix_t0, ix_t1, ix_t2, ix_t3, ix_t4, ix_l0, ix_l1, ix_l2, ix_l3, pd2_ix0, pd2_ix1, len_lst, len_tup, len_scr, ltD_int, eqD_int, eqD_bl, ne_int, ne_bl, cmpI_int, add_int, sub_int, mul_int, fdiv_int, mod_int, pow_int, shr_int, negI_int, asB_bl, asI_int, items_lst, items_tup, listOf_lst, listOf_tup, tupOf_lst, tupOf_tup, rangeOf_1, rangeOf_2, f1_1, f2_2, isNon_non, isNon_bl, isNon_int, isNon_tup, isNon_lst]
  | some d =>
    have e1 := e.1 d rfl
    rw [execs_rt (d := d) (by rw [Py.exec]; exact e1)]
    rfl
theorem optD_get (o : Option (Nat × Nat)) : optD o = (o.map fun d => optD (some d)).getD .non := by cases o <;> rfl
theorem deed_ok (F : Flr) (hF : F.Ok) (bs : List (List Pr)) (hb : bs.length = F.own.length) (p : Nat) (hp : p < F.own.length) (pr : Pr) (hi : F.In pr) : g_deed_within [flrD F, tellD bs, .int p, pd2 pr] = .ok (optD (deedW F (fun q r => hld (bs.getD q []) r) p pr)) := by
  have hc := chgs_le hF (p := p) hi
  have key := deed_while F hF bs hb p hp pr hi (chgs F p pr + 1) 0 none (by omega)
  have e0 : tradeO F (F.stall p) pr 0 = some pr := by rw [tradeO_chg hF hi, if_pos (by omega), chg_0 hi]
  rw [e0] at key
  obtain ⟨m, hm⟩ : ∃ m, 99000 + (chgs F p pr + 1) + m = 100000 := ⟨999 - chgs F p pr, by omega⟩
  have more := @whileN_more
  have ed : ((List.range (chgs F p pr + 1)).findSome? fun i => (wayW F (fun q r => hld (bs.getD q []) r) p (chg F p pr (0 + i))).map fun k => (0 + i, k)) = deedW F (fun q r => hld (bs.getD q []) r) p pr := by
    unfold deedW
    congr 1
    funext i
    rw [Nat.zero_add]
  rw [ed] at key
  rw [optD_get]
  refine deed_ev _ _ _ _ _ .non _ (stall_ok F p hp) ⟨fun d hd => ?_, fun hn => ?_⟩
  · cases ho : deedW F (fun q r => hld (bs.getD q []) r) p pr with
    | none => rw [ho] at hd; cases hd
    | some d' =>
      rw [ho] at hd
      cases hd
      have := more (m := m) (key.1 d' ho)
      rw [hm] at this
      exact this
  · cases ho : deedW F (fun q r => hld (bs.getD q []) r) p pr with
    | some d' => rw [ho] at hn; cases hn
    | none =>
      obtain ⟨ρ', e1⟩ := key.2 ho
      have := more (m := m) e1
      rw [hm] at this
      exact ⟨ρ', this⟩
end Py

namespace Py
open PySem PySem.Spec PyProof.Rows L2
/-! ## the program: the table, deeds, ways -/
theorem wayW_some {F : Flr} {h : Nat → Pr → Bool} {p k : Nat} {pr : Pr} (e : wayW F h p pr = some k) : k ∈ F.nums p ∧ leads F h pr (F.way k) = true :=
  by
  unfold wayW at e
  refine ⟨List.mem_of_find?_eq_some e, ?_⟩
  have := List.find?_some e
  exact this
theorem wayW_none {F : Flr} {h : Nat → Pr → Bool} {p : Nat} {pr : Pr} (e : wayW F h p pr = none) : (F.at p).any (leads F h pr) = false := by
  rw [List.any_eq_false]
  intro w hw
  obtain ⟨k, hk, rfl⟩ := at_nums.mp hw
  exact List.find?_eq_none.mp e k hk
theorem deedW_some {F : Flr} {h : Nat → Pr → Bool} {p : Nat} {pr : Pr} {d : Nat × Nat} (e : deedW F h p pr = some d) : d.1 ≤ chgs F p pr ∧ d.2 ∈ F.nums p ∧ leads F h (chg F p pr d.1) (F.way d.2) = true := by
  unfold deedW at e
  obtain ⟨t, ht, e2⟩ := List.exists_of_findSome?_eq_some e
  cases hw : wayW F h p (chg F p pr t) with
  | none => rw [hw] at e2; cases e2
  | some k =>
    rw [hw] at e2
    cases e2
    obtain ⟨h1, h2⟩ := wayW_some hw
    refine ⟨?_, h1, h2⟩
    have := List.mem_range.mp ht
    show t ≤ _
    omega
theorem deedW_goes {F : Flr} {h : Nat → Pr → Bool} {p : Nat} {pr : Pr} (ho : F.own.getD p false = true) (e : goes F h p pr = true) : ∃ d, deedW F h p pr = some d := by
  cases hd : deedW F h p pr with
  | some d => exact ⟨d, rfl⟩
  | none =>
    unfold deedW at hd
    rw [List.findSome?_eq_none_iff] at hd
    unfold goes at e
    rw [ho, if_pos rfl, trades_chg, List.any_map, List.any_eq_true] at e
    obtain ⟨t, ht, e⟩ := e
    have h1 := hd t ht
    cases hw : wayW F h p (chg F p pr t) with
    | some k => rw [hw] at h1; cases h1
    | none =>
      have := wayW_none hw
      rw [Function.comp_apply] at e
      rw [this] at e
      cases e
theorem goes_deedW {F : Flr} {h : Nat → Pr → Bool} {p : Nat} {pr : Pr} (ho : F.own.getD p false = true) {d : Nat × Nat} (e : deedW F h p pr = some d) : goes F h p pr = true := by
  obtain ⟨h1, h2, h3⟩ := deedW_some e
  unfold goes
  rw [ho, if_pos rfl, trades_chg, List.any_map, List.any_eq_true]
  exact ⟨d.1, List.mem_range.mpr (by omega), List.any_eq_true.mpr ⟨F.way d.2, at_nums.mpr ⟨d.2, h2, rfl⟩, h3⟩⟩
/-- what the borders told hold -/
noncomputable abbrev hB (F : Flr) : Nat → Pr → Bool := fun q r => hld ((bds F).getD q []) r
theorem hB_hw (F : Flr) (hF : F.Ok) {q : Nat} (hq : q < F.own.length) {r : Pr} (hr : F.In r) : hB F q r = hw F q r := by
  unfold hB
  rw [bds_at F hF hq, hld_bd F hF hq hr]
theorem goes_hB (F : Flr) (hF : F.Ok) {p : Nat} (hp : p < F.own.length) {pr : Pr} (hi : F.In pr) : goes F (hB F) p pr = hw F p pr := by
  rw [hw_goes F hF hp hi]
  exact goes_congr hF (fun q hq r hr => hB_hw F hF hq hr) p pr
def rowD (r : Pr × (Nat × Nat)) : D := .tup [pd2 r.1, .int r.2.1, .int r.2.2]
noncomputable def rowsP (F : Flr) (p : Nat) : List (Pr × (Nat × Nat)) := if F.own.getD p false then (bd F p).map fun e => (e, (deedW F (hB F) p e).getD (0, 0)) else []
noncomputable def tabl (F : Flr) : List (List (Pr × (Nat × Nat))) := (List.range F.own.length).map (rowsP F)
def tablD (t : List (List (Pr × (Nat × Nat)))) : D := .lst (t.map fun rs => .tup (rs.map rowD))
theorem bd_mem (F : Flr) (hF : F.Ok) {p : Nat} (hp : p < F.own.length) {e : Pr} (he : e ∈ bd F p) : F.In e ∧ hw F p e = true := bord_mem ((lowsN_ok F hF _).at hp) he
abbrev fsT : Fns := [(1, g_borders), (4, g_deed_within)]
theorem table_lc1 (FD TD Fo PN RR ED BD t k : D) (x : Option D) (l : List D) (hd : g_deed_within [FD, TD, PN, ED] = .ok (.tup [t, k])) : lcF (evTests fsT .nil) (ev fsT (.bin .add (.tup (.cons (.var 5) .nil)) (.call 1 (.cons (.var 0) (.cons (.var 1) (.cons (.var 3) (.cons (.var 5) .nil)))))))  (.nm 5) [some FD, some TD, none, some PN, some RR, x] ED = .ok (some (.tup [ED, t, k])) := by
  simp [lcF, runFn, env0, outD, Py.execs, Py.exec, exec_for, ev, evs, evAnd, evOr, evPart, evTests, evIt, lift, view, mask, tst, bindT, Tgt.bind, setAll, O.f, appD, extD, putD, haveL, Cop.f, Bop.f, Bi.f, divOk, powOk, mulOk, log2_small, Cst.d, D.isTy, D.lf, D.lfs, D.lfItems, R.bind_assoc, List.foldl, truth_non, truth_bl, truth_int, truth_lst, truth_tup, ix_t0, ix_t1, ix_t2, ix_t3, ix_t4, ix_l0, ix_l1, ix_l2, ix_l3, pd2_ix0, pd2_ix1, len_lst, len_tup, len_scr, ltD_int, eqD_int, eqD_bl, ne_int, ne_bl, cmpI_int, add_int, sub_int, mul_int, fdiv_int, mod_int, pow_int, shr_int, negI_int, asB_bl, asI_int, items_lst, items_tup, listOf_lst, listOf_tup, tupOf_lst, tupOf_tup, rangeOf_1, rangeOf_2, f1_1, f2_2, isNon_non, isNon_bl, isNon_int, isNon_tup, isNon_lst, hd, add_tup]
theorem table_it (TD PN BD : D) (l : List D) (a b c d : Option D) (h1 : D.ix TD PN = .ok BD) (h2 : D.items BD = .ok l) : evIt fsT (.val (.ix (.var 1) (.var 3))) [a, some TD, b, some PN, c, d] = .ok l := by
  simp [runFn, env0, outD, Py.execs, Py.exec, exec_for, ev, evs, evAnd, evOr, evPart, evTests, evIt, lift, view, mask, tst, bindT, Tgt.bind, setAll, O.f, appD, extD, putD, haveL, Cop.f, Bop.f, Bi.f, divOk, powOk, mulOk, log2_small, Cst.d, D.isTy, D.lf, D.lfs, D.lfItems, R.bind_assoc, List.foldl, truth_non, truth_bl, truth_int, truth_lst, truth_tup, ix_t0, ix_t1, ix_t2, ix_t3, ix_t4, ix_l0, ix_l1, ix_l2, ix_l3, pd2_ix0, pd2_ix1, len_lst, len_tup, len_scr, ltD_int, eqD_int, eqD_bl, ne_int, ne_bl, cmpI_int, add_int, sub_int, mul_int, fdiv_int, mod_int, pow_int, shr_int, negI_int, asB_bl, asI_int, items_lst, items_tup, listOf_lst, listOf_tup, tupOf_lst, tupOf_tup, rangeOf_1, rangeOf_2, f1_1, f2_2, isNon_non, isNon_bl, isNon_int, isNon_tup, isNon_lst, h1, h2]
theorem bd_len (F : Flr) (hF : F.Ok) {p : Nat} (hp : p < F.own.length) : (bd F p).length ≤ 13 := by
  have h1 := bord_len ((lowsN F (rT F)).getD p [])
  rw [((lowsN_ok F hF (rT F)).at hp).len] at h1
  have := hF.b0
  unfold bd
  omega
theorem table_body (FD TD OD PN RD : D) (acc rs : List D) (k : Bool) (x5 : Option D) (x4 : Option D) (h1 : D.ix FD (.int 1) = .ok OD) (h2 : D.ix OD PN = .ok (ownD k)) (hl : k = true → ev fsT lc_table_0 [some FD, some TD, none, some PN, some (.tup []), x5] = .ok (.lst rs)) (hn : k = false → rs = []) (ha : acc.length < 16777216) (hf : D.lfs rs = true) :
    Py.execs fsT [2] L_table_0 [some FD, some TD, some (.lst acc), some PN, x4, x5] = .ok (.nx [some FD, some TD, some (.lst (acc ++ [.tup rs])), some PN, some (.tup rs), x5]) := by
  have e := eq_keeper k
  cases k with
  | true => simp [L_table_0, runFn, env0, outD, Py.execs, Py.exec, exec_for, ev, evs, evAnd, evOr, evPart, evTests, evIt, lift, view, mask, tst, bindT, Tgt.bind, setAll, O.f, appD, extD, putD, haveL, Cop.f, Bop.f, Bi.f, divOk, powOk, mulOk, log2_small, Cst.d, D.isTy, D.lf, D.lfs, D.lfItems, R.bind_assoc, List.foldl, truth_non, truth_bl, truth_int, truth_lst, truth_tup, ix_t0, ix_t1, ix_t2, ix_t3, ix_t4, ix_l0, ix_l1, ix_l2, ix_l3, pd2_ix0, pd2_ix1, len_lst, len_tup, len_scr, ltD_int, eqD_int, eqD_bl, ne_int, ne_bl, cmpI_int, add_int, sub_int, mul_int, fdiv_int, mod_int, pow_int, shr_int, negI_int, asB_bl, asI_int, items_lst, items_tup, listOf_lst, listOf_tup, tupOf_lst, tupOf_tup, rangeOf_1, rangeOf_2, f1_1, f2_2, isNon_non, isNon_bl, isNon_int, isNon_tup, isNon_lst, h1, h2, e, hl rfl, ha, hf]
  | false =>
    rw [hn rfl]
    simp [L_table_0, runFn, env0, outD, Py.execs, Py.exec, exec_for, ev, evs, evAnd, evOr, evPart, evTests, evIt, lift, view, mask, tst, bindT, Tgt.bind, setAll, O.f, appD, extD, putD, haveL, Cop.f, Bop.f, Bi.f, divOk, powOk, mulOk, log2_small, Cst.d, D.isTy, D.lf, D.lfs, D.lfItems, R.bind_assoc, List.foldl, truth_non, truth_bl, truth_int, truth_lst, truth_tup, ix_t0, ix_t1, ix_t2, ix_t3, ix_t4, ix_l0, ix_l1, ix_l2, ix_l3, pd2_ix0, pd2_ix1, len_lst, len_tup, len_scr, ltD_int, eqD_int, eqD_bl, ne_int, ne_bl, cmpI_int, add_int, sub_int, mul_int, fdiv_int, mod_int, pow_int, shr_int, negI_int, asB_bl, asI_int, items_lst, items_tup, listOf_lst, listOf_tup, tupOf_lst, tupOf_tup, rangeOf_1, rangeOf_2, f1_1, f2_2, isNon_non, isNon_bl, isNon_int, isNon_tup, isNon_lst, h1, h2, e, ha]
theorem table_ev (FD TD : D) (n : Int) (RG : List D) (RR : D) (x3 x4 x5 : Option D) (h1 : g_borders [FD] = .ok TD) (h2 : D.len TD = .ok (.int n)) (hr : rangeD 0 n = .ok RG) (hg : forGo (.nm 3) (Py.execs fsT [2] L_table_0) RG [some FD, some TD, some (.lst []), none, none, none] = .ok (.nx [some FD, some TD, some RR, x3, x4, x5])) : g_table [FD] = .ok RR := by
  simp [g_table, b_table, runFn, env0, outD, Py.execs, Py.exec, exec_for, ev, evs, evAnd, evOr, evPart, evTests, evIt, lift, view, mask, tst, bindT, Tgt.bind, setAll, O.f, appD, extD, putD, haveL, Cop.f, Bop.f, Bi.f, divOk, powOk, mulOk, log2_small, Cst.d, D.isTy, D.lf, D.lfs, D.lfItems, R.bind_assoc, List.foldl, truth_non, truth_bl, truth_int, truth_lst, truth_tup, ix_t0, ix_t1, ix_t2, ix_t3, ix_t4, ix_l0, ix_l1, ix_l2, ix_l3, pd2_ix0, pd2_ix1, len_lst, len_tup, len_scr, ltD_int, eqD_int, eqD_bl, ne_int, ne_bl, cmpI_int, add_int, sub_int, mul_int, fdiv_int, mod_int, pow_int, shr_int, negI_int, asB_bl, asI_int, items_lst, items_tup, listOf_lst, listOf_tup, tupOf_lst, tupOf_tup, rangeOf_1, rangeOf_2, f1_1, f2_2, isNon_non, isNon_bl, isNon_int, isNon_tup, isNon_lst, h1, h2, hr, hg]
theorem table_ok (F : Flr) (hF : F.Ok) : g_table [flrD F] = .ok (tablD (tabl F)) := by
  have hm := hF.many
  obtain ⟨ρ', e, x3, x4, x5, rfl⟩ := forGo_inv (t := .nm 3) (body := Py.execs fsT [2] L_table_0) (enc := fun p : Nat => D.int (p : Int)) (fun done ρ => ∃ x3 x4 x5, ρ = [some (flrD F), some (tellD (bds F)), some (.lst ((done.map (rowsP F)).map fun rs => .tup (rs.map rowD))), x3, x4, x5]) (List.range F.own.length) [] (fun d p r e ρ hρ => by
    obtain ⟨x3, x4, x5, rfl⟩ := hρ
    have hp : p ∈ List.range F.own.length := by
      rw [List.nil_append] at e
      rw [e]; simp
    have hdl : d.length ≤ F.own.length := by
      have := congrArg List.length e
      simp at this
      omega
    have hp := List.mem_range.mp hp
    have hlen := bd_len F hF hp
    have b := table_body (flrD F) (tellD (bds F)) _ (.int p) .non ((d.map (rowsP F)).map fun rs => .tup (rs.map rowD)) ((rowsP F p).map rowD) (F.own.getD p false) x5 x4 (flr_1 F) (own_ix F hp) (fun ho => by
      have e0 : (rowsP F p).map rowD = (bd F p).map fun e => rowD (e, (deedW F (hB F) p e).getD (0, 0)) := by
        unfold rowsP
        rw [ho, if_pos rfl, List.map_map]
        rfl
      rw [e0]
      refine ev_lc_map pd2 _ (bd F p) (table_it _ _ _ _ _ _ _ _ (bds_ix F hF p hp) (bord_items _)) (by omega) fun e he => ?_
      obtain ⟨hie, hhe⟩ := bd_mem F hF hp he
      rw [← goes_hB F hF hp hie] at hhe
      obtain ⟨dd, hd⟩ := deedW_goes ho hhe
      have hdd := deed_ok F hF (bds F) (bds_len F hF) p hp e hie
      have hd' : deedW F (fun q r => hld ((bds F).getD q []) r) p e = some dd := hd
      rw [hd'] at hdd
      rw [hd]
      exact table_lc1 _ _ .non _ _ _ .non _ _ _ [] hdd) (fun ho => by
      unfold rowsP
      rw [ho]
      rfl) (by simp; omega) (by
      rw [D.lfs_eq, List.all_eq_true]
      intro x hx
      obtain ⟨y, _, rfl⟩ := List.mem_map.mp hx
      rfl)
    exact ⟨_, _, rfl, .inl b, _, _, _, by rw [List.map_append, List.map_append]; rfl⟩) [some (flrD F), some (tellD (bds F)), some (.lst []), none, none, none] ⟨none, none, none, rfl⟩
  have hl : D.len (tellD (bds F)) = .ok (.int F.own.length) := by
    rw [← bds_len F hF]
    exact len_map_lst _ _
  exact table_ev _ _ _ _ _ x3 x4 x5 (borders_ok F hF) hl (rangeD_nat (by omega)) e
theorem keeper_ev (FD PN PD OD TD RD : D) (k : Bool) (h1 : g_check_place [FD, PN] = .ok .non) (h2 : g_check_pair [FD, PD] = .ok .non) (h3 : D.ix FD (.int 1) = .ok OD) (h4 : D.ix OD PN = .ok (ownD k)) (h5 : g_borders [FD] = .ok TD) (h6 : g_deed_within [FD, TD, PN, PD] = .ok RD) : g_keeper_deed [FD, PN, PD] = .ok (if k then RD else .non) := by
  have e := ne_keeper k
  cases k <;> simp [g_keeper_deed, b_keeper_deed, runFn, env0, outD, Py.execs, Py.exec, exec_for, ev, evs, evAnd, evOr, evPart, evTests, evIt, lift, view, mask, tst, bindT, Tgt.bind, setAll, O.f, appD, extD, putD, haveL, Cop.f, Bop.f, Bi.f, divOk, powOk, mulOk, log2_small, Cst.d, D.isTy, D.lf, D.lfs, D.lfItems, R.bind_assoc, List.foldl, truth_non, truth_bl, truth_int, truth_lst, truth_tup, ix_t0, ix_t1, ix_t2, ix_t3, ix_t4, ix_l0, ix_l1, ix_l2, ix_l3, pd2_ix0, pd2_ix1, len_lst, len_tup, len_scr, ltD_int, eqD_int, eqD_bl, ne_int, ne_bl, cmpI_int, add_int, sub_int, mul_int, fdiv_int, mod_int, pow_int, shr_int, negI_int, asB_bl, asI_int, items_lst, items_tup, listOf_lst, listOf_tup, tupOf_lst, tupOf_tup, rangeOf_1, rangeOf_2, f1_1, f2_2, isNon_non, isNon_bl, isNon_int, isNon_tup, isNon_lst, h1, h2, h3, h4, h5, h6, e]
theorem keeper_ok (F : Flr) (hF : F.Ok) (p : Nat) (hp : p < F.own.length) (pr : Pr) (hi : F.In pr) : g_keeper_deed [flrD F, .int p, pd2 pr] = .ok (optD (if F.own.getD p false then deedW F (hB F) p pr else none)) := by
  rw [keeper_ev _ _ _ _ _ _ _ (place_ok F p hp) (pair_ok F pr hi) (flr_1 F) (own_ix F hp) (borders_ok F hF) (deed_ok F hF (bds F) (bds_len F hF) p hp pr hi)]
  cases F.own.getD p false <;> rfl
/-- the taker's way -/
noncomputable def shrinks (F : Flr) (pr : Pr) (k : Nat) (w : Wy) : Bool := match behind F pr w with
  | none => true
  | some q => match lst F w.e q with
    | none => false
    | some j => decide (j < k)
noncomputable def takeW (F : Flr) (p : Nat) (pr : Pr) (k : Nat) : Option Nat := (F.nums p).find? fun i => shrinks F pr k (F.way i)
abbrev fsK : Fns := [(2, g_check_place), (2, g_check_pair), (1, g_rounds), (3, g_lasting_in), (2, g_ways_from), (3, g_after)]
def ltO : Option Nat → Int → Bool
  | none, _ => false
  | some j, k => decide ((j : Int) < k)
theorem take_body (FD PN PD RD WS W A LD : D) (i e k : Int) (o : Option Nat) (x y z : Option D) (b : Bool) (h2 : D.ix FD (.int 2) = .ok WS) (hw : D.ix WS (.int i) = .ok W) (ha : g_after [FD, PD, W] = .ok A) (h1 : D.ix W (.int 1) = .ok (.int e)) (hl : A.isNon = false → g_lasting_in [RD, .int e, A] = .ok (optN o))
    (hb : b = (A.isNon || ltO o k)) :
    ∃ x' y' z', Py.execs fsK [] L_taker_way_0 [some FD, some PN, some PD, some RD, some (.int k), some (.int i), x, y, z] = if b then .ok (.rt (.int i)) else .ok (.nx [some FD, some PN, some PD, some RD, some (.int k), some (.int i), x', y', z']) := by
  cases ho : A.isNon with
  | true =>
    rw [ho] at hb
    rw [hb]
    refine ⟨none, none, none, ?_⟩
    simp [L_taker_way_0, runFn, env0, outD, Py.execs, Py.exec, exec_for, ev, evs, evAnd, evOr, evPart, evTests, evIt, lift, view, mask, tst, bindT, Tgt.bind, setAll, O.f, appD, extD, putD, haveL, Cop.f, Bop.f, Bi.f, divOk, powOk, mulOk, log2_small, Cst.d, D.isTy, D.lf, D.lfs, D.lfItems, R.bind_assoc, List.foldl, truth_non, truth_bl, truth_int, truth_lst, truth_tup, ix_t0, ix_t1, ix_t2, ix_t3, ix_t4, ix_l0, ix_l1, ix_l2, ix_l3, pd2_ix0, pd2_ix1, len_lst, len_tup, len_scr, ltD_int, eqD_int, eqD_bl, ne_int, ne_bl, cmpI_int, add_int, sub_int, mul_int, fdiv_int, mod_int, pow_int, shr_int, negI_int, asB_bl, asI_int, items_lst, items_tup, listOf_lst, listOf_tup, tupOf_lst, tupOf_tup, rangeOf_1, rangeOf_2, f1_1, f2_2, isNon_non, isNon_bl, isNon_int, isNon_tup, isNon_lst, h2, hw, ha, ho]
  | false =>
    have hl := hl ho
    rw [ho, Bool.false_or] at hb
    refine ⟨some W, some A, some (optN o), ?_⟩
    unfold ltO at hb
    cases o with
    | none =>
      rw [hb]
      simp [L_taker_way_0, runFn, env0, outD, Py.execs, Py.exec, exec_for, ev, evs, evAnd, evOr, evPart, evTests, evIt, lift, view, mask, tst, bindT, Tgt.bind, setAll, O.f, appD, extD, putD, haveL, Cop.f, Bop.f, Bi.f, divOk, powOk, mulOk, log2_small, Cst.d, D.isTy, D.lf, D.lfs, D.lfItems, R.bind_assoc, List.foldl, truth_non, truth_bl, truth_int, truth_lst, truth_tup, ix_t0, ix_t1, ix_t2, ix_t3, ix_t4, ix_l0, ix_l1, ix_l2, ix_l3, pd2_ix0, pd2_ix1, len_lst, len_tup, len_scr, ltD_int, eqD_int, eqD_bl, ne_int, ne_bl, cmpI_int, add_int, sub_int, mul_int, fdiv_int, mod_int, pow_int, shr_int, negI_int, asB_bl, asI_int, items_lst, items_tup, listOf_lst, listOf_tup, tupOf_lst, tupOf_tup, rangeOf_1, rangeOf_2, f1_1, f2_2, isNon_non, isNon_bl, isNon_int, isNon_tup, isNon_lst, h2, hw, ha, ho, h1, hl, optN]
    | some j =>
      rw [hb]
      by_cases hj : (j : Int) < k
      · simp [L_taker_way_0, runFn, env0, outD, Py.execs, Py.exec, exec_for, ev, evs, evAnd, evOr, evPart, evTests, evIt, lift, view, mask, tst, bindT, Tgt.bind, setAll, O.f, appD, extD, putD, haveL, Cop.f, Bop.f, Bi.f, divOk, powOk, mulOk, log2_small, Cst.d, D.isTy, D.lf, D.lfs, D.lfItems, R.bind_assoc, List.foldl, truth_non, truth_bl, truth_int, truth_lst, truth_tup, ix_t0, ix_t1, ix_t2, ix_t3, ix_t4, ix_l0, ix_l1, ix_l2, ix_l3, pd2_ix0, pd2_ix1, len_lst, len_tup, len_scr, ltD_int, eqD_int, eqD_bl, ne_int, ne_bl, cmpI_int, add_int, sub_int, mul_int, fdiv_int, mod_int, pow_int, shr_int, negI_int, asB_bl, asI_int, items_lst, items_tup, listOf_lst, listOf_tup, tupOf_lst, tupOf_tup, rangeOf_1, rangeOf_2, f1_1, f2_2, isNon_non, isNon_bl, isNon_int, isNon_tup, isNon_lst, h2, hw, ha, ho, h1, hl, optN, hj]
      · simp [L_taker_way_0, runFn, env0, outD, Py.execs, Py.exec, exec_for, ev, evs, evAnd, evOr, evPart, evTests, evIt, lift, view, mask, tst, bindT, Tgt.bind, setAll, O.f, appD, extD, putD, haveL, Cop.f, Bop.f, Bi.f, divOk, powOk, mulOk, log2_small, Cst.d, D.isTy, D.lf, D.lfs, D.lfItems, R.bind_assoc, List.foldl, truth_non, truth_bl, truth_int, truth_lst, truth_tup, ix_t0, ix_t1, ix_t2, ix_t3, ix_t4, ix_l0, ix_l1, ix_l2, ix_l3, pd2_ix0, pd2_ix1, len_lst, len_tup, len_scr, ltD_int, eqD_int, eqD_bl, ne_int, ne_bl, cmpI_int, add_int, sub_int, mul_int, fdiv_int, mod_int, pow_int, shr_int, negI_int, asB_bl, asI_int, items_lst, items_tup, listOf_lst, listOf_tup, tupOf_lst, tupOf_tup, rangeOf_1, rangeOf_2, f1_1, f2_2, isNon_non, isNon_bl, isNon_int, isNon_tup, isNon_lst, h2, hw, ha, ho, h1, hl, optN, hj]
theorem take_ev (FD PN PD OD RD : D) (RG : List D) (k : Bool) (o : Option Nat) (r : Option D) (h1 : g_check_place [FD, PN] = .ok .non) (h2 : g_check_pair [FD, PD] = .ok .non) (h3 : D.ix FD (.int 1) = .ok OD) (h4 : D.ix OD PN = .ok (ownD k)) (h5 : g_rounds [FD] = .ok RD) (h6 : g_lasting_in [RD, PN, PD] = .ok (optN o)) (h7 : g_ways_from [FD, PN] = .ok (.lst RG))
    (hr : (k = true ∨ o = none) → r = none) (e : k = false → ∀ j, o = some j → (∀ d, r = some d → forGo (.nm 5) (Py.execs fsK [] L_taker_way_0) RG [some FD, some PN, some PD, some RD, some (.int j), none, none, none, none] = .ok (.rt d)) ∧ (r = none → ∃ ρ', forGo (.nm 5) (Py.execs fsK [] L_taker_way_0) RG [some FD, some PN, some PD, some RD, some (.int j), none, none, none, none] = .ok (.nx ρ'))) : g_taker_way [FD, PN, PD] = .ok (r.getD .non) := by
  have ek := eq_keeper k
  cases k with
  | true =>
    rw [hr (.inl rfl)]
    simp [g_taker_way, b_taker_way, runFn, env0, outD, Py.execs, Py.exec, exec_for, ev, evs, evAnd, evOr, evPart, evTests, evIt, lift, view, mask, tst, bindT, Tgt.bind, setAll, O.f, appD, extD, putD, haveL, Cop.f, Bop.f, Bi.f, divOk, powOk, mulOk, log2_small, Cst.d, D.isTy, D.lf, D.lfs, D.lfItems, R.bind_assoc, List.foldl, truth_non, truth_bl, truth_int, truth_lst, truth_tup, ix_t0, ix_t1, ix_t2, ix_t3, ix_t4, ix_l0, ix_l1, ix_l2, ix_l3, pd2_ix0, pd2_ix1, len_lst, len_tup, len_scr, ltD_int, eqD_int, eqD_bl, ne_int, ne_bl, cmpI_int, add_int, sub_int, mul_int, fdiv_int, mod_int, pow_int, shr_int, negI_int, asB_bl, asI_int, items_lst, items_tup, listOf_lst, listOf_tup, tupOf_lst, tupOf_tup, rangeOf_1, rangeOf_2, f1_1, f2_2, isNon_non, isNon_bl, isNon_int, isNon_tup, isNon_lst, h1, h2, h3, h4, h5, h6, ek]
  | false =>
    cases o with
    | none =>
      rw [hr (.inr rfl)]
      simp [g_taker_way, b_taker_way, runFn, env0, outD, Py.execs, Py.exec, exec_for, ev, evs, evAnd, evOr, evPart, evTests, evIt, lift, view, mask, tst, bindT, Tgt.bind, setAll, O.f, appD, extD, putD, haveL, Cop.f, Bop.f, Bi.f, divOk, powOk, mulOk, log2_small, Cst.d, D.isTy, D.lf, D.lfs, D.lfItems, R.bind_assoc, List.foldl, truth_non, truth_bl, truth_int, truth_lst, truth_tup, ix_t0, ix_t1, ix_t2, ix_t3, ix_t4, ix_l0, ix_l1, ix_l2, ix_l3, pd2_ix0, pd2_ix1, len_lst, len_tup, len_scr, ltD_int, eqD_int, eqD_bl, ne_int, ne_bl, cmpI_int, add_int, sub_int, mul_int, fdiv_int, mod_int, pow_int, shr_int, negI_int, asB_bl, asI_int, items_lst, items_tup, listOf_lst, listOf_tup, tupOf_lst, tupOf_tup, rangeOf_1, rangeOf_2, f1_1, f2_2, isNon_non, isNon_bl, isNon_int, isNon_tup, isNon_lst, h1, h2, h3, h4, h5, h6, ek, optN]
    | some j =>
      obtain ⟨i1, i2⟩ := e rfl j rfl
      cases r with
      | none =>
        obtain ⟨ρ', e1⟩ := i2 rfl
        simp [g_taker_way, b_taker_way, runFn, env0, outD, Py.execs, Py.exec, exec_for, ev, evs, evAnd, evOr, evPart, evTests, evIt, lift, view, mask, tst, bindT, Tgt.bind, setAll, O.f, appD, extD, putD, haveL, Cop.f, Bop.f, Bi.f, divOk, powOk, mulOk, log2_small, Cst.d, D.isTy, D.lf, D.lfs, D.lfItems, R.bind_assoc, List.foldl, truth_non, truth_bl, truth_int, truth_lst, truth_tup, ix_t0, ix_t1, ix_t2, ix_t3, ix_t4, ix_l0, ix_l1, ix_l2, ix_l3, pd2_ix0, pd2_ix1, len_lst, len_tup, len_scr, ltD_int, eqD_int, eqD_bl, ne_int, ne_bl, cmpI_int, add_int, sub_int, mul_int, fdiv_int, mod_int, pow_int, shr_int, negI_int, asB_bl, asI_int, items_lst, items_tup, listOf_lst, listOf_tup, tupOf_lst, tupOf_tup, rangeOf_1, rangeOf_2, f1_1, f2_2, isNon_non, isNon_bl, isNon_int, isNon_tup, isNon_lst, h1, h2, h3, h4, h5, h6, h7, ek, optN, e1]
      | some d =>
        have e1 := i1 d rfl
        simp [g_taker_way, b_taker_way, runFn, env0, outD, Py.execs, Py.exec, exec_for, ev, evs, evAnd, evOr, evPart, evTests, evIt, lift, view, mask, tst, bindT, Tgt.bind, setAll, O.f, appD, extD, putD, haveL, Cop.f, Bop.f, Bi.f, divOk, powOk, mulOk, log2_small, Cst.d, D.isTy, D.lf, D.lfs, D.lfItems, R.bind_assoc, List.foldl, truth_non, truth_bl, truth_int, truth_lst, truth_tup, ix_t0, ix_t1, ix_t2, ix_t3, ix_t4, ix_l0, ix_l1, ix_l2, ix_l3, pd2_ix0, pd2_ix1, len_lst, len_tup, len_scr, ltD_int, eqD_int, eqD_bl, ne_int, ne_bl, cmpI_int, add_int, sub_int, mul_int, fdiv_int, mod_int, pow_int, shr_int, negI_int, asB_bl, asI_int, items_lst, items_tup, listOf_lst, listOf_tup, tupOf_lst, tupOf_tup, rangeOf_1, rangeOf_2, f1_1, f2_2, isNon_non, isNon_bl, isNon_int, isNon_tup, isNon_lst, h1, h2, h3, h4, h5, h6, h7, ek, optN, e1]
noncomputable def takeR (F : Flr) (p : Nat) (pr : Pr) : Option Nat := if F.own.getD p false then none else match lst F p pr with
  | none => none
  | some k => takeW F p pr k
theorem taker_ok (F : Flr) (hF : F.Ok) (p : Nat) (hp : p < F.own.length) (pr : Pr) (hi : F.In pr) : g_taker_way [flrD F, .int p, pd2 pr] = .ok (optN (takeR F p pr)) := by
  rw [optN_get]
  refine take_ev _ _ _ _ _ _ _ _ _ (place_ok F p hp) (pair_ok F pr hi) (flr_1 F) (own_ix F hp) (rounds_ok F hF) (lasting_rds F hF p hp pr hi) (ways_from_ok F hF p hp) (fun h => ?_) (fun ho k hk => ?_)
  · unfold takeR
    rcases h with h | h
    · rw [h]; rfl
    · rw [h]
      split <;> rfl
  · have er : takeR F p pr = takeW F p pr k := by
      unfold takeR
      rw [ho, hk]
      rfl
    rw [er]
    have e := forGo_first (t := .nm 5) (body := Py.execs fsK [] L_taker_way_0) (enc := fun i : Nat => D.int (i : Int)) (fun ρ => ∃ w x y z, ρ = [some (flrD F), some (.int p), some (pd2 pr), some (rdsD (rds F)), some (.int k), w, x, y, z]) (fun i : Nat => if shrinks F pr k (F.way i) then some (D.int (i : Int)) else none) (F.nums p) (fun i hm ρ hρ => by
      obtain ⟨w, x, y, z, rfl⟩ := hρ
      have hm := (nums_mem.mp hm).1
      have hwe := (hF.ends _ (way_mem hm)).2
      obtain ⟨x', y', z', b⟩ := take_body (flrD F) (.int p) (pd2 pr) (rdsD (rds F)) _ _ _ .non i _ k (match behind F pr (F.way i) with | none => none | some q => lst F (F.way i).e q) x y z (shrinks F pr k (F.way i)) (flr_2 F) (ways_ix (way_some hm)) (after_ok F pr (F.way i)) (wy_1 _) (fun hA => by
        cases hb : behind F pr (F.way i) with
        | none => rw [hb] at hA; cases hA
        | some q => exact lasting_rds F hF _ hwe q (behind_in hb)) (by
        unfold shrinks
        cases hb : behind F pr (F.way i) with
        | none => rfl
        | some q =>
          show _ = (false || ltO (lst F (F.way i).e q) k)
          rw [Bool.false_or]
          simp only
          cases lst F (F.way i).e q with
          | none => rfl
          | some j => exact decide_eq_decide.mpr (by omega))
      refine ⟨_, rfl, fun v hv => ?_, fun hn => ⟨[some (flrD F), some (.int p), some (pd2 pr), some (rdsD (rds F)), some (.int k), some (.int i), x', y', z'], .inl ?_, some (.int i), x', y', z', rfl⟩⟩
      · cases hl : shrinks F pr k (F.way i) <;> rw [hl] at hv b <;> cases hv
        exact b
      · cases hl : shrinks F pr k (F.way i) <;> rw [hl] at hn b <;> cases hn
        exact b) [some (flrD F), some (.int p), some (pd2 pr), some (rdsD (rds F)), some (.int k), none, none, none, none] ⟨none, none, none, none, rfl⟩
    rw [findSome_find] at e
    refine ⟨e.1, fun hn => ?_⟩
    obtain ⟨ρ', e1, _⟩ := e.2 hn
    exact ⟨ρ', e1⟩
end Py

namespace Py
open PySem PySem.Spec PyProof.Rows L2
/-! ## the floors of the laws k31 to k46 -/
def cell (ns : List Int) (k : Nat) : Int := if k < ns.length then ns.getD k 0 % 10 ^ 40 else 0
theorem cell_nn (ns : List Int) (k : Nat) : 0 ≤ cell ns k := by
  unfold cell
  split
  · exact Int.emod_nonneg _ (by decide)
  · exact Int.le_refl 0
theorem cell_lt (ns : List Int) (k : Nat) : cell ns k < 10 ^ 40 := by
  unfold cell
  split
  · exact Int.emod_lt_of_pos _ (by decide)
  · decide
theorem cell_ok (ns : List Int) (k : Nat) : g_t_law_cell [.scr ns, .int k] = .ok (.int (cell ns k)) := by
  unfold cell
  by_cases h : k < ns.length
  · have e : atI ns (k : Int) = some (ns.getD k 0) := atI_nat (by rw [List.getElem?_eq_getElem h, List.getD_eq_getElem?_getD, List.getElem?_eq_getElem h]; rfl)
    simp [g_t_law_cell, b_t_law_cell, runFn, env0, outD, Py.execs, Py.exec, exec_for, ev, evs, evAnd, evOr, evPart, evTests, evIt, lift, view, mask, tst, bindT, Tgt.bind, setAll, O.f, appD, extD, putD, haveL, Cop.f, Bop.f, Bi.f, divOk, powOk, mulOk, log2_small, Cst.d, D.isTy, D.lf, D.lfs, D.lfItems, R.bind_assoc, List.foldl, truth_non, truth_bl, truth_int, truth_lst, truth_tup, ix_t0, ix_t1, ix_t2, ix_t3, ix_t4, ix_l0, ix_l1, ix_l2, ix_l3, pd2_ix0, pd2_ix1, len_lst, len_tup, len_scr, ltD_int, eqD_int, eqD_bl, ne_int, ne_bl, cmpI_int, add_int, sub_int, mul_int, fdiv_int, mod_int, pow_int, shr_int, negI_int, asB_bl, asI_int, items_lst, items_tup, listOf_lst, listOf_tup, tupOf_lst, tupOf_tup, rangeOf_1, rangeOf_2, f1_1, f2_2, isNon_non, isNon_bl, isNon_int, isNon_tup, isNon_lst, D.ix, e, h]
  · simp [g_t_law_cell, b_t_law_cell, runFn, env0, outD, Py.execs, Py.exec, exec_for, ev, evs, evAnd, evOr, evPart, evTests, evIt, lift, view, mask, tst, bindT, Tgt.bind, setAll, O.f, appD, extD, putD, haveL, Cop.f, Bop.f, Bi.f, divOk, powOk, mulOk, log2_small, Cst.d, D.isTy, D.lf, D.lfs, D.lfItems, R.bind_assoc, List.foldl, truth_non, truth_bl, truth_int, truth_lst, truth_tup, ix_t0, ix_t1, ix_t2, ix_t3, ix_t4, ix_l0, ix_l1, ix_l2, ix_l3, pd2_ix0, pd2_ix1, len_lst, len_tup, len_scr, ltD_int, eqD_int, eqD_bl, ne_int, ne_bl, cmpI_int, add_int, sub_int, mul_int, fdiv_int, mod_int, pow_int, shr_int, negI_int, asB_bl, asI_int, items_lst, items_tup, listOf_lst, listOf_tup, tupOf_lst, tupOf_tup, rangeOf_1, rangeOf_2, f1_1, f2_2, isNon_non, isNon_bl, isNon_int, isNon_tup, isNon_lst, h]
theorem log2_lt_of {n k : Nat} (hk : 0 < k) (h : n < 2 ^ k) : n.log2 < k := by
  by_cases h0 : n = 0
  · subst h0; simpa using hk
  · exact (Nat.log2_lt h0).mpr h
theorem mul_big {i j : Int} (hi : i.natAbs < 2 ^ 5000) (hj : j.natAbs < 2 ^ 5000) : D.mul (.int i) (.int j) = .ok (.int (i * j)) := by
  have h1 := log2_lt_of (by decide) hi
  have h2 := log2_lt_of (by decide) hj
  rw [mul_int, if_pos]
  unfold mulOk
  exact decide_eq_true (by omega)
theorem mul_cell (ns : List Int) (k : Nat) {j : Int} (hj : j.natAbs < 1000000000000) : D.mul (.int (cell ns k)) (.int j) = .ok (.int (cell ns k * j)) := by
  have h1 := cell_nn ns k
  have h2 := cell_lt ns k
  have e1 : (10 : Nat) ^ 40 < 2 ^ 5000 := by decide +kernel
  have e2 : 1000000000000 < 2 ^ 5000 := by decide +kernel
  refine mul_big (Nat.lt_trans ?_ e1) (Nat.lt_trans hj e2)
  have : (10 : Int) ^ 40 = ((10 ^ 40 : Nat) : Int) := by decide +kernel
  omega
/-- picks from a list of numbers -/
theorem pick_int (l : List Int) (i : Int) (h0 : 0 ≤ i) (h1 : i < l.length) : ∃ v, v ∈ l ∧ D.ix (.lst (l.map D.int)) (.int i) = .ok (.int v) := by
  obtain ⟨j, rfl⟩ := Int.eq_ofNat_of_zero_le h0
  have hj : j < l.length := by omega
  refine ⟨l[j], List.getElem_mem hj, ix_lst_nat ?_⟩
  rw [List.getElem?_map, List.getElem?_eq_getElem hj]
  rfl
theorem emod_rng (i : Int) {m : Int} (h : 0 < m) : 0 ≤ i % m ∧ i % m < m := ⟨Int.emod_nonneg _ (by omega), Int.emod_lt_of_pos _ h⟩
/-- coins -/
theorem coins_ok (n : Int) : ∃ v, g_t_law_coins [.int n] = .ok (.int v) ∧ -12 ≤ v ∧ v ≤ 12 := by
  by_cases h : n % 5 = 1
  · refine ⟨n / 5 % 25 - 12, ?_, ?_, ?_⟩
    · simp [g_t_law_coins, b_t_law_coins, runFn, env0, outD, Py.execs, Py.exec, exec_for, ev, evs, evAnd, evOr, evPart, evTests, evIt, lift, view, mask, tst, bindT, Tgt.bind, setAll, O.f, appD, extD, putD, haveL, Cop.f, Bop.f, Bi.f, divOk, powOk, mulOk, log2_small, Cst.d, D.isTy, D.lf, D.lfs, D.lfItems, R.bind_assoc, List.foldl, truth_non, truth_bl, truth_int, truth_lst, truth_tup, ix_t0, ix_t1, ix_t2, ix_t3, ix_t4, ix_l0, ix_l1, ix_l2, ix_l3, pd2_ix0, pd2_ix1, len_lst, len_tup, len_scr, ltD_int, eqD_int, eqD_bl, ne_int, ne_bl, cmpI_int, add_int, sub_int, mul_int, fdiv_int, mod_int, pow_int, shr_int, negI_int, asB_bl, asI_int, items_lst, items_tup, listOf_lst, listOf_tup, tupOf_lst, tupOf_tup, rangeOf_1, rangeOf_2, f1_1, f2_2, isNon_non, isNon_bl, isNon_int, isNon_tup, isNon_lst, h]
    · have := emod_rng (n / 5) (m := 25) (by decide); omega
    · have := emod_rng (n / 5) (m := 25) (by decide); omega
  · refine ⟨n / 5 % 25 % 7 - 3, ?_, ?_, ?_⟩
    · simp [g_t_law_coins, b_t_law_coins, runFn, env0, outD, Py.execs, Py.exec, exec_for, ev, evs, evAnd, evOr, evPart, evTests, evIt, lift, view, mask, tst, bindT, Tgt.bind, setAll, O.f, appD, extD, putD, haveL, Cop.f, Bop.f, Bi.f, divOk, powOk, mulOk, log2_small, Cst.d, D.isTy, D.lf, D.lfs, D.lfItems, R.bind_assoc, List.foldl, truth_non, truth_bl, truth_int, truth_lst, truth_tup, ix_t0, ix_t1, ix_t2, ix_t3, ix_t4, ix_l0, ix_l1, ix_l2, ix_l3, pd2_ix0, pd2_ix1, len_lst, len_tup, len_scr, ltD_int, eqD_int, eqD_bl, ne_int, ne_bl, cmpI_int, add_int, sub_int, mul_int, fdiv_int, mod_int, pow_int, shr_int, negI_int, asB_bl, asI_int, items_lst, items_tup, listOf_lst, listOf_tup, tupOf_lst, tupOf_tup, rangeOf_1, rangeOf_2, f1_1, f2_2, isNon_non, isNon_bl, isNon_int, isNon_tup, isNon_lst, h]
    · have := emod_rng (n / 5 % 25) (m := 7) (by decide); omega
    · have := emod_rng (n / 5 % 25) (m := 7) (by decide); omega
/-- owners -/
theorem pick_own (n : Int) : ∃ k, D.ix (.lst [.str "keeper", .str "taker"]) (.int (n % 2)) = .ok (ownD k) := by
  rcases (show n % 2 = 0 ∨ n % 2 = 1 by omega) with h | h
  · rw [h]; exact ⟨true, ix_l0 _ _⟩
  · rw [h]; exact ⟨false, ix_l1 _ _ _⟩
theorem owners_body (S M P : D) (n : Int) (acc : List D) (k : Bool) (ha : acc.length < 16777216) (h : D.ix (.lst [.str "keeper", .str "taker"]) (.int (n % 2)) = .ok (ownD k)) : Py.execs [(2, g_t_law_cell)] [3] L_t_law_owners_0 [some S, some M, some (.int n), some (.lst acc), some P] = .ok (.nx [some S, some M, some (.int (n / 2)), some (.lst (acc ++ [ownD k])), some P]) := by
  have hlf : (ownD k).lf = true := rfl
  simp [L_t_law_owners_0, runFn, env0, outD, Py.execs, Py.exec, exec_for, ev, evs, evAnd, evOr, evPart, evTests, evIt, lift, view, mask, tst, bindT, Tgt.bind, setAll, O.f, appD, extD, putD, haveL, Cop.f, Bop.f, Bi.f, divOk, powOk, mulOk, log2_small, Cst.d, D.isTy, D.lf, D.lfs, D.lfItems, R.bind_assoc, List.foldl, truth_non, truth_bl, truth_int, truth_lst, truth_tup, ix_t0, ix_t1, ix_t2, ix_t3, ix_t4, ix_l0, ix_l1, ix_l2, ix_l3, pd2_ix0, pd2_ix1, len_lst, len_tup, len_scr, ltD_int, eqD_int, eqD_bl, ne_int, ne_bl, cmpI_int, add_int, sub_int, mul_int, fdiv_int, mod_int, pow_int, shr_int, negI_int, asB_bl, asI_int, items_lst, items_tup, listOf_lst, listOf_tup, tupOf_lst, tupOf_tup, rangeOf_1, rangeOf_2, f1_1, f2_2, isNon_non, isNon_bl, isNon_int, isNon_tup, isNon_lst, h, ha, hlf]
theorem owners_ev (S : D) (m n : Int) (RG l : List D) (x2 x4 : Option D) (h1 : g_t_law_cell [S, .int 2] = .ok (.int n)) (hr : rangeD 0 m = .ok RG) (hg : forGo (.nm 4) (Py.execs [(2, g_t_law_cell)] [3] L_t_law_owners_0) RG [some S, some (.int m), some (.int n), some (.lst []), none] = .ok (.nx [some S, some (.int m), x2, some (.lst l), x4])) : g_t_law_owners [S, .int m] = .ok (.tup l) := by
  simp [g_t_law_owners, b_t_law_owners, runFn, env0, outD, Py.execs, Py.exec, exec_for, ev, evs, evAnd, evOr, evPart, evTests, evIt, lift, view, mask, tst, bindT, Tgt.bind, setAll, O.f, appD, extD, putD, haveL, Cop.f, Bop.f, Bi.f, divOk, powOk, mulOk, log2_small, Cst.d, D.isTy, D.lf, D.lfs, D.lfItems, R.bind_assoc, List.foldl, truth_non, truth_bl, truth_int, truth_lst, truth_tup, ix_t0, ix_t1, ix_t2, ix_t3, ix_t4, ix_l0, ix_l1, ix_l2, ix_l3, pd2_ix0, pd2_ix1, len_lst, len_tup, len_scr, ltD_int, eqD_int, eqD_bl, ne_int, ne_bl, cmpI_int, add_int, sub_int, mul_int, fdiv_int, mod_int, pow_int, shr_int, negI_int, asB_bl, asI_int, items_lst, items_tup, listOf_lst, listOf_tup, tupOf_lst, tupOf_tup, rangeOf_1, rangeOf_2, f1_1, f2_2, isNon_non, isNon_bl, isNon_int, isNon_tup, isNon_lst, h1, hr, hg]
theorem owners_ok (ns : List Int) (m : Nat) (hm : m ≤ 1000) : ∃ os : List Bool, os.length = m ∧ g_t_law_owners [.scr ns, .int m] = .ok (.tup (os.map ownD)) := by
  obtain ⟨ρ', e, n', os, x4, rfl, hl⟩ := forGo_inv (t := .nm 4) (body := Py.execs [(2, g_t_law_cell)] [3] L_t_law_owners_0) (enc := fun p : Nat => D.int (p : Int)) (fun done ρ => ∃ (n : Int) (os : List Bool) (x4 : Option D), ρ = [some (.scr ns), some (.int m), some (.int n), some (.lst (os.map ownD)), x4] ∧ os.length = done.length) (List.range m) [] (fun d p r e ρ hρ => by
    obtain ⟨n, os, x4, rfl, hl⟩ := hρ
    have hdl : d.length ≤ m := by
      have := congrArg List.length e
      simp at this
      omega
    obtain ⟨k, hk⟩ := pick_own n
    have b := owners_body (.scr ns) (.int m) (.int p) n (os.map ownD) k (by rw [List.length_map]; omega) hk
    refine ⟨_, _, rfl, .inl b, _, os ++ [k], _, by rw [List.map_append]; rfl, by simp [hl]⟩) [some (.scr ns), some (.int m), some (.int (cell ns 2)), some (.lst []), none] ⟨cell ns 2, [], none, rfl, rfl⟩
  refine ⟨os, by simpa using hl, owners_ev _ _ _ _ _ _ _ (cell_ok ns 2) (rangeD_nat (by omega)) e⟩
/-- brims -/
theorem brims_ev (S : D) (m n a b : Int) (h1 : g_t_law_cell [S, .int 1] = .ok (.int n)) (ha : D.ix (.lst [.int 3, .int 2, .int 4, .int 1, .int 5, .int 2, .int 3, .int 0]) (.int (n % 8)) = .ok (.int a)) (hb : D.ix (.lst [.int 2, .int 3, .int 1, .int 4, .int 2, .int 5, .int 3, .int 0]) (.int (n / 8 % 8)) = .ok (.int b)) (a0 : 0 ≤ a) (a1 : a ≤ 5) (b0 : 0 ≤ b) (b1 : b ≤ 5) :
    ∃ x y, g_t_law_brims [S, .int m] = .ok (.tup [.int x, .int y]) ∧ 0 ≤ x ∧ x ≤ 12 ∧ 0 ≤ y ∧ y ≤ 12 := by
  by_cases c1 : 4 < m
  · exact ⟨min a 2, min b 2, by simp [g_t_law_brims, b_t_law_brims, runFn, env0, outD, Py.execs, Py.exec, exec_for, ev, evs, evAnd, evOr, evPart, evTests, evIt, lift, view, mask, tst, bindT, Tgt.bind, setAll, O.f, appD, extD, putD, haveL, Cop.f, Bop.f, Bi.f, divOk, powOk, mulOk, log2_small, Cst.d, D.isTy, D.lf, D.lfs, D.lfItems, R.bind_assoc, List.foldl, truth_non, truth_bl, truth_int, truth_lst, truth_tup, ix_t0, ix_t1, ix_t2, ix_t3, ix_t4, ix_l0, ix_l1, ix_l2, ix_l3, pd2_ix0, pd2_ix1, len_lst, len_tup, len_scr, ltD_int, eqD_int, eqD_bl, ne_int, ne_bl, cmpI_int, add_int, sub_int, mul_int, fdiv_int, mod_int, pow_int, shr_int, negI_int, asB_bl, asI_int, items_lst, items_tup, listOf_lst, listOf_tup, tupOf_lst, tupOf_tup, rangeOf_1, rangeOf_2, f1_1, f2_2, isNon_non, isNon_bl, isNon_int, isNon_tup, isNon_lst, h1, ha, hb, c1, min2_ok], by omega, by omega, by omega, by omega⟩
  · by_cases c2 : n / 64 % 10 = 1
    · exact ⟨12, b % 3, by simp [g_t_law_brims, b_t_law_brims, runFn, env0, outD, Py.execs, Py.exec, exec_for, ev, evs, evAnd, evOr, evPart, evTests, evIt, lift, view, mask, tst, bindT, Tgt.bind, setAll, O.f, appD, extD, putD, haveL, Cop.f, Bop.f, Bi.f, divOk, powOk, mulOk, log2_small, Cst.d, D.isTy, D.lf, D.lfs, D.lfItems, R.bind_assoc, List.foldl, truth_non, truth_bl, truth_int, truth_lst, truth_tup, ix_t0, ix_t1, ix_t2, ix_t3, ix_t4, ix_l0, ix_l1, ix_l2, ix_l3, pd2_ix0, pd2_ix1, len_lst, len_tup, len_scr, ltD_int, eqD_int, eqD_bl, ne_int, ne_bl, cmpI_int, add_int, sub_int, mul_int, fdiv_int, mod_int, pow_int, shr_int, negI_int, asB_bl, asI_int, items_lst, items_tup, listOf_lst, listOf_tup, tupOf_lst, tupOf_tup, rangeOf_1, rangeOf_2, f1_1, f2_2, isNon_non, isNon_bl, isNon_int, isNon_tup, isNon_lst, h1, ha, hb, c1, c2], by omega, by omega, by omega, by omega⟩
    · by_cases c3 : n / 64 % 10 = 2
      · exact ⟨a % 3, 12, by simp [g_t_law_brims, b_t_law_brims, runFn, env0, outD, Py.execs, Py.exec, exec_for, ev, evs, evAnd, evOr, evPart, evTests, evIt, lift, view, mask, tst, bindT, Tgt.bind, setAll, O.f, appD, extD, putD, haveL, Cop.f, Bop.f, Bi.f, divOk, powOk, mulOk, log2_small, Cst.d, D.isTy, D.lf, D.lfs, D.lfItems, R.bind_assoc, List.foldl, truth_non, truth_bl, truth_int, truth_lst, truth_tup, ix_t0, ix_t1, ix_t2, ix_t3, ix_t4, ix_l0, ix_l1, ix_l2, ix_l3, pd2_ix0, pd2_ix1, len_lst, len_tup, len_scr, ltD_int, eqD_int, eqD_bl, ne_int, ne_bl, cmpI_int, add_int, sub_int, mul_int, fdiv_int, mod_int, pow_int, shr_int, negI_int, asB_bl, asI_int, items_lst, items_tup, listOf_lst, listOf_tup, tupOf_lst, tupOf_tup, rangeOf_1, rangeOf_2, f1_1, f2_2, isNon_non, isNon_bl, isNon_int, isNon_tup, isNon_lst, h1, ha, hb, c1, c2, c3], by omega, by omega, by omega, by omega⟩
      · by_cases c4 : n / 64 % 10 = 3
        · by_cases c5 : m < 3
          · exact ⟨12, 12, by simp [g_t_law_brims, b_t_law_brims, runFn, env0, outD, Py.execs, Py.exec, exec_for, ev, evs, evAnd, evOr, evPart, evTests, evIt, lift, view, mask, tst, bindT, Tgt.bind, setAll, O.f, appD, extD, putD, haveL, Cop.f, Bop.f, Bi.f, divOk, powOk, mulOk, log2_small, Cst.d, D.isTy, D.lf, D.lfs, D.lfItems, R.bind_assoc, List.foldl, truth_non, truth_bl, truth_int, truth_lst, truth_tup, ix_t0, ix_t1, ix_t2, ix_t3, ix_t4, ix_l0, ix_l1, ix_l2, ix_l3, pd2_ix0, pd2_ix1, len_lst, len_tup, len_scr, ltD_int, eqD_int, eqD_bl, ne_int, ne_bl, cmpI_int, add_int, sub_int, mul_int, fdiv_int, mod_int, pow_int, shr_int, negI_int, asB_bl, asI_int, items_lst, items_tup, listOf_lst, listOf_tup, tupOf_lst, tupOf_tup, rangeOf_1, rangeOf_2, f1_1, f2_2, isNon_non, isNon_bl, isNon_int, isNon_tup, isNon_lst, h1, ha, hb, c1, c2, c3, c4, c5], by omega, by omega, by omega, by omega⟩
          · exact ⟨a, b, by simp [g_t_law_brims, b_t_law_brims, runFn, env0, outD, Py.execs, Py.exec, exec_for, ev, evs, evAnd, evOr, evPart, evTests, evIt, lift, view, mask, tst, bindT, Tgt.bind, setAll, O.f, appD, extD, putD, haveL, Cop.f, Bop.f, Bi.f, divOk, powOk, mulOk, log2_small, Cst.d, D.isTy, D.lf, D.lfs, D.lfItems, R.bind_assoc, List.foldl, truth_non, truth_bl, truth_int, truth_lst, truth_tup, ix_t0, ix_t1, ix_t2, ix_t3, ix_t4, ix_l0, ix_l1, ix_l2, ix_l3, pd2_ix0, pd2_ix1, len_lst, len_tup, len_scr, ltD_int, eqD_int, eqD_bl, ne_int, ne_bl, cmpI_int, add_int, sub_int, mul_int, fdiv_int, mod_int, pow_int, shr_int, negI_int, asB_bl, asI_int, items_lst, items_tup, listOf_lst, listOf_tup, tupOf_lst, tupOf_tup, rangeOf_1, rangeOf_2, f1_1, f2_2, isNon_non, isNon_bl, isNon_int, isNon_tup, isNon_lst, h1, ha, hb, c1, c2, c3, c4, c5], by omega, by omega, by omega, by omega⟩
        · exact ⟨a, b, by simp [g_t_law_brims, b_t_law_brims, runFn, env0, outD, Py.execs, Py.exec, exec_for, ev, evs, evAnd, evOr, evPart, evTests, evIt, lift, view, mask, tst, bindT, Tgt.bind, setAll, O.f, appD, extD, putD, haveL, Cop.f, Bop.f, Bi.f, divOk, powOk, mulOk, log2_small, Cst.d, D.isTy, D.lf, D.lfs, D.lfItems, R.bind_assoc, List.foldl, truth_non, truth_bl, truth_int, truth_lst, truth_tup, ix_t0, ix_t1, ix_t2, ix_t3, ix_t4, ix_l0, ix_l1, ix_l2, ix_l3, pd2_ix0, pd2_ix1, len_lst, len_tup, len_scr, ltD_int, eqD_int, eqD_bl, ne_int, ne_bl, cmpI_int, add_int, sub_int, mul_int, fdiv_int, mod_int, pow_int, shr_int, negI_int, asB_bl, asI_int, items_lst, items_tup, listOf_lst, listOf_tup, tupOf_lst, tupOf_tup, rangeOf_1, rangeOf_2, f1_1, f2_2, isNon_non, isNon_bl, isNon_int, isNon_tup, isNon_lst, h1, ha, hb, c1, c2, c3, c4], by omega, by omega, by omega, by omega⟩
theorem tbrims_ok (ns : List Int) (m : Nat) : ∃ x y : Int, g_t_law_brims [.scr ns, .int m] = .ok (.tup [.int x, .int y]) ∧ 0 ≤ x ∧ x ≤ 12 ∧ 0 ≤ y ∧ y ≤ 12 := by
  have r1 := emod_rng (cell ns 1) (m := 8) (by decide)
  have r2 := emod_rng (cell ns 1 / 8) (m := 8) (by decide)
  obtain ⟨a, ha, ea⟩ := pick_int [3, 2, 4, 1, 5, 2, 3, 0] (cell ns 1 % 8) r1.1 (by simpa using r1.2)
  obtain ⟨b, hb, eb⟩ := pick_int [2, 3, 1, 4, 2, 5, 3, 0] (cell ns 1 / 8 % 8) r2.1 (by simpa using r2.2)
  simp only [List.mem_cons, List.not_mem_nil, or_false] at ha hb
  exact brims_ev (.scr ns) m (cell ns 1) a b (cell_ok ns 1) ea eb (by omega) (by omega) (by omega) (by omega)
/-! ### ways, sorted and each once -/
def wyK (w : Wy) : List Int := [w.s, w.e, w.f, w.g]
theorem wyK_inj {a b : Wy} (h : wyK a = wyK b) : a = b := by
  cases a; cases b
  simp only [wyK, List.cons.injEq, and_true, Int.natCast_inj] at h
  obtain ⟨rfl, rfl, rfl, rfl⟩ := h
  rfl
theorem ktup_wyK (w : Wy) : ktup (wyK w) = wyD w := rfl
theorem keysOf_wy : ∀ ws : List Wy, keysOf (ws.map wyD) = some (ws.map wyK)
  | [] => rfl
  | w :: ws => by
    rw [List.map_cons, keysOf, keysOf_wy ws]
    rfl
theorem map_ex {α β : Type} {f : α → β} : ∀ {l : List β}, (∀ x ∈ l, ∃ a, f a = x) → ∃ l' : List α, l'.map f = l
  | [], _ => ⟨[], rfl⟩
  | x :: l, h => by
    obtain ⟨a, ha⟩ := h x (by simp)
    obtain ⟨l', hl⟩ := map_ex (l := l) fun y hy => h y (by simp [hy])
    exact ⟨a :: l', by rw [List.map_cons, ha, hl]⟩
theorem mem_sortK {ks : List (List Int)} {k : List Int} : k ∈ sortK ks ↔ k ∈ ks := by
  unfold sortK
  rw [List.mem_mergeSort, mem_dd]
theorem dd_len : ∀ ks : List (List Int), (dd ks).length ≤ ks.length
  | [] => Nat.le_refl _
  | k :: ks => by
    unfold dd
    have := dd_len ks
    split
    · simp; omega
    · simp; omega
theorem sortK_len (ks : List (List Int)) : (sortK ks).length ≤ ks.length := by
  unfold sortK
  rw [List.length_mergeSort]
  exact dd_len ks
theorem sortK_nodup (ks : List (List Int)) : (sortK ks).Nodup := (List.mergeSort_perm _ _).nodup_iff.mpr (nodup_dd ks)
theorem sset_ways (ws : List Wy) (h : ws.length < 64) : ∃ vs : List Wy, (∀ w, w ∈ vs ↔ w ∈ ws) ∧ vs.length ≤ ws.length ∧ vs.map wyK = sortK (ws.map wyK) ∧ D.sset (.lst (ws.map wyD)) = .ok (.lst (vs.map wyD)) := by
  obtain ⟨vs, hv⟩ := map_ex (f := wyK) (l := sortK (ws.map wyK)) fun k hk => by
    obtain ⟨w, _, e⟩ := List.mem_map.mp (mem_sortK.mp hk)
    exact ⟨w, e⟩
  refine ⟨vs, fun w => ?_, ?_, hv, ?_⟩
  · constructor
    · intro hw
      have : wyK w ∈ sortK (ws.map wyK) := by rw [← hv]; exact List.mem_map.mpr ⟨w, hw, rfl⟩
      obtain ⟨w', h1, h2⟩ := List.mem_map.mp (mem_sortK.mp this)
      rw [← wyK_inj h2]; exact h1
    · intro hw
      have : wyK w ∈ sortK (ws.map wyK) := mem_sortK.mpr (List.mem_map.mpr ⟨w, hw, rfl⟩)
      rw [← hv] at this
      obtain ⟨w', h1, h2⟩ := List.mem_map.mp this
      rw [← wyK_inj h2]; exact h1
  · have h1 := congrArg List.length hv
    rw [List.length_map] at h1
    have h2 := sortK_len (ws.map wyK)
    rw [List.length_map] at h2
    omega
  · unfold D.sset
    simp only [keysOf_wy]
    rw [if_pos]
    · rw [← hv, List.map_map]
      rfl
    · rw [Bool.and_eq_true, List.all_eq_true]
      refine ⟨decide_eq_true (by rw [List.length_map]; exact h), fun k hk => ?_⟩
      obtain ⟨w, _, rfl⟩ := List.mem_map.mp hk
      rfl
theorem ways_body (S N : D) (m wide p k c u v m1 m2 m3 : Int) (acc : List D) (x8 x9 x10 : Option D) (size : D) (h0 : D.mul (.int wide) (.int p) = .ok (.int m1)) (h1 : g_t_law_cell [S, .int (4 + (m1 + k))] = .ok (.int c)) (h2 : D.mul (.int c) (.int 2957) = .ok (.int m2)) (h3 : D.mul (.int 61) (.int (m1 + k)) = .ok (.int m3))
    (h4 : g_t_law_coins [.int ((m2 + m3 + 17) % 999983 / 8)] = .ok (.int u)) (h5 : g_t_law_coins [.int ((m2 + m3 + 17) % 999983 / 8 / 125)] = .ok (.int v)) (h6 : 0 < m) (ha : acc.length < 16777216) :
    ∃ x8' x9' x10', Py.execs [(2, g_t_law_cell), (1, g_t_law_coins)] [4] L_t_law_ways_0 [some S, some (.int m), some N, some (.int wide), some (.lst acc), some (.int p), some size, some (.int k), x8, x9, x10] = .ok (.nx [some S, some (.int m), some N, some (.int wide), some (.lst (acc ++ [.tup [.int p, .int ((m2 + m3 + 17) % 999983 % 8 % m), .int u, .int v]])), some (.int p), some size, some (.int k), x8', x9', x10']) := by
  have h6' := mod_ok (i := (m2 + m3 + 17) % 999983 % 8) h6
  have h7 : D.mod (.int (m2 + m3 + 17)) (.int 999983) = .ok (.int ((m2 + m3 + 17) % 999983)) := mod_ok (by decide)
  have h8 : D.mod (.int ((m2 + m3 + 17) % 999983)) (.int 8) = .ok (.int ((m2 + m3 + 17) % 999983 % 8)) := mod_ok (by decide)
  have h9 : D.fdiv (.int ((m2 + m3 + 17) % 999983)) (.int 8) = .ok (.int ((m2 + m3 + 17) % 999983 / 8)) := fdiv_ok (by decide) (by decide)
  have h10 : D.fdiv (.int ((m2 + m3 + 17) % 999983 / 8)) (.int 125) = .ok (.int ((m2 + m3 + 17) % 999983 / 8 / 125)) := fdiv_ok (by decide) (by decide)
  generalize (m2 + m3 + 17) % 999983 = dr at *
  generalize dr / 8 = r8 at *
  generalize r8 / 125 = r9 at *
  generalize dr % 8 = r10 at *
  generalize r10 % m = r11 at *
  refine ⟨some (.int (m1 + k)), some (.int dr), some (.int r8), ?_⟩
  simp [L_t_law_ways_0, runFn, env0, outD, Py.execs, Py.exec, exec_for, ev, evs, evAnd, evOr, evPart, evTests, evIt, lift, view, mask, tst, bindT, Tgt.bind, setAll, O.f, appD, extD, putD, haveL, Cop.f, Bop.f, Bi.f, Cst.d, D.isTy, D.lf, D.lfs, D.lfItems, R.bind_assoc, List.foldl, truth_non, truth_bl, truth_int, truth_lst, truth_tup, ix_t0, ix_t1, ix_t2, ix_t3, ix_t4, ix_l0, ix_l1, ix_l2, ix_l3, pd2_ix0, pd2_ix1, len_lst, len_tup, len_scr, ltD_int, eqD_int, eqD_bl, ne_int, ne_bl, cmpI_int, add_int, sub_int, shr_int, negI_int, asB_bl, asI_int, items_lst, items_tup, listOf_lst, listOf_tup, tupOf_lst, tupOf_tup, rangeOf_1, rangeOf_2, f1_1, f2_2, isNon_non, isNon_bl, isNon_int, isNon_tup, isNon_lst, h0, h1, h2, h3, h4, h5, h6', h7, h8, h9, h10, ha]
theorem ways_inner (ns : List Int) (N size : D) (m wide p n : Nat) (ws : List Wy) (x7 x8 x9 x10 : Option D) (hw : wide ≤ 12) (hp : p ≤ 8) (hm : 0 < m) (hn : n ≤ 12) (hl : ws.length ≤ 1000) :
    ∃ vs x7' x8' x9' x10', vs.length = n ∧ (∀ w ∈ vs, w.s = p ∧ w.e < m ∧ -12 ≤ w.f ∧ w.f ≤ 12 ∧ -12 ≤ w.g ∧ w.g ≤ 12) ∧ forGo (.nm 7) (Py.execs [(2, g_t_law_cell), (1, g_t_law_coins)] [4] L_t_law_ways_0) ((List.range n).map fun i : Nat => D.int (i : Int)) [some (.scr ns), some (.int m), some N, some (.int wide), some (.lst (ws.map wyD)), some (.int p), some size, x7, x8, x9, x10] = .ok (.nx [some (.scr ns), some (.int m), some N, some (.int wide), some (.lst ((ws ++ vs).map wyD)), some (.int p), some size, x7', x8', x9', x10']) := by
  obtain ⟨ρ', e, vs, x7', x8', x9', x10', rfl, h1, h2⟩ := forGo_inv (t := .nm 7) (body := Py.execs [(2, g_t_law_cell), (1, g_t_law_coins)] [4] L_t_law_ways_0) (enc := fun i : Nat => D.int (i : Int)) (fun done ρ => ∃ (vs : List Wy) (x7 x8 x9 x10 : Option D), ρ = [some (.scr ns), some (.int m), some N, some (.int wide), some (.lst ((ws ++ vs).map wyD)), some (.int p), some size, x7, x8, x9, x10] ∧ vs.length = done.length ∧ (∀ w ∈ vs, w.s = p ∧ w.e < m ∧ -12 ≤ w.f ∧ w.f ≤ 12 ∧ -12 ≤ w.g ∧ w.g ≤ 12)) (List.range n) [] (fun d k r e ρ hρ => by
    obtain ⟨vs, x7, x8, x9, x10, rfl, h1, h2⟩ := hρ
    have hdl : d.length + 1 ≤ n := by
      have := congrArg List.length e
      simp at this
      omega
    have hk : k ∈ List.range n := by
      rw [List.nil_append] at e
      rw [e]; simp
    have hk := List.mem_range.mp hk
    have cw := Int.natCast_mul wide p
    have hwp : wide * p ≤ 12 * 8 := Nat.mul_le_mul hw hp
    have q0 : D.mul (.int (wide : Int)) (.int p) = .ok (.int ((wide : Int) * p)) := mul_ok (by omega) (by omega)
    have q1 : g_t_law_cell [.scr ns, .int (4 + (((wide : Int) * p) + k))] = .ok (.int (cell ns (4 + (wide * p + k)))) := by
      have := cell_ok ns (4 + (wide * p + k))
      rw [Int.natCast_add, Int.natCast_add, Int.natCast_mul] at this
      exact this
    have q2 := mul_cell ns (4 + (wide * p + k)) (j := 2957) (by decide)
    have q3 : D.mul (.int 61) (.int ((wide : Int) * p + k)) = .ok (.int (61 * ((wide : Int) * p + k))) := mul_ok (by decide) (by omega)
    obtain ⟨u, q4, u1, u2⟩ := coins_ok ((cell ns (4 + (wide * p + k)) * 2957 + 61 * ((wide : Int) * p + k) + 17) % 999983 / 8)
    obtain ⟨v, q5, v1, v2⟩ := coins_ok ((cell ns (4 + (wide * p + k)) * 2957 + 61 * ((wide : Int) * p + k) + 17) % 999983 / 8 / 125)
    obtain ⟨x8', x9', x10', b⟩ := ways_body (.scr ns) N m wide p k _ u v _ _ _ ((ws ++ vs).map wyD) x8 x9 x10 size q0 q1 q2 q3 q4 q5 (by omega) (by simp; omega)
    have re := emod_rng ((cell ns (4 + (wide * p + k)) * 2957 + 61 * ((wide : Int) * p + k) + 17) % 999983 % 8) (m := m) (by omega)
    obtain ⟨e', he⟩ := Int.eq_ofNat_of_zero_le re.1
    rw [he] at b re
    refine ⟨_, _, rfl, .inl b, vs ++ [⟨p, e', u, v⟩], _, _, _, _, by rw [← List.append_assoc, List.map_append (l₁ := ws ++ vs)]; rfl, by simp [h1], fun w hw => ?_⟩
    rcases List.mem_append.mp hw with hw | hw
    · exact h2 w hw
    · rw [List.mem_singleton] at hw
      subst hw
      exact ⟨rfl, by simp only; omega, u1, u2, v1, v2⟩) [some (.scr ns), some (.int m), some N, some (.int wide), some (.lst (ws.map wyD)), some (.int p), some size, x7, x8, x9, x10] ⟨[], x7, x8, x9, x10, by simp, rfl, fun w hw => by cases hw⟩
  exact ⟨vs, x7', x8', x9', x10', by simpa using h1, h2, e⟩
theorem ways_outer (S W P : D) (m n sz : Int) (RG l l' : List D) (x6 x7 x8 x9 x10 x7' x8' x9' x10' : Option D) (hsz : sz = if m < 3 ∧ n / 3 % 8 = 1 then 9 + (1 + n % 3) else 1 + n % 3) (hr : rangeD 0 sz = .ok RG) (hg : forGo (.nm 7) (Py.execs [(2, g_t_law_cell), (1, g_t_law_coins)] [4] L_t_law_ways_0) RG [some S, some (.int m), some (.int n), some W, some (.lst l), some P, some (.int sz), x7, x8, x9, x10] = .ok (.nx [some S, some (.int m), some (.int n), some W, some (.lst l'), some P, some (.int sz), x7', x8', x9', x10'])) :
    Py.execs [(2, g_t_law_cell), (1, g_t_law_coins)] [4] L_t_law_ways_1 [some S, some (.int m), some (.int n), some W, some (.lst l), some P, x6, x7, x8, x9, x10] = .ok (.nx [some S, some (.int m), some (.int (n / 24)), some W, some (.lst l'), some P, some (.int sz), x7', x8', x9', x10']) := by
  by_cases h1 : m < 3
  · by_cases h2 : n / 3 % 8 = 1
    · rw [if_pos ⟨h1, h2⟩] at hsz
      subst hsz
      simp [L_t_law_ways_1, runFn, env0, outD, Py.execs, Py.exec, exec_for, ev, evs, evAnd, evOr, evPart, evTests, evIt, lift, view, mask, tst, bindT, Tgt.bind, setAll, O.f, appD, extD, putD, haveL, Cop.f, Bop.f, Bi.f, divOk, powOk, mulOk, log2_small, Cst.d, D.isTy, D.lf, D.lfs, D.lfItems, R.bind_assoc, List.foldl, truth_non, truth_bl, truth_int, truth_lst, truth_tup, ix_t0, ix_t1, ix_t2, ix_t3, ix_t4, ix_l0, ix_l1, ix_l2, ix_l3, pd2_ix0, pd2_ix1, len_lst, len_tup, len_scr, ltD_int, eqD_int, eqD_bl, ne_int, ne_bl, cmpI_int, add_int, sub_int, mul_int, fdiv_int, mod_int, pow_int, shr_int, negI_int, asB_bl, asI_int, items_lst, items_tup, listOf_lst, listOf_tup, tupOf_lst, tupOf_tup, rangeOf_1, rangeOf_2, f1_1, f2_2, isNon_non, isNon_bl, isNon_int, isNon_tup, isNon_lst, h1, h2, hr, hg]
    · rw [if_neg (by simp [h2])] at hsz
      subst hsz
      simp [L_t_law_ways_1, runFn, env0, outD, Py.execs, Py.exec, exec_for, ev, evs, evAnd, evOr, evPart, evTests, evIt, lift, view, mask, tst, bindT, Tgt.bind, setAll, O.f, appD, extD, putD, haveL, Cop.f, Bop.f, Bi.f, divOk, powOk, mulOk, log2_small, Cst.d, D.isTy, D.lf, D.lfs, D.lfItems, R.bind_assoc, List.foldl, truth_non, truth_bl, truth_int, truth_lst, truth_tup, ix_t0, ix_t1, ix_t2, ix_t3, ix_t4, ix_l0, ix_l1, ix_l2, ix_l3, pd2_ix0, pd2_ix1, len_lst, len_tup, len_scr, ltD_int, eqD_int, eqD_bl, ne_int, ne_bl, cmpI_int, add_int, sub_int, mul_int, fdiv_int, mod_int, pow_int, shr_int, negI_int, asB_bl, asI_int, items_lst, items_tup, listOf_lst, listOf_tup, tupOf_lst, tupOf_tup, rangeOf_1, rangeOf_2, f1_1, f2_2, isNon_non, isNon_bl, isNon_int, isNon_tup, isNon_lst, h1, h2, hr, hg]
  · rw [if_neg (by simp [h1])] at hsz
    subst hsz
    simp [L_t_law_ways_1, runFn, env0, outD, Py.execs, Py.exec, exec_for, ev, evs, evAnd, evOr, evPart, evTests, evIt, lift, view, mask, tst, bindT, Tgt.bind, setAll, O.f, appD, extD, putD, haveL, Cop.f, Bop.f, Bi.f, divOk, powOk, mulOk, log2_small, Cst.d, D.isTy, D.lf, D.lfs, D.lfItems, R.bind_assoc, List.foldl, truth_non, truth_bl, truth_int, truth_lst, truth_tup, ix_t0, ix_t1, ix_t2, ix_t3, ix_t4, ix_l0, ix_l1, ix_l2, ix_l3, pd2_ix0, pd2_ix1, len_lst, len_tup, len_scr, ltD_int, eqD_int, eqD_bl, ne_int, ne_bl, cmpI_int, add_int, sub_int, mul_int, fdiv_int, mod_int, pow_int, shr_int, negI_int, asB_bl, asI_int, items_lst, items_tup, listOf_lst, listOf_tup, tupOf_lst, tupOf_tup, rangeOf_1, rangeOf_2, f1_1, f2_2, isNon_non, isNon_bl, isNon_int, isNon_tup, isNon_lst, h1, hr, hg]
theorem tways_ev (S : D) (m n wide : Int) (RG l vs : List D) (x2 x5 x6 x7 x8 x9 x10 : Option D) (h1 : g_t_law_cell [S, .int 3] = .ok (.int n)) (hwd : wide = if m < 3 then 12 else 3) (hr : rangeD 0 m = .ok RG) (hg : forGo (.nm 5) (Py.execs [(2, g_t_law_cell), (1, g_t_law_coins)] [4] L_t_law_ways_1) RG [some S, some (.int m), some (.int n), some (.int wide), some (.lst []), none, none, none, none, none, none] = .ok (.nx [some S, some (.int m), x2, some (.int wide), some (.lst l), x5, x6, x7, x8, x9, x10])) (hs : D.sset (.lst l) = .ok (.lst vs)) :
    g_t_law_ways [S, .int m] = .ok (.tup vs) := by
  have i1 : D.intOf (.bl true) = .ok (.int 1) := rfl
  have i0 : D.intOf (.bl false) = .ok (.int 0) := rfl
  by_cases h : m < 3
  · rw [if_pos h] at hwd
    subst hwd
    simp [g_t_law_ways, b_t_law_ways, runFn, env0, outD, Py.execs, Py.exec, exec_for, ev, evs, evAnd, evOr, evPart, evTests, evIt, lift, view, mask, tst, bindT, Tgt.bind, setAll, O.f, appD, extD, putD, haveL, Cop.f, Bop.f, Bi.f, divOk, powOk, mulOk, log2_small, Cst.d, D.isTy, D.lf, D.lfs, D.lfItems, R.bind_assoc, List.foldl, truth_non, truth_bl, truth_int, truth_lst, truth_tup, ix_t0, ix_t1, ix_t2, ix_t3, ix_t4, ix_l0, ix_l1, ix_l2, ix_l3, pd2_ix0, pd2_ix1, len_lst, len_tup, len_scr, ltD_int, eqD_int, eqD_bl, ne_int, ne_bl, cmpI_int, add_int, sub_int, mul_int, fdiv_int, mod_int, pow_int, shr_int, negI_int, asB_bl, asI_int, items_lst, items_tup, listOf_lst, listOf_tup, tupOf_lst, tupOf_tup, rangeOf_1, rangeOf_2, f1_1, f2_2, isNon_non, isNon_bl, isNon_int, isNon_tup, isNon_lst, h1, h, i1, hr, hg, hs]
  · rw [if_neg h] at hwd
    subst hwd
    simp [g_t_law_ways, b_t_law_ways, runFn, env0, outD, Py.execs, Py.exec, exec_for, ev, evs, evAnd, evOr, evPart, evTests, evIt, lift, view, mask, tst, bindT, Tgt.bind, setAll, O.f, appD, extD, putD, haveL, Cop.f, Bop.f, Bi.f, divOk, powOk, mulOk, log2_small, Cst.d, D.isTy, D.lf, D.lfs, D.lfItems, R.bind_assoc, List.foldl, truth_non, truth_bl, truth_int, truth_lst, truth_tup, ix_t0, ix_t1, ix_t2, ix_t3, ix_t4, ix_l0, ix_l1, ix_l2, ix_l3, pd2_ix0, pd2_ix1, len_lst, len_tup, len_scr, ltD_int, eqD_int, eqD_bl, ne_int, ne_bl, cmpI_int, add_int, sub_int, mul_int, fdiv_int, mod_int, pow_int, shr_int, negI_int, asB_bl, asI_int, items_lst, items_tup, listOf_lst, listOf_tup, tupOf_lst, tupOf_tup, rangeOf_1, rangeOf_2, f1_1, f2_2, isNon_non, isNon_bl, isNon_int, isNon_tup, isNon_lst, h1, h, i0, hr, hg, hs]
theorem tways_ok (ns : List Int) (m : Nat) (h1 : 1 ≤ m) (h8 : m ≤ 8) : ∃ ws : List Wy, ws.length ≤ 24 ∧ (∀ w ∈ ws, w.s < m ∧ w.e < m ∧ -12 ≤ w.f ∧ w.f ≤ 12 ∧ -12 ≤ w.g ∧ w.g ≤ 12) ∧ (∀ p, p < m → ∃ w ∈ ws, w.s = p) ∧ g_t_law_ways [.scr ns, .int m] = .ok (.tup (ws.map wyD)) := by
  let wide : Nat := if m < 3 then 12 else 3
  have hwd : (wide : Int) = if (m : Int) < 3 then 12 else 3 := by
    show (((if m < 3 then 12 else 3) : Nat) : Int) = _
    by_cases h : m < 3
    · rw [if_pos h, if_pos (by omega)]; rfl
    · rw [if_neg h, if_neg (by omega)]; rfl
  have hw12 : wide ≤ 12 := by show (if m < 3 then 12 else 3) ≤ 12; split <;> omega
  obtain ⟨ρ', e, n', ws, x5, x6, x7, x8, x9, x10, rfl, hn', hl, hb, hh⟩ := forGo_inv (t := .nm 5) (body := Py.execs [(2, g_t_law_cell), (1, g_t_law_coins)] [4] L_t_law_ways_1) (enc := fun i : Nat => D.int (i : Int)) (fun done ρ => ∃ (n : Int) (ws : List Wy) (x5 x6 x7 x8 x9 x10 : Option D), ρ = [some (.scr ns), some (.int m), some (.int n), some (.int wide), some (.lst (ws.map wyD)), x5, x6, x7, x8, x9, x10] ∧ 0 ≤ n ∧ ws.length ≤ wide * done.length ∧ (∀ w ∈ ws, w.s < m ∧ w.e < m ∧ -12 ≤ w.f ∧ w.f ≤ 12 ∧ -12 ≤ w.g ∧ w.g ≤ 12) ∧ (∀ p ∈ done, ∃ w ∈ ws, w.s = p)) (List.range m) [] (fun d p r e ρ hρ => by
    obtain ⟨n, ws, x5, x6, x7, x8, x9, x10, rfl, hn, hl, hb, hh⟩ := hρ
    have hdl : d.length + 1 ≤ m := by
      have := congrArg List.length e
      simp at this
      omega
    have hp : p ∈ List.range m := by
      rw [List.nil_append] at e
      rw [e]; simp
    have hp := List.mem_range.mp hp
    have r3 := emod_rng n (m := 3) (by decide)
    obtain ⟨sz, hsz, hsz1, hsz2⟩ : ∃ sz : Nat, (sz : Int) = (if (m : Int) < 3 ∧ n / 3 % 8 = 1 then 9 + (1 + n % 3) else 1 + n % 3) ∧ 1 ≤ sz ∧ sz ≤ wide := by
      by_cases hc : (m : Int) < 3 ∧ n / 3 % 8 = 1
      · refine ⟨(9 + (1 + n % 3)).toNat, by rw [if_pos hc]; omega, by omega, ?_⟩
        show _ ≤ (if m < 3 then 12 else 3)
        rw [if_pos (by omega)]
        omega
      · refine ⟨(1 + n % 3).toNat, by rw [if_neg hc]; omega, by omega, ?_⟩
        show _ ≤ (if m < 3 then 12 else 3)
        split <;> omega
    have hlw : ws.length ≤ 1000 := Nat.le_trans hl (Nat.le_trans (Nat.mul_le_mul hw12 (show d.length ≤ 8 by omega)) (by decide))
    obtain ⟨vs, x7', x8', x9', x10', v1, v2, v3⟩ := ways_inner ns (.int n) (.int sz) m wide p sz ws x7 x8 x9 x10 hw12 (by omega) (by omega) (by omega) hlw
    have b := ways_outer (.scr ns) (.int wide) (.int p) m n sz _ (ws.map wyD) ((ws ++ vs).map wyD) x6 x7 x8 x9 x10 x7' x8' x9' x10' hsz (rangeD_nat (by omega)) v3
    refine ⟨_, _, rfl, .inl b, n / 24, ws ++ vs, _, _, _, _, _, _, rfl, by omega, ?_, fun w hw => ?_, fun q hq => ?_⟩
    · rw [List.length_append, List.length_append, v1]
      show _ ≤ wide * (d.length + 1)
      rw [Nat.mul_succ]
      omega
    · rcases List.mem_append.mp hw with hw | hw
      · exact hb w hw
      · obtain ⟨a1, a2⟩ := v2 w hw
        exact ⟨by omega, a2⟩
    · rcases List.mem_append.mp hq with hq | hq
      · obtain ⟨w, w1, w2⟩ := hh q hq
        exact ⟨w, by simp [w1], w2⟩
      · rw [List.mem_singleton] at hq
        subst hq
        cases vs with
        | nil => simp at v1; omega
        | cons w vs => exact ⟨w, by simp, (v2 w (by simp)).1⟩) [some (.scr ns), some (.int m), some (.int (cell ns 3)), some (.int wide), some (.lst []), none, none, none, none, none, none] ⟨cell ns 3, [], none, none, none, none, none, none, rfl, cell_nn ns 3, Nat.zero_le _, fun w hw => (by cases hw), fun q hq => (by cases hq)⟩
  rw [List.nil_append] at hl hh
  rw [List.length_range] at hl
  have hl24 : ws.length ≤ 24 := Nat.le_trans hl (by
    show (if m < 3 then 12 else 3) * m ≤ 24
    split <;> omega)
  obtain ⟨vs, s1, s2, _, s3⟩ := sset_ways ws (by omega)
  refine ⟨vs, by omega, fun w hw => hb w ((s1 w).mp hw), fun p hp => ?_, tways_ev _ _ _ _ _ _ _ _ _ _ _ _ _ _ (cell_ok ns 3) hwd (rangeD_nat (by omega)) e s3⟩
  obtain ⟨w, w1, w2⟩ := hh p (List.mem_range.mpr hp)
  exact ⟨w, (s1 w).mpr w1, w2⟩
/-! ### stalls -/
theorem stalls_body (S OD : D) (p c m2 m3 g t : Int) (k : Bool) (acc : List D) (x4 x5 x6 x7 : Option D) (h0 : D.ix OD (.int p) = .ok (ownD k)) (h1 : g_t_law_cell [S, .int (28 + p)] = .ok (.int c)) (h2 : D.mul (.int c) (.int 3571) = .ok (.int m2)) (h3 : D.mul (.int 29) (.int p) = .ok (.int m3))
    (h4 : D.ix (.lst [.int ((m2 + m3 + 5) % 999979 / 6 % 3), .int ((m2 + m3 + 5) % 999979 / 6 % 3), .int ((m2 + m3 + 5) % 999979 / 6 % 12)]) (.int ((m2 + m3 + 5) % 999979 / 6 / 12 % 3)) = .ok (.int g)) (h5 : D.ix (.lst [.int ((m2 + m3 + 5) % 999979 / 6 / 36 % 4), .int ((m2 + m3 + 5) % 999979 / 6 / 36 % 4), .int ((m2 + m3 + 5) % 999979 / 6 / 36 % 13)]) (.int ((m2 + m3 + 5) % 999979 / 6 / 468 % 3)) = .ok (.int t)) (ha : acc.length < 16777216) :
    ∃ x4' x5' x6' x7', Py.execs [(2, g_t_law_cell)] [2] L_t_law_stalls_0 [some S, some OD, some (.lst acc), some (.int p), x4, x5, x6, x7] = .ok (.nx [some S, some OD, some (.lst (acc ++ if k && decide ((m2 + m3 + 5) % 999979 % 3 = 1) then [.tup [.int p, .int ((m2 + m3 + 5) % 999979 / 3 % 2), .int (1 + g), .int t]] else [])), some (.int p), x4', x5', x6', x7']) := by
  have ek := eq_keeper k
  have q1 : D.mod (.int (m2 + m3 + 5)) (.int 999979) = .ok (.int ((m2 + m3 + 5) % 999979)) := mod_ok (by decide)
  generalize (m2 + m3 + 5) % 999979 = dr at *
  cases k with
  | false => exact ⟨some (.int dr), x5, x6, x7, by simp [L_t_law_stalls_0, runFn, env0, outD, Py.execs, Py.exec, exec_for, ev, evs, evAnd, evOr, evPart, evTests, evIt, lift, view, mask, tst, bindT, Tgt.bind, setAll, O.f, appD, extD, putD, haveL, Cop.f, Bop.f, Bi.f, divOk, powOk, mulOk, log2_small, Cst.d, D.isTy, D.lf, D.lfs, D.lfItems, R.bind_assoc, List.foldl, truth_non, truth_bl, truth_int, truth_lst, truth_tup, ix_t0, ix_t1, ix_t2, ix_t3, ix_t4, ix_l0, ix_l1, ix_l2, ix_l3, pd2_ix0, pd2_ix1, len_lst, len_tup, len_scr, ltD_int, eqD_int, eqD_bl, ne_int, ne_bl, cmpI_int, add_int, sub_int, mul_int, fdiv_int, mod_int, pow_int, shr_int, negI_int, asB_bl, asI_int, items_lst, items_tup, listOf_lst, listOf_tup, tupOf_lst, tupOf_tup, rangeOf_1, rangeOf_2, f1_1, f2_2, isNon_non, isNon_bl, isNon_int, isNon_tup, isNon_lst, h0, h1, h2, h3, q1, ek]⟩
  | true =>
    by_cases hd : dr % 3 = 1
    · exact ⟨some (.int dr), some (.int (dr / 6)), some (.int (1 + g)), some (.int t), by simp [L_t_law_stalls_0, runFn, env0, outD, Py.execs, Py.exec, exec_for, ev, evs, evAnd, evOr, evPart, evTests, evIt, lift, view, mask, tst, bindT, Tgt.bind, setAll, O.f, appD, extD, putD, haveL, Cop.f, Bop.f, Bi.f, divOk, powOk, mulOk, log2_small, Cst.d, D.isTy, D.lf, D.lfs, D.lfItems, R.bind_assoc, List.foldl, truth_non, truth_bl, truth_int, truth_lst, truth_tup, ix_t0, ix_t1, ix_t2, ix_t3, ix_t4, ix_l0, ix_l1, ix_l2, ix_l3, pd2_ix0, pd2_ix1, len_lst, len_tup, len_scr, ltD_int, eqD_int, eqD_bl, ne_int, ne_bl, cmpI_int, add_int, sub_int, mul_int, fdiv_int, mod_int, pow_int, shr_int, negI_int, asB_bl, asI_int, items_lst, items_tup, listOf_lst, listOf_tup, tupOf_lst, tupOf_tup, rangeOf_1, rangeOf_2, f1_1, f2_2, isNon_non, isNon_bl, isNon_int, isNon_tup, isNon_lst, h0, h1, h2, h3, q1, ek, hd, h4, h5, ha]⟩
    · exact ⟨some (.int dr), x5, x6, x7, by simp [L_t_law_stalls_0, runFn, env0, outD, Py.execs, Py.exec, exec_for, ev, evs, evAnd, evOr, evPart, evTests, evIt, lift, view, mask, tst, bindT, Tgt.bind, setAll, O.f, appD, extD, putD, haveL, Cop.f, Bop.f, Bi.f, divOk, powOk, mulOk, log2_small, Cst.d, D.isTy, D.lf, D.lfs, D.lfItems, R.bind_assoc, List.foldl, truth_non, truth_bl, truth_int, truth_lst, truth_tup, ix_t0, ix_t1, ix_t2, ix_t3, ix_t4, ix_l0, ix_l1, ix_l2, ix_l3, pd2_ix0, pd2_ix1, len_lst, len_tup, len_scr, ltD_int, eqD_int, eqD_bl, ne_int, ne_bl, cmpI_int, add_int, sub_int, mul_int, fdiv_int, mod_int, pow_int, shr_int, negI_int, asB_bl, asI_int, items_lst, items_tup, listOf_lst, listOf_tup, tupOf_lst, tupOf_tup, rangeOf_1, rangeOf_2, f1_1, f2_2, isNon_non, isNon_bl, isNon_int, isNon_tup, isNon_lst, h0, h1, h2, h3, q1, ek, hd]⟩
theorem tstalls_ev (S OD : D) (n : Int) (RG l : List D) (x3 x4 x5 x6 x7 : Option D) (h1 : D.len OD = .ok (.int n)) (hr : rangeD 0 n = .ok RG) (hg : forGo (.nm 3) (Py.execs [(2, g_t_law_cell)] [2] L_t_law_stalls_0) RG [some S, some OD, some (.lst []), none, none, none, none, none] = .ok (.nx [some S, some OD, some (.lst l), x3, x4, x5, x6, x7])) : g_t_law_stalls [S, OD] = .ok (.tup l) := by
  simp [g_t_law_stalls, b_t_law_stalls, runFn, env0, outD, Py.execs, Py.exec, exec_for, ev, evs, evAnd, evOr, evPart, evTests, evIt, lift, view, mask, tst, bindT, Tgt.bind, setAll, O.f, appD, extD, putD, haveL, Cop.f, Bop.f, Bi.f, divOk, powOk, mulOk, log2_small, Cst.d, D.isTy, D.lf, D.lfs, D.lfItems, R.bind_assoc, List.foldl, truth_non, truth_bl, truth_int, truth_lst, truth_tup, ix_t0, ix_t1, ix_t2, ix_t3, ix_t4, ix_l0, ix_l1, ix_l2, ix_l3, pd2_ix0, pd2_ix1, len_lst, len_tup, len_scr, ltD_int, eqD_int, eqD_bl, ne_int, ne_bl, cmpI_int, add_int, sub_int, mul_int, fdiv_int, mod_int, pow_int, shr_int, negI_int, asB_bl, asI_int, items_lst, items_tup, listOf_lst, listOf_tup, tupOf_lst, tupOf_tup, rangeOf_1, rangeOf_2, f1_1, f2_2, isNon_non, isNon_bl, isNon_int, isNon_tup, isNon_lst, h1, hr, hg]
theorem ownT_ix (os : List Bool) {p : Nat} (hp : p < os.length) : D.ix (.tup (os.map ownD)) (.int p) = .ok (ownD (os.getD p false)) := by
  refine ix_tup_nat ?_
  rw [List.getElem?_map, List.getElem?_eq_getElem hp]
  simp [List.getD_eq_getElem?_getD, hp]
theorem tstalls_ok (ns : List Int) (os : List Bool) (ho : os.length ≤ 8) : ∃ ss : List St, (∀ s ∈ ss, s.p < os.length ∧ os.getD s.p false = true ∧ 1 ≤ s.give ∧ s.give ≤ 12 ∧ s.get ≤ 12) ∧ (ss.Pairwise fun a b => a.p < b.p) ∧ g_t_law_stalls [.scr ns, .tup (os.map ownD)] = .ok (.tup (ss.map stD)) := by
  obtain ⟨ρ', e, ss, x3, x4, x5, x6, x7, rfl, hl, h1, h2⟩ := forGo_inv (t := .nm 3) (body := Py.execs [(2, g_t_law_cell)] [2] L_t_law_stalls_0) (enc := fun i : Nat => D.int (i : Int)) (fun done ρ => ∃ (ss : List St) (x3 x4 x5 x6 x7 : Option D), ρ = [some (.scr ns), some (.tup (os.map ownD)), some (.lst (ss.map stD)), x3, x4, x5, x6, x7] ∧ ss.length ≤ done.length ∧ (∀ s ∈ ss, s.p < done.length ∧ s.p < os.length ∧ os.getD s.p false = true ∧ 1 ≤ s.give ∧ s.give ≤ 12 ∧ s.get ≤ 12) ∧ (ss.Pairwise fun a b => a.p < b.p)) (List.range os.length) [] (fun d p r e ρ hρ => by
    obtain ⟨ss, x3, x4, x5, x6, x7, rfl, hl, h1, h2⟩ := hρ
    have hdl : d.length + 1 ≤ os.length := by
      have := congrArg List.length e
      simp at this
      omega
    have hp : p ∈ List.range os.length := by
      rw [List.nil_append] at e
      rw [e]; simp
    have hp := List.mem_range.mp hp
    have hpd : p = d.length := by
      rw [List.nil_append] at e
      have h0 : (List.range os.length)[d.length]? = some p := by
        rw [e, List.getElem?_append_right (Nat.le_refl _)]
        simp
      rw [List.getElem?_range (by omega)] at h0
      cases h0
      rfl
    have q1 : g_t_law_cell [.scr ns, .int (28 + (p : Int))] = .ok (.int (cell ns (28 + p))) := by
      have := cell_ok ns (28 + p)
      rw [Int.natCast_add] at this
      exact this
    have q2 := mul_cell ns (28 + p) (j := 3571) (by decide)
    have q3 : D.mul (.int 29) (.int (p : Int)) = .ok (.int (29 * (p : Int))) := mul_ok (by decide) (by omega)
    generalize hdr : (cell ns (28 + p) * 3571 + 29 * (p : Int) + 5) % 999979 = dr
    have r1 := emod_rng (dr / 6) (m := 3) (by decide)
    have r2 := emod_rng (dr / 6) (m := 12) (by decide)
    have r3 := emod_rng (dr / 6 / 12) (m := 3) (by decide)
    have r4 := emod_rng (dr / 6 / 36) (m := 4) (by decide)
    have r5 := emod_rng (dr / 6 / 36) (m := 13) (by decide)
    have r6 := emod_rng (dr / 6 / 468) (m := 3) (by decide)
    have r7 := emod_rng (dr / 3) (m := 2) (by decide)
    obtain ⟨g, hg, eg⟩ := pick_int [dr / 6 % 3, dr / 6 % 3, dr / 6 % 12] (dr / 6 / 12 % 3) r3.1 (by simpa using r3.2)
    obtain ⟨t, ht, et⟩ := pick_int [dr / 6 / 36 % 4, dr / 6 / 36 % 4, dr / 6 / 36 % 13] (dr / 6 / 468 % 3) r6.1 (by simpa using r6.2)
    simp only [List.mem_cons, List.not_mem_nil, or_false] at hg ht
    have hg' : 0 ≤ g ∧ g < 12 := by omega
    have ht' : 0 ≤ t ∧ t < 13 := by omega
    rw [← hdr] at eg et
    obtain ⟨x4', x5', x6', x7', b⟩ := stalls_body (.scr ns) (.tup (os.map ownD)) p _ _ _ g t (os.getD p false) (ss.map stD) x4 x5 x6 x7 (ownT_ix os hp) q1 q2 q3 eg et (by simp; omega)
    rw [hdr] at b
    refine ⟨_, _, rfl, .inl b, ss ++ (if os.getD p false && decide (dr % 3 = 1) then [⟨p, decide (dr / 3 % 2 = 1), (1 + g).toNat, t.toNat⟩] else []), some (.int p), x4', x5', x6', x7', ?_, ?_, ?_, ?_⟩
    · rw [List.map_append]
      congr 5
      by_cases hc : (os.getD p false && decide (dr % 3 = 1)) = true
      · rw [if_pos hc, if_pos hc]
        have e1 : (((1 + g).toNat : Nat) : Int) = 1 + g := by omega
        have e2 : ((t.toNat : Nat) : Int) = t := by omega
        have e3 : (if decide (dr / 3 % 2 = 1) = true then 1 else 0 : Int) = dr / 3 % 2 := by
          by_cases h : dr / 3 % 2 = 1
          · rw [if_pos (decide_eq_true h), h]
          · rw [if_neg (by simpa using h)]; omega
        congr 1
        show [D.tup _] = [D.tup [.int p, .int (if decide (dr / 3 % 2 = 1) = true then 1 else 0), .int ((1 + g).toNat : Nat), .int (t.toNat : Nat)]]
        rw [e1, e2, e3]
      · rw [if_neg hc, if_neg hc]
        rfl
    · rw [List.length_append, List.length_append]
      split <;> simp <;> omega
    · intro s hs
      rw [List.length_append]
      rcases List.mem_append.mp hs with hs | hs
      · obtain ⟨a1, a2⟩ := h1 s hs
        exact ⟨by simp; omega, a2⟩
      · by_cases hc : (os.getD p false && decide (dr % 3 = 1)) = true
        · rw [if_pos hc, List.mem_singleton] at hs
          subst hs
          rw [Bool.and_eq_true] at hc
          exact ⟨by simp; omega, hp, hc.1, by simp only; omega, by simp only; omega, by simp only; omega⟩
        · rw [if_neg hc] at hs
          cases hs
    · refine List.pairwise_append.mpr ⟨h2, ?_, fun a ha b hb => ?_⟩
      · split
        · exact List.pairwise_singleton ..
        · exact List.Pairwise.nil
      · have := (h1 a ha).1
        split at hb
        · rw [List.mem_singleton] at hb
          subst hb
          simp only
          omega
        · cases hb) [some (.scr ns), some (.tup (os.map ownD)), some (.lst []), none, none, none, none, none] ⟨[], none, none, none, none, none, rfl, Nat.le_refl _, fun s hs => (by cases hs), List.Pairwise.nil⟩
  exact ⟨ss, fun s hs => (h1 s hs).2, h2, tstalls_ev _ _ _ _ _ x3 x4 x5 x6 x7 (len_map_tup _ _) (rangeD_nat (by omega)) e⟩
/-! ### the floor -/
theorem tfloor_ev (S OD WD SD : D) (n m x y wl sl : Int) (h1 : g_t_law_cell [S, .int 0] = .ok (.int n)) (h2 : D.ix (.lst [.int 2, .int 3, .int 1, .int 4, .int 3, .int 2, .int 4, .int (5 + n / 8 % 4)]) (.int (n % 8)) = .ok (.int m)) (h3 : g_t_law_owners [S, .int m] = .ok OD) (h4 : g_t_law_brims [S, .int m] = .ok (.tup [.int x, .int y])) (h5 : g_t_law_ways [S, .int m] = .ok WD) (h6 : g_t_law_stalls [S, OD] = .ok SD) (h7 : D.len WD = .ok (.int wl)) (h8 : D.len SD = .ok (.int sl)) :
    g_t_law_floor [S] = .ok (.tup [.tup [.int x, .int y], OD, WD, SD]) ∨ g_t_law_floor [S] = .ok (.tup [.tup [.int 12, .int 3], OD, WD, SD]) := by
  have e := pd2_eq (x, y) (12, 12)
  unfold pd2 at e
  simp only at e
  cases hd : decide ((x, y) = ((12, 12) : Pr)) with
  | false =>
    rw [hd] at e
    left
    simp [g_t_law_floor, b_t_law_floor, runFn, env0, outD, Py.execs, Py.exec, exec_for, ev, evs, evAnd, evOr, evPart, evTests, evIt, lift, view, mask, tst, bindT, Tgt.bind, setAll, O.f, appD, extD, putD, haveL, Cop.f, Bop.f, Bi.f, divOk, powOk, mulOk, log2_small, Cst.d, D.isTy, D.lf, D.lfs, D.lfItems, R.bind_assoc, List.foldl, truth_non, truth_bl, truth_int, truth_lst, truth_tup, ix_t0, ix_t1, ix_t2, ix_t3, ix_t4, ix_l0, ix_l1, ix_l2, ix_l3, pd2_ix0, pd2_ix1, len_lst, len_tup, len_scr, ltD_int, eqD_int, eqD_bl, ne_int, ne_bl, cmpI_int, add_int, sub_int, mul_int, fdiv_int, mod_int, pow_int, shr_int, negI_int, asB_bl, asI_int, items_lst, items_tup, listOf_lst, listOf_tup, tupOf_lst, tupOf_tup, rangeOf_1, rangeOf_2, f1_1, f2_2, isNon_non, isNon_bl, isNon_int, isNon_tup, isNon_lst, h1, h2, h3, h4, h5, h6, e]
  | true =>
    rw [hd] at e
    by_cases c1 : 6 < wl
    · right
      simp [g_t_law_floor, b_t_law_floor, runFn, env0, outD, Py.execs, Py.exec, exec_for, ev, evs, evAnd, evOr, evPart, evTests, evIt, lift, view, mask, tst, bindT, Tgt.bind, setAll, O.f, appD, extD, putD, haveL, Cop.f, Bop.f, Bi.f, divOk, powOk, mulOk, log2_small, Cst.d, D.isTy, D.lf, D.lfs, D.lfItems, R.bind_assoc, List.foldl, truth_non, truth_bl, truth_int, truth_lst, truth_tup, ix_t0, ix_t1, ix_t2, ix_t3, ix_t4, ix_l0, ix_l1, ix_l2, ix_l3, pd2_ix0, pd2_ix1, len_lst, len_tup, len_scr, ltD_int, eqD_int, eqD_bl, ne_int, ne_bl, cmpI_int, add_int, sub_int, mul_int, fdiv_int, mod_int, pow_int, shr_int, negI_int, asB_bl, asI_int, items_lst, items_tup, listOf_lst, listOf_tup, tupOf_lst, tupOf_tup, rangeOf_1, rangeOf_2, f1_1, f2_2, isNon_non, isNon_bl, isNon_int, isNon_tup, isNon_lst, h1, h2, h3, h4, h5, h6, h7, h8, e, c1]
    · by_cases c2 : 0 < sl
      · right
        simp [g_t_law_floor, b_t_law_floor, runFn, env0, outD, Py.execs, Py.exec, exec_for, ev, evs, evAnd, evOr, evPart, evTests, evIt, lift, view, mask, tst, bindT, Tgt.bind, setAll, O.f, appD, extD, putD, haveL, Cop.f, Bop.f, Bi.f, divOk, powOk, mulOk, log2_small, Cst.d, D.isTy, D.lf, D.lfs, D.lfItems, R.bind_assoc, List.foldl, truth_non, truth_bl, truth_int, truth_lst, truth_tup, ix_t0, ix_t1, ix_t2, ix_t3, ix_t4, ix_l0, ix_l1, ix_l2, ix_l3, pd2_ix0, pd2_ix1, len_lst, len_tup, len_scr, ltD_int, eqD_int, eqD_bl, ne_int, ne_bl, cmpI_int, add_int, sub_int, mul_int, fdiv_int, mod_int, pow_int, shr_int, negI_int, asB_bl, asI_int, items_lst, items_tup, listOf_lst, listOf_tup, tupOf_lst, tupOf_tup, rangeOf_1, rangeOf_2, f1_1, f2_2, isNon_non, isNon_bl, isNon_int, isNon_tup, isNon_lst, h1, h2, h3, h4, h5, h6, h7, h8, e, c1, c2]
      · left
        simp [g_t_law_floor, b_t_law_floor, runFn, env0, outD, Py.execs, Py.exec, exec_for, ev, evs, evAnd, evOr, evPart, evTests, evIt, lift, view, mask, tst, bindT, Tgt.bind, setAll, O.f, appD, extD, putD, haveL, Cop.f, Bop.f, Bi.f, divOk, powOk, mulOk, log2_small, Cst.d, D.isTy, D.lf, D.lfs, D.lfItems, R.bind_assoc, List.foldl, truth_non, truth_bl, truth_int, truth_lst, truth_tup, ix_t0, ix_t1, ix_t2, ix_t3, ix_t4, ix_l0, ix_l1, ix_l2, ix_l3, pd2_ix0, pd2_ix1, len_lst, len_tup, len_scr, ltD_int, eqD_int, eqD_bl, ne_int, ne_bl, cmpI_int, add_int, sub_int, mul_int, fdiv_int, mod_int, pow_int, shr_int, negI_int, asB_bl, asI_int, items_lst, items_tup, listOf_lst, listOf_tup, tupOf_lst, tupOf_tup, rangeOf_1, rangeOf_2, f1_1, f2_2, isNon_non, isNon_bl, isNon_int, isNon_tup, isNon_lst, h1, h2, h3, h4, h5, h6, h7, h8, e, c1, c2]
theorem tfloor_ok (ns : List Int) : ∃ F : Flr, F.Ok ∧ F.ways.length ≤ 24 ∧ g_t_law_floor [.scr ns] = .ok (flrD F) := by
  have r1 := emod_rng (cell ns 0) (m := 8) (by decide)
  have r2 := emod_rng (cell ns 0 / 8) (m := 4) (by decide)
  obtain ⟨m, hm, em⟩ := pick_int [2, 3, 1, 4, 3, 2, 4, 5 + cell ns 0 / 8 % 4] (cell ns 0 % 8) r1.1 (by simpa using r1.2)
  simp only [List.mem_cons, List.not_mem_nil, or_false] at hm
  have hm' : 1 ≤ m ∧ m ≤ 8 := by omega
  obtain ⟨m, rfl⟩ := Int.eq_ofNat_of_zero_le (show 0 ≤ m by omega)
  obtain ⟨os, o1, o2⟩ := owners_ok ns m (by omega)
  obtain ⟨x, y, b1, b2, b3, b4, b5⟩ := tbrims_ok ns m
  obtain ⟨ws, w1, w2, w3, w4⟩ := tways_ok ns m (by omega) (by omega)
  obtain ⟨ss, s1, s2, s3⟩ := tstalls_ok ns os (by omega)
  have mk : ∀ u v : Int, 0 ≤ u → u ≤ 12 → 0 ≤ v → v ≤ 12 → g_t_law_floor [.scr ns] = .ok (.tup [.tup [.int u, .int v], .tup (os.map ownD), .tup (ws.map wyD), .tup (ss.map stD)]) → ∃ F : Flr, F.Ok ∧ F.ways.length ≤ 24 ∧ g_t_law_floor [.scr ns] = .ok (flrD F) := fun u v u0 u1 v0 v1 e => by
    obtain ⟨u, rfl⟩ := Int.eq_ofNat_of_zero_le u0
    obtain ⟨v, rfl⟩ := Int.eq_ofNat_of_zero_le v0
    refine ⟨⟨u, v, os, ws, ss⟩, ⟨by simp only; omega, by simp only; omega, by simp only; omega, by simp only; omega, by simp only; omega, fun w hw => ?_, fun p hp => ?_, s1, s2⟩, w1, e⟩
    · obtain ⟨a1, a2, _⟩ := w2 w hw
      exact ⟨by simp only; omega, by simp only; omega⟩
    · exact w3 p (by simp only at hp; omega)
  rcases tfloor_ev (.scr ns) _ _ _ (cell ns 0) m x y _ _ (cell_ok ns 0) em o2 b1 w4 s3 (len_map_tup _ _) (len_map_tup _ _) with e | e
  · exact mk x y b2 b3 b4 b5 e
  · exact mk 12 3 (by decide) (by decide) (by decide) (by decide) e
end Py

namespace Py
open PySem PySem.Spec PyProof.Rows L2
/-! ## pairs within the brims; changes, gone through -/
def prsOf (F : Flr) : List Pr := (List.range (F.b0 + 1)).flatMap fun x : Nat => (List.range (F.b1 + 1)).map fun y : Nat => ((x : Int), (y : Int))
theorem prs_mem {F : Flr} {pr : Pr} : pr ∈ prsOf F ↔ F.In pr := by
  unfold prsOf
  rw [List.mem_flatMap]
  constructor
  · rintro ⟨x, hx, h⟩
    obtain ⟨y, hy, rfl⟩ := List.mem_map.mp h
    have hx := List.mem_range.mp hx
    have hy := List.mem_range.mp hy
    exact ⟨by simp only; omega, by simp only; omega, by simp only; omega, by simp only; omega⟩
  · rintro ⟨a, b, c, d⟩
    refine ⟨pr.1.toNat, List.mem_range.mpr (by omega), List.mem_map.mpr ⟨pr.2.toNat, List.mem_range.mpr (by omega), ?_⟩⟩
    exact Prod.ext (by simp only; omega) (by simp only; omega)
theorem prs_len (F : Flr) : (prsOf F).length = (F.b0 + 1) * (F.b1 + 1) := by
  unfold prsOf
  rw [List.length_flatMap]
  have : (List.map (fun x : Nat => (List.map (fun y : Nat => ((x : Int), (y : Int))) (List.range (F.b1 + 1))).length) (List.range (F.b0 + 1))) = List.replicate (F.b0 + 1) (F.b1 + 1) := by
    refine List.ext_getElem (by simp) fun i h1 h2 => by simp
  rw [this, List.sum_replicate_nat]
theorem pairs_it (FD BD : D) (a b c d : Option D) (m : Int) (RG : List D) (h0 : D.ix FD (.int 0) = .ok BD) (h1 : D.ix BD (.int 1) = .ok (.int m)) (hr : rangeD 0 (m + 1) = .ok RG) : evIt [] (.range (.cons (.bin .add (.ix (.ix (.var 0) (.cst (.int 0))) (.cst (.int 1))) (.cst (.int 1))) .nil)) [some FD, b, c, d] = .ok RG := by
  simp [runFn, env0, outD, Py.execs, Py.exec, exec_for, ev, evs, evAnd, evOr, evPart, evTests, evIt, lift, view, mask, tst, bindT, Tgt.bind, setAll, O.f, appD, extD, putD, haveL, Cop.f, Bop.f, Bi.f, divOk, powOk, mulOk, log2_small, Cst.d, D.isTy, D.lf, D.lfs, D.lfItems, R.bind_assoc, List.foldl, truth_non, truth_bl, truth_int, truth_lst, truth_tup, ix_t0, ix_t1, ix_t2, ix_t3, ix_t4, ix_l0, ix_l1, ix_l2, ix_l3, pd2_ix0, pd2_ix1, len_lst, len_tup, len_scr, ltD_int, eqD_int, eqD_bl, ne_int, ne_bl, cmpI_int, add_int, sub_int, mul_int, fdiv_int, mod_int, pow_int, shr_int, negI_int, asB_bl, asI_int, items_lst, items_tup, listOf_lst, listOf_tup, tupOf_lst, tupOf_tup, rangeOf_1, rangeOf_2, f1_1, f2_2, isNon_non, isNon_bl, isNon_int, isNon_tup, isNon_lst, h0, h1, hr]
theorem pairs_lc (a b d : Option D) (x y : Int) : lcF (evTests [] .nil) (ev [] (.tup (.cons (.var 2) (.cons (.var 3) .nil)))) (.nm 3) [a, b, some (.int x), d] (.int y) = .ok (some (pd2 (x, y))) := by
  simp [lcF, runFn, env0, outD, Py.execs, Py.exec, exec_for, ev, evs, evAnd, evOr, evPart, evTests, evIt, lift, view, mask, tst, bindT, Tgt.bind, setAll, O.f, appD, extD, putD, haveL, Cop.f, Bop.f, Bi.f, divOk, powOk, mulOk, log2_small, Cst.d, D.isTy, D.lf, D.lfs, D.lfItems, R.bind_assoc, List.foldl, truth_non, truth_bl, truth_int, truth_lst, truth_tup, ix_t0, ix_t1, ix_t2, ix_t3, ix_t4, ix_l0, ix_l1, ix_l2, ix_l3, pd2_ix0, pd2_ix1, len_lst, len_tup, len_scr, ltD_int, eqD_int, eqD_bl, ne_int, ne_bl, cmpI_int, add_int, sub_int, mul_int, fdiv_int, mod_int, pow_int, shr_int, negI_int, asB_bl, asI_int, items_lst, items_tup, listOf_lst, listOf_tup, tupOf_lst, tupOf_tup, rangeOf_1, rangeOf_2, f1_1, f2_2, isNon_non, isNon_bl, isNon_int, isNon_tup, isNon_lst, pd2]
theorem pairs_body (FD X3 : D) (acc l : List D) (x : Int) (b : Option D) (h : ev [] lc_t_law_pairs_0 [some FD, none, some (.int x), b] = .ok (.lst l)) (hl : acc.length + l.length ≤ 16777216) (hf : D.lfs l = true) : Py.execs [] [1] L_t_law_pairs_0 [some FD, some (.lst acc), some (.int x), b] = .ok (.nx [some FD, some (.lst (acc ++ l)), some (.int x), b]) := by
  simp [L_t_law_pairs_0, runFn, env0, outD, Py.execs, Py.exec, exec_for, ev, evs, evAnd, evOr, evPart, evTests, evIt, lift, view, mask, tst, bindT, Tgt.bind, setAll, O.f, appD, extD, putD, haveL, Cop.f, Bop.f, Bi.f, divOk, powOk, mulOk, log2_small, Cst.d, D.isTy, D.lf, D.lfs, D.lfItems, R.bind_assoc, List.foldl, truth_non, truth_bl, truth_int, truth_lst, truth_tup, ix_t0, ix_t1, ix_t2, ix_t3, ix_t4, ix_l0, ix_l1, ix_l2, ix_l3, pd2_ix0, pd2_ix1, len_lst, len_tup, len_scr, ltD_int, eqD_int, eqD_bl, ne_int, ne_bl, cmpI_int, add_int, sub_int, mul_int, fdiv_int, mod_int, pow_int, shr_int, negI_int, asB_bl, asI_int, items_lst, items_tup, listOf_lst, listOf_tup, tupOf_lst, tupOf_tup, rangeOf_1, rangeOf_2, f1_1, f2_2, isNon_non, isNon_bl, isNon_int, isNon_tup, isNon_lst, h, hl, hf]
theorem pairs_ev (FD BD : D) (m : Int) (RG : List D) (l : D) (x y : Option D) (h0 : D.ix FD (.int 0) = .ok BD) (h1 : D.ix BD (.int 0) = .ok (.int m)) (hr : rangeD 0 (m + 1) = .ok RG) (hg : forGo (.nm 2) (Py.execs [] [1] L_t_law_pairs_0) RG [some FD, some (.lst []), none, none] = .ok (.nx [some FD, some l, x, y])) : g_t_law_pairs [FD] = .ok l := by
  simp [g_t_law_pairs, b_t_law_pairs, runFn, env0, outD, Py.execs, Py.exec, exec_for, ev, evs, evAnd, evOr, evPart, evTests, evIt, lift, view, mask, tst, bindT, Tgt.bind, setAll, O.f, appD, extD, putD, haveL, Cop.f, Bop.f, Bi.f, divOk, powOk, mulOk, log2_small, Cst.d, D.isTy, D.lf, D.lfs, D.lfItems, R.bind_assoc, List.foldl, truth_non, truth_bl, truth_int, truth_lst, truth_tup, ix_t0, ix_t1, ix_t2, ix_t3, ix_t4, ix_l0, ix_l1, ix_l2, ix_l3, pd2_ix0, pd2_ix1, len_lst, len_tup, len_scr, ltD_int, eqD_int, eqD_bl, ne_int, ne_bl, cmpI_int, add_int, sub_int, mul_int, fdiv_int, mod_int, pow_int, shr_int, negI_int, asB_bl, asI_int, items_lst, items_tup, listOf_lst, listOf_tup, tupOf_lst, tupOf_tup, rangeOf_1, rangeOf_2, f1_1, f2_2, isNon_non, isNon_bl, isNon_int, isNon_tup, isNon_lst, h0, h1, hr, hg]
theorem pairs_ok (F : Flr) (hF : F.Ok) : g_t_law_pairs [flrD F] = .ok (.lst ((prsOf F).map pd2)) := by
  have hb0 := hF.b0
  have hb1 := hF.b1
  obtain ⟨ρ', e, x, y, rfl, _⟩ := forGo_inv (t := .nm 2) (body := Py.execs [] [1] L_t_law_pairs_0) (enc := fun i : Nat => D.int (i : Int)) (fun done ρ => ∃ x y, ρ = [some (flrD F), some (.lst ((done.flatMap fun x : Nat => (List.range (F.b1 + 1)).map fun y : Nat => ((x : Int), (y : Int))).map pd2)), x, y] ∧ (done.flatMap fun x : Nat => (List.range (F.b1 + 1)).map fun y : Nat => ((x : Int), (y : Int))).length ≤ done.length * 13) (List.range (F.b0 + 1)) [] (fun d p r e ρ hρ => by
    obtain ⟨x, y, rfl, hl⟩ := hρ
    have hdl : d.length + 1 ≤ F.b0 + 1 := by
      have := congrArg List.length e
      simp at this
      omega
    have e1 : ev [] lc_t_law_pairs_0 [some (flrD F), none, some (.int (p : Int)), y] = .ok (.lst ((List.range (F.b1 + 1)).map fun y : Nat => pd2 ((p : Int), (y : Int)))) :=
      ev_lc_map (fun y : Nat => D.int (y : Int)) _ (List.range (F.b1 + 1)) (pairs_it _ _ none _ _ _ _ _ (flr_0 F) (brims_1 F) (rangeD_nat1 (by omega))) (by simp; omega) fun z _ => pairs_lc _ _ _ _ _
    have b := pairs_body (flrD F) .non ((d.flatMap fun x : Nat => (List.range (F.b1 + 1)).map fun y : Nat => ((x : Int), (y : Int))).map pd2) _ p y e1 (by rw [List.length_map, List.length_map, List.length_range]; omega) (by
      rw [D.lfs_eq, List.all_eq_true]
      intro z hz
      obtain ⟨w, _, rfl⟩ := List.mem_map.mp hz
      rfl)
    refine ⟨_, _, rfl, .inl b, some (.int p), y, ?_, ?_⟩
    · rw [List.flatMap_append, List.map_append]
      simp only [List.flatMap_cons, List.flatMap_nil, List.append_nil, List.map_map]
      rfl
    · rw [List.flatMap_append, List.length_append, List.length_append]
      simp only [List.flatMap_cons, List.flatMap_nil, List.append_nil, List.length_map, List.length_range, List.length_cons, List.length_nil]
      omega) [some (flrD F), some (.lst []), none, none] ⟨none, none, rfl, Nat.zero_le _⟩
  exact pairs_ev _ _ _ _ _ x y (flr_0 F) (brims_0 F) (rangeD_nat1 (by omega)) e
/-- changes -/
theorem chg_cond (FD PN PD HN : D) (k : Bool) (acc : List D) (q : Pr) (h p gv : Int) (x8 x7 : Option D) (hl : D.ix (.lst acc) (.int (-1)) = .ok (pd2 q)) : tst [] (.and (.cons (.cmp .eq (.var 4) (.var 1)) (.cons (.cmp .ge (.ix (.ix (.var 3) (.neg (.cst (.int 1)))) (.var 5)) (.var 6)) .nil))) (view [8, 3] false [some FD, some (.int p), some PD, some (.lst acc), some (.int h), some (.int (if k then 1 else 0)), some (.int gv), x7, x8]) = .ok (decide (h = p) && decide (gv ≤ if k then q.2 else q.1)) := by
  have hneg : D.negI (.int 1) = .ok (.int (-1)) := rfl
  have p0 := pd2_ix0 q
  have p1 := pd2_ix1 q
  generalize pd2 q = QD at hl p0 p1
  by_cases hh : h = p
  · cases k with
    | true => simp [runFn, env0, outD, Py.execs, Py.exec, exec_for, ev, evs, evAnd, evOr, evPart, evTests, evIt, lift, view, mask, tst, bindT, Tgt.bind, setAll, O.f, appD, extD, putD, haveL, Cop.f, Bop.f, Bi.f, divOk, powOk, mulOk, log2_small, Cst.d, D.isTy, D.lf, D.lfs, D.lfItems, R.bind_assoc, List.foldl, truth_non, truth_bl, truth_int, truth_lst, truth_tup, ix_t0, ix_t1, ix_t2, ix_t3, ix_t4, ix_l0, ix_l1, ix_l2, ix_l3, pd2_ix0, pd2_ix1, len_lst, len_tup, len_scr, ltD_int, eqD_int, eqD_bl, ne_int, ne_bl, cmpI_int, add_int, sub_int, mul_int, fdiv_int, mod_int, pow_int, shr_int, negI_int, asB_bl, asI_int, items_lst, items_tup, listOf_lst, listOf_tup, tupOf_lst, tupOf_tup, rangeOf_1, rangeOf_2, f1_1, f2_2, isNon_non, isNon_bl, isNon_int, isNon_tup, isNon_lst, hh, hneg, hl, p1]
    | false => simp [runFn, env0, outD, Py.execs, Py.exec, exec_for, ev, evs, evAnd, evOr, evPart, evTests, evIt, lift, view, mask, tst, bindT, Tgt.bind, setAll, O.f, appD, extD, putD, haveL, Cop.f, Bop.f, Bi.f, divOk, powOk, mulOk, log2_small, Cst.d, D.isTy, D.lf, D.lfs, D.lfItems, R.bind_assoc, List.foldl, truth_non, truth_bl, truth_int, truth_lst, truth_tup, ix_t0, ix_t1, ix_t2, ix_t3, ix_t4, ix_l0, ix_l1, ix_l2, ix_l3, pd2_ix0, pd2_ix1, len_lst, len_tup, len_scr, ltD_int, eqD_int, eqD_bl, ne_int, ne_bl, cmpI_int, add_int, sub_int, mul_int, fdiv_int, mod_int, pow_int, shr_int, negI_int, asB_bl, asI_int, items_lst, items_tup, listOf_lst, listOf_tup, tupOf_lst, tupOf_tup, rangeOf_1, rangeOf_2, f1_1, f2_2, isNon_non, isNon_bl, isNon_int, isNon_tup, isNon_lst, hh, hneg, hl, p0]
  · simp [runFn, env0, outD, Py.execs, Py.exec, exec_for, ev, evs, evAnd, evOr, evPart, evTests, evIt, lift, view, mask, tst, bindT, Tgt.bind, setAll, O.f, appD, extD, putD, haveL, Cop.f, Bop.f, Bi.f, divOk, powOk, mulOk, log2_small, Cst.d, D.isTy, D.lf, D.lfs, D.lfItems, R.bind_assoc, List.foldl, truth_non, truth_bl, truth_int, truth_lst, truth_tup, ix_t0, ix_t1, ix_t2, ix_t3, ix_t4, ix_l0, ix_l1, ix_l2, ix_l3, pd2_ix0, pd2_ix1, len_lst, len_tup, len_scr, ltD_int, eqD_int, eqD_bl, ne_int, ne_bl, cmpI_int, add_int, sub_int, mul_int, fdiv_int, mod_int, pow_int, shr_int, negI_int, asB_bl, asI_int, items_lst, items_tup, listOf_lst, listOf_tup, tupOf_lst, tupOf_tup, rangeOf_1, rangeOf_2, f1_1, f2_2, isNon_non, isNon_bl, isNon_int, isNon_tup, isNon_lst, hh]
theorem chg_body (FD BD PN PD HN : D) (k : Bool) (acc : List D) (q : Pr) (gv gt a b : Int) (x8 : Option D) (hl : D.ix (.lst acc) (.int (-1)) = .ok (pd2 q)) (h0 : D.ix FD (.int 0) = .ok BD) (hb0 : D.ix BD (.int 0) = .ok (.int a)) (hb1 : D.ix BD (.int 1) = .ok (.int b)) (ha : acc.length < 16777216) :
    ∃ x8', Py.execs [] [8, 3] L_t_law_changes_0 [some FD, some PN, some PD, some (.lst acc), some HN, some (.int (if k then 1 else 0)), some (.int gv), some (.int gt), x8] = .ok (.nx [some FD, some PN, some PD, some (.lst (acc ++ [pd2 (if k then (min (q.1 + gt) a, q.2 - gv) else (q.1 - gv, min (q.2 + gt) b))])), some HN, some (.int (if k then 1 else 0)), some (.int gv), some (.int gt), x8']) := by
  have hneg : D.negI (.int 1) = .ok (.int (-1)) := rfl
  have i0 : ixN 2 0 = some 0 := rfl
  have i1 : ixN 2 1 = some 1 := rfl
  have lo : D.listOf (pd2 q) = .ok (.lst [.int q.1, .int q.2]) := rfl
  generalize pd2 q = QD at hl lo
  cases k with
  | true =>
    refine ⟨some (.lst [.int (min (q.1 + gt) a), .int (q.2 - gv)]), ?_⟩
    simp [L_t_law_changes_0, runFn, env0, outD, Py.execs, Py.exec, exec_for, ev, evs, evAnd, evOr, evPart, evTests, evIt, lift, view, mask, tst, bindT, Tgt.bind, setAll, O.f, appD, extD, putD, haveL, Cop.f, Bop.f, Bi.f, divOk, powOk, mulOk, log2_small, Cst.d, D.isTy, D.lf, D.lfs, D.lfItems, R.bind_assoc, List.foldl, truth_non, truth_bl, truth_int, truth_lst, truth_tup, ix_t0, ix_t1, ix_t2, ix_t3, ix_t4, ix_l0, ix_l1, ix_l2, ix_l3, pd2_ix0, pd2_ix1, len_lst, len_tup, len_scr, ltD_int, eqD_int, eqD_bl, ne_int, ne_bl, cmpI_int, add_int, sub_int, mul_int, fdiv_int, mod_int, pow_int, shr_int, negI_int, asB_bl, asI_int, items_lst, items_tup, listOf_lst, listOf_tup, tupOf_lst, tupOf_tup, rangeOf_1, rangeOf_2, f1_1, f2_2, isNon_non, isNon_bl, isNon_int, isNon_tup, isNon_lst, hneg, i0, i1, hl, lo, h0, hb0, hb1, min2_ok, ha, pd2]
  | false =>
    refine ⟨some (.lst [.int (q.1 - gv), .int (min (q.2 + gt) b)]), ?_⟩
    simp [L_t_law_changes_0, runFn, env0, outD, Py.execs, Py.exec, exec_for, ev, evs, evAnd, evOr, evPart, evTests, evIt, lift, view, mask, tst, bindT, Tgt.bind, setAll, O.f, appD, extD, putD, haveL, Cop.f, Bop.f, Bi.f, divOk, powOk, mulOk, log2_small, Cst.d, D.isTy, D.lf, D.lfs, D.lfItems, R.bind_assoc, List.foldl, truth_non, truth_bl, truth_int, truth_lst, truth_tup, ix_t0, ix_t1, ix_t2, ix_t3, ix_t4, ix_l0, ix_l1, ix_l2, ix_l3, pd2_ix0, pd2_ix1, len_lst, len_tup, len_scr, ltD_int, eqD_int, eqD_bl, ne_int, ne_bl, cmpI_int, add_int, sub_int, mul_int, fdiv_int, mod_int, pow_int, shr_int, negI_int, asB_bl, asI_int, items_lst, items_tup, listOf_lst, listOf_tup, tupOf_lst, tupOf_tup, rangeOf_1, rangeOf_2, f1_1, f2_2, isNon_non, isNon_bl, isNon_int, isNon_tup, isNon_lst, hneg, i0, i1, hl, lo, h0, hb0, hb1, min2_ok, ha, pd2]
theorem trade_next {F : Flr} {s : St} {pr : Pr} (t : Nat) : trade F s pr (t + 1) = if s.k then (min ((trade F s pr t).1 + s.get) F.b0, (trade F s pr t).2 - s.give) else ((trade F s pr t).1 - s.give, min ((trade F s pr t).2 + s.get) F.b1) := by
  unfold trade
  have e1 : ((t + 1 : Nat) : Int) * s.give = (t : Int) * s.give + s.give := by rw [Int.natCast_add, Int.add_mul]; simp
  have e2 : ((t + 1 : Nat) : Int) * s.get = (t : Int) * s.get + s.get := by rw [Int.natCast_add, Int.add_mul]; simp
  rw [e1, e2]
  cases s.k with
  | true =>
    simp only [if_true]
    refine Prod.ext ?_ ?_
    · simp only; omega
    · simp only; omega
  | false =>
    simp only [Bool.false_eq_true, if_false]
    refine Prod.ext ?_ ?_
    · simp only; omega
    · simp only; omega
theorem trade_more {F : Flr} {s : St} {pr : Pr} (hi : F.In pr) (hg : 1 ≤ s.give) (t : Nat) (ht : t ≤ tradesN s pr) : ((s.give : Int) ≤ if s.k then (trade F s pr t).2 else (trade F s pr t).1) ↔ t + 1 ≤ tradesN s pr := by
  obtain ⟨a, b, c, d⟩ := hi
  have h1 := div_le_iff (t := t + 1) (c := if s.k then pr.2.toNat else pr.1.toNat) hg
  have e1 : (((t + 1) * s.give : Nat) : Int) = (t : Int) * s.give + s.give := by rw [Int.natCast_mul, Int.natCast_add, Int.add_mul]; simp
  have h2 : t + 1 < tradesN s pr + 1 ↔ (t + 1) * s.give ≤ (if s.k then pr.2.toNat else pr.1.toNat) := h1
  unfold trade
  cases hk : s.k with
  | true =>
    rw [hk] at h2
    simp only [if_true] at h2 ⊢
    constructor
    · intro h
      have := h2.mpr (by omega)
      omega
    · intro h
      have := h2.mp (by omega)
      omega
  | false =>
    rw [hk] at h2
    simp only [Bool.false_eq_true, if_false] at h2 ⊢
    constructor
    · intro h
      have := h2.mpr (by omega)
      omega
    · intro h
      have := h2.mp (by omega)
      omega
abbrev chgC : E := .and (.cons (.cmp .eq (.var 4) (.var 1)) (.cons (.cmp .ge (.ix (.ix (.var 3) (.neg (.cst (.int 1)))) (.var 5)) (.var 6)) .nil))
theorem chg_while (F : Flr) (s : St) (pr : Pr) (hi : F.In pr) (hg : 1 ≤ s.give) (hb : tradesN s pr ≤ 1000) : ∀ (n t : Nat) (x8 : Option D), t + n = tradesN s pr →
    ∃ x8', whileN (fun ρ => tst [] chgC (view [8, 3] false ρ)) (Py.execs [] [8, 3] L_t_law_changes_0) (99000 + n) [some (flrD F), some (.int s.p), some (pd2 pr), some (.lst (((List.range (t + 1)).map (trade F s pr)).map pd2)), some (.int s.p), some (.int (if s.k then 1 else 0)), some (.int s.give), some (.int s.get), x8] =
      .ok (.nx [some (flrD F), some (.int s.p), some (pd2 pr), some (.lst (((List.range (tradesN s pr + 1)).map (trade F s pr)).map pd2)), some (.int s.p), some (.int (if s.k then 1 else 0)), some (.int s.give), some (.int s.get), x8'])
  | n, t, x8, h => by
    have hl : D.ix (.lst (((List.range (t + 1)).map (trade F s pr)).map pd2)) (.int (-1)) = .ok (pd2 (trade F s pr t)) := by
      rw [List.range_succ, List.map_append]
      exact last_ix pd2 _ _
    have c := chg_cond (flrD F) (pd2 pr) (pd2 pr) .non s.k _ (trade F s pr t) s.p s.p s.give x8 (some (.int s.get)) hl
    rw [decide_eq_true (rfl : (s.p : Int) = s.p), Bool.true_and, decide_eq_decide.mpr (trade_more hi hg t (by omega))] at c
    cases n with
    | zero =>
      have ht : t = tradesN s pr := by omega
      rw [decide_eq_false (by omega)] at c
      refine ⟨x8, ?_⟩
      rw [← ht]
      exact whileN_no (n := 98999) c
    | succ n =>
      rw [decide_eq_true (by omega)] at c
      obtain ⟨y, b⟩ := chg_body (flrD F) _ (.int s.p) (pd2 pr) (.int s.p) s.k _ (trade F s pr t) s.give s.get F.b0 F.b1 x8 hl (flr_0 F) (brims_0 F) (brims_1 F) (by simp; omega)
      rw [← trade_next] at b
      have er : ((List.range (t + 1)).map (trade F s pr)).map pd2 ++ [pd2 (trade F s pr (t + 1))] = ((List.range (t + 1 + 1)).map (trade F s pr)).map pd2 := by
        rw [List.range_succ (n := t + 1), List.map_append, List.map_append]
        rfl
      rw [er] at b
      obtain ⟨x8', e⟩ := chg_while F s pr hi hg hb n (t + 1) y (by omega)
      exact ⟨x8', (whileN_nx (n := 99000 + n) c b).trans e⟩
theorem chg_other (FD PN PD : D) (k : Bool) (acc : List D) (q : Pr) (h p gv gt : Int) (x8 : Option D) (hl : D.ix (.lst acc) (.int (-1)) = .ok (pd2 q)) (hh : ¬ h = p) : Py.execs [] [8, 3] L_t_law_changes_1 [some FD, some (.int p), some PD, some (.lst acc), some (.int h), some (.int (if k then 1 else 0)), some (.int gv), some (.int gt), x8] = .ok (.nx [some FD, some (.int p), some PD, some (.lst acc), some (.int h), some (.int (if k then 1 else 0)), some (.int gv), some (.int gt), x8]) := by
  have c := chg_cond FD PD PD .non k acc q h p gv x8 (some (.int gt)) hl
  rw [decide_eq_false hh, Bool.false_and] at c
  unfold L_t_law_changes_1
  rw [execs_cons (by rw [Py.exec]; exact whileN_no (n := 99999) c)]
  simp [runFn, env0, outD, Py.execs, Py.exec, exec_for, ev, evs, evAnd, evOr, evPart, evTests, evIt, lift, view, mask, tst, bindT, Tgt.bind, setAll, O.f, appD, extD, putD, haveL, Cop.f, Bop.f, Bi.f, divOk, powOk, mulOk, log2_small, Cst.d, D.isTy, D.lf, D.lfs, D.lfItems, R.bind_assoc, List.foldl, truth_non, truth_bl, truth_int, truth_lst, truth_tup, ix_t0, ix_t1, ix_t2, ix_t3, ix_t4, ix_l0, ix_l1, ix_l2, ix_l3, pd2_ix0, pd2_ix1, len_lst, len_tup, len_scr, ltD_int, eqD_int, eqD_bl, ne_int, ne_bl, cmpI_int, add_int, sub_int, mul_int, fdiv_int, mod_int, pow_int, shr_int, negI_int, asB_bl, asI_int, items_lst, items_tup, listOf_lst, listOf_tup, tupOf_lst, tupOf_tup, rangeOf_1, rangeOf_2, f1_1, f2_2, isNon_non, isNon_bl, isNon_int, isNon_tup, isNon_lst]
theorem chg_turn (F : Flr) (s : St) (pr : Pr) (hi : F.In pr) (hg : 1 ≤ s.give) (hb : tradesN s pr ≤ 1000) (x8 : Option D) : ∃ x8', Py.execs [] [8, 3] L_t_law_changes_1 [some (flrD F), some (.int s.p), some (pd2 pr), some (.lst [pd2 pr]), some (.int s.p), some (.int (if s.k then 1 else 0)), some (.int s.give), some (.int s.get), x8] = .ok (.nx [some (flrD F), some (.int s.p), some (pd2 pr), some (.lst (((List.range (tradesN s pr + 1)).map (trade F s pr)).map pd2)), some (.int s.p), some (.int (if s.k then 1 else 0)), some (.int s.give), some (.int s.get), x8']) := by
  obtain ⟨x8', e⟩ := chg_while F s pr hi hg hb (tradesN s pr) 0 x8 (by omega)
  have e0 : ((List.range (0 + 1)).map (trade F s pr)).map pd2 = [pd2 pr] := by
    show [pd2 (trade F s pr 0)] = _
    rw [trade_0 hi]
  rw [e0] at e
  have e := whileN_more (m := 1000 - tradesN s pr) e
  rw [show 99000 + tradesN s pr + (1000 - tradesN s pr) = 100000 by omega] at e
  refine ⟨x8', ?_⟩
  unfold L_t_law_changes_1
  rw [execs_cons (by rw [Py.exec]; exact e)]
  simp [runFn, env0, outD, Py.execs, Py.exec, exec_for, ev, evs, evAnd, evOr, evPart, evTests, evIt, lift, view, mask, tst, bindT, Tgt.bind, setAll, O.f, appD, extD, putD, haveL, Cop.f, Bop.f, Bi.f, divOk, powOk, mulOk, log2_small, Cst.d, D.isTy, D.lf, D.lfs, D.lfItems, R.bind_assoc, List.foldl, truth_non, truth_bl, truth_int, truth_lst, truth_tup, ix_t0, ix_t1, ix_t2, ix_t3, ix_t4, ix_l0, ix_l1, ix_l2, ix_l3, pd2_ix0, pd2_ix1, len_lst, len_tup, len_scr, ltD_int, eqD_int, eqD_bl, ne_int, ne_bl, cmpI_int, add_int, sub_int, mul_int, fdiv_int, mod_int, pow_int, shr_int, negI_int, asB_bl, asI_int, items_lst, items_tup, listOf_lst, listOf_tup, tupOf_lst, tupOf_tup, rangeOf_1, rangeOf_2, f1_1, f2_2, isNon_non, isNon_bl, isNon_int, isNon_tup, isNon_lst]
theorem changes_ev (FD PN PD : D) (ss : List D) (l : D) (x4 x5 x6 x7 x8 : Option D) (h : D.ix FD (.int 3) = .ok (.tup ss)) (hg : forGo (.tp [4, 5, 6, 7]) (Py.execs [] [8, 3] L_t_law_changes_1) ss [some FD, some PN, some PD, some (.lst [PD]), none, none, none, none, none] = .ok (.nx [some FD, some PN, some PD, some l, x4, x5, x6, x7, x8])) (hp : PD.lf = true) : g_t_law_changes [FD, PN, PD] = .ok l := by
  simp [g_t_law_changes, b_t_law_changes, runFn, env0, outD, Py.execs, Py.exec, exec_for, ev, evs, evAnd, evOr, evPart, evTests, evIt, lift, view, mask, tst, bindT, Tgt.bind, setAll, O.f, appD, extD, putD, haveL, Cop.f, Bop.f, Bi.f, divOk, powOk, mulOk, log2_small, Cst.d, D.isTy, D.lf, D.lfs, D.lfItems, R.bind_assoc, List.foldl, truth_non, truth_bl, truth_int, truth_lst, truth_tup, ix_t0, ix_t1, ix_t2, ix_t3, ix_t4, ix_l0, ix_l1, ix_l2, ix_l3, pd2_ix0, pd2_ix1, len_lst, len_tup, len_scr, ltD_int, eqD_int, eqD_bl, ne_int, ne_bl, cmpI_int, add_int, sub_int, mul_int, fdiv_int, mod_int, pow_int, shr_int, negI_int, asB_bl, asI_int, items_lst, items_tup, listOf_lst, listOf_tup, tupOf_lst, tupOf_tup, rangeOf_1, rangeOf_2, f1_1, f2_2, isNon_non, isNon_bl, isNon_int, isNon_tup, isNon_lst, h, hg, hp]
theorem find_sts {ss : List St} (h : ss.Pairwise fun a b => a.p < b.p) {p : Nat} {d : List St} {s : St} {r : List St} (e : ss = d ++ s :: r) : (s.p = p → d.find? (fun s => decide (s.p = p)) = none) := by
  intro hp
  rw [List.find?_eq_none]
  intro x hx
  subst e
  have := (List.pairwise_append.mp h).2.2 x hx s (by simp)
  simp only [decide_eq_true_eq]
  omega
def findP (p : Nat) (ss : List St) : Option St := ss.find? fun s => decide (s.p = p)
def chsO (F : Flr) (pr : Pr) : Option St → List Pr
  | none => [pr]
  | some s => (List.range (tradesN s pr + 1)).map (trade F s pr)
theorem tchanges_ok (F : Flr) (hF : F.Ok) (p : Nat) (pr : Pr) (hi : F.In pr) : g_t_law_changes [flrD F, .int p, pd2 pr] = .ok (.lst ((trades F p pr).map pd2)) := by
  have hall : ∀ o : Option St, chsO F pr o ≠ [] := fun o => by
    cases o with
    | none => simp [chsO]
    | some s => simp [chsO]
  obtain ⟨ρ', e, x4, x5, x6, x7, x8, rfl⟩ := forGo_inv (t := .tp [4, 5, 6, 7]) (body := Py.execs [] [8, 3] L_t_law_changes_1) (enc := stD) (fun done ρ => ∃ x4 x5 x6 x7 x8, ρ = [some (flrD F), some (.int p), some (pd2 pr), some (.lst ((chsO F pr (findP p done)).map pd2)), x4, x5, x6, x7, x8]) F.sts [] (fun d s r e ρ hρ => by
    obtain ⟨x4, x5, x6, x7, x8, rfl⟩ := hρ
    rw [List.nil_append] at e
    have hs : s ∈ F.sts := by rw [e]; simp
    obtain ⟨_, _, g1, g2, g3⟩ := hF.st s hs
    have htn : tradesN s pr ≤ 1000 := by
      unfold tradesN
      obtain ⟨a, b, c, d⟩ := hi
      have := hF.b0
      have := hF.b1
      refine Nat.le_trans (Nat.div_le_self _ _) ?_
      split <;> omega
    by_cases hp : s.p = p
    · have hn : findP p d = none := find_sts hF.nd (p := p) e hp
      obtain ⟨x8', b⟩ := chg_turn F s pr hi g1 htn x8
      rw [hp] at b
      rw [hn]
      show ∃ ρ1 ρ2, Tgt.bind (.tp [4, 5, 6, 7]) (stD s) [some (flrD F), some (.int p), some (pd2 pr), some (.lst [pd2 pr]), x4, x5, x6, x7, x8] = .ok ρ1 ∧ _
      refine ⟨[some (flrD F), some (.int p), some (pd2 pr), some (.lst [pd2 pr]), some (.int p), some (.int (if s.k then 1 else 0)), some (.int s.give), some (.int s.get), x8], _, ?_, .inl b, some (.int p), some (.int (if s.k then 1 else 0)), some (.int s.give), some (.int s.get), x8', ?_⟩
      · show R.ok _ = R.ok _
        rw [hp]
        rfl
      · unfold findP at hn ⊢
        rw [List.find?_append, hn]
        simp only [Option.none_or, List.find?_cons, decide_eq_true hp, hp]
        rfl
    · have hlast : ∃ q, D.ix (.lst ((chsO F pr (findP p d)).map pd2)) (.int (-1)) = .ok (pd2 q) := by
        rcases List.eq_nil_or_concat (chsO F pr (findP p d)) with h | ⟨l, q, h⟩
        · exact absurd h (hall _)
        · rw [h, List.concat_eq_append]
          exact ⟨q, last_ix pd2 l q⟩
      obtain ⟨q, hq⟩ := hlast
      have b := chg_other (flrD F) (.int p) (pd2 pr) s.k _ q s.p p s.give s.get x8 hq (by omega)
      refine ⟨_, _, rfl, .inl b, some (.int s.p), some (.int (if s.k then 1 else 0)), some (.int s.give), some (.int s.get), x8, ?_⟩
      unfold findP
      rw [List.find?_append]
      simp only [List.find?_cons, decide_eq_false hp, List.find?_nil, Option.or_none]) [some (flrD F), some (.int p), some (pd2 pr), some (.lst [pd2 pr]), none, none, none, none, none] ⟨none, none, none, none, none, rfl⟩
  have et : trades F p pr = chsO F pr (findP p ([] ++ F.sts)) := rfl
  rw [et]
  exact changes_ev _ _ _ _ _ x4 x5 x6 x7 x8 (flr_3 F) e rfl
/-! ### the ways from a place, as a comprehension -/
abbrev atE (i f q : Nat) : E := .lc (.nm i) (.val (.ix (.var f) (.cst (.int 2)))) (.cons (.cmp .eq (.ix (.var i) (.cst (.int 0))) (.var q)) .nil) (.var i)
abbrev numsE (i f q : Nat) : E := .lc (.nm i) (.range (.cons (.bi .len (.cons (.ix (.var f) (.cst (.int 2))) .nil)) .nil)) (.cons (.cmp .eq (.ix (.ix (.ix (.var f) (.cst (.int 2))) (.var i)) (.cst (.int 0))) (.var q)) .nil) (.var i)
theorem set_at {ρ : Env} {i : Nat} {x : Option D} (h : i < ρ.length) : (ρ.set i x)[i]? = some x := List.getElem?_set_self h
theorem set_off {ρ : Env} {i j : Nat} {x : Option D} (h : i ≠ j) : (ρ.set i x)[j]? = ρ[j]? := List.getElem?_set_ne h
theorem at_lc1 (Φ : Fns) (ρ : Env) (i f q : Nat) (W : D) (s p : Int) (hi : i < ρ.length) (hq : ρ[q]? = some (some (.int p))) (hiq : i ≠ q) (h0 : D.ix W (.int 0) = .ok (.int s)) : lcF (evTests Φ (.cons (.cmp .eq (.ix (.var i) (.cst (.int 0))) (.var q)) .nil)) (ev Φ (.var i)) (.nm i) ρ W = .ok (if s = p then some W else none) := by
  have e1 := set_at (x := some W) hi
  have e2 := (set_off (x := some W) hiq).trans hq
  by_cases h : s = p
  · simp [lcF, runFn, env0, outD, Py.execs, Py.exec, exec_for, ev, evs, evAnd, evOr, evPart, evTests, evIt, lift, view, mask, tst, bindT, Tgt.bind, setAll, O.f, appD, extD, putD, haveL, Cop.f, Bop.f, Bi.f, divOk, powOk, mulOk, log2_small, Cst.d, D.isTy, D.lf, D.lfs, D.lfItems, R.bind_assoc, List.foldl, truth_non, truth_bl, truth_int, truth_lst, truth_tup, ix_t0, ix_t1, ix_t2, ix_t3, ix_t4, ix_l0, ix_l1, ix_l2, ix_l3, pd2_ix0, pd2_ix1, len_lst, len_tup, len_scr, ltD_int, eqD_int, eqD_bl, ne_int, ne_bl, cmpI_int, add_int, sub_int, mul_int, fdiv_int, mod_int, pow_int, shr_int, negI_int, asB_bl, asI_int, items_lst, items_tup, listOf_lst, listOf_tup, tupOf_lst, tupOf_tup, rangeOf_1, rangeOf_2, f1_1, f2_2, isNon_non, isNon_bl, isNon_int, isNon_tup, isNon_lst, e1, e2, h0, h]
  · simp [lcF, runFn, env0, outD, Py.execs, Py.exec, exec_for, ev, evs, evAnd, evOr, evPart, evTests, evIt, lift, view, mask, tst, bindT, Tgt.bind, setAll, O.f, appD, extD, putD, haveL, Cop.f, Bop.f, Bi.f, divOk, powOk, mulOk, log2_small, Cst.d, D.isTy, D.lf, D.lfs, D.lfItems, R.bind_assoc, List.foldl, truth_non, truth_bl, truth_int, truth_lst, truth_tup, ix_t0, ix_t1, ix_t2, ix_t3, ix_t4, ix_l0, ix_l1, ix_l2, ix_l3, pd2_ix0, pd2_ix1, len_lst, len_tup, len_scr, ltD_int, eqD_int, eqD_bl, ne_int, ne_bl, cmpI_int, add_int, sub_int, mul_int, fdiv_int, mod_int, pow_int, shr_int, negI_int, asB_bl, asI_int, items_lst, items_tup, listOf_lst, listOf_tup, tupOf_lst, tupOf_tup, rangeOf_1, rangeOf_2, f1_1, f2_2, isNon_non, isNon_bl, isNon_int, isNon_tup, isNon_lst, e1, e2, h0, h]
theorem at_it (Φ : Fns) (ρ : Env) (f : Nat) (FD : D) (ws : List D) (hf : ρ[f]? = some (some FD)) (h2 : D.ix FD (.int 2) = .ok (.tup ws)) : evIt Φ (.val (.ix (.var f) (.cst (.int 2)))) ρ = .ok ws := by
  simp [runFn, env0, outD, Py.execs, Py.exec, exec_for, ev, evs, evAnd, evOr, evPart, evTests, evIt, lift, view, mask, tst, bindT, Tgt.bind, setAll, O.f, appD, extD, putD, haveL, Cop.f, Bop.f, Bi.f, divOk, powOk, mulOk, log2_small, Cst.d, D.isTy, D.lf, D.lfs, D.lfItems, R.bind_assoc, List.foldl, truth_non, truth_bl, truth_int, truth_lst, truth_tup, ix_t0, ix_t1, ix_t2, ix_t3, ix_t4, ix_l0, ix_l1, ix_l2, ix_l3, pd2_ix0, pd2_ix1, len_lst, len_tup, len_scr, ltD_int, eqD_int, eqD_bl, ne_int, ne_bl, cmpI_int, add_int, sub_int, mul_int, fdiv_int, mod_int, pow_int, shr_int, negI_int, asB_bl, asI_int, items_lst, items_tup, listOf_lst, listOf_tup, tupOf_lst, tupOf_tup, rangeOf_1, rangeOf_2, f1_1, f2_2, isNon_non, isNon_bl, isNon_int, isNon_tup, isNon_lst, hf, h2]
theorem at_ok (Φ : Fns) (F : Flr) (hF : F.Ok) (ρ : Env) (i f q p : Nat) (hi : i < ρ.length) (hf : ρ[f]? = some (some (flrD F))) (hq : ρ[q]? = some (some (.int p))) (hiq : i ≠ q) : ev Φ (atE i f q) ρ = .ok (.lst ((F.at p).map wyD)) := by
  have e : (F.at p).map wyD = F.ways.filterMap fun w => if (w.s : Int) = p then some (wyD w) else none := by
    unfold Flr.at
    induction F.ways with
    | nil => rfl
    | cons w ws ih =>
      by_cases h : w.s = p
      · rw [List.filter_cons, decide_eq_true h, if_pos rfl, List.map_cons, List.filterMap_cons, if_pos (by omega), ih]
      · rw [List.filter_cons, decide_eq_false h, if_neg (by decide), List.filterMap_cons, if_neg (by omega), ih]
  rw [e]
  exact ev_lc_fm wyD _ F.ways (at_it Φ ρ f _ _ hf (flr_2 F)) (by have := hF.few; omega) fun w _ => at_lc1 Φ ρ i f q _ _ _ hi hq hiq (wy_0 w)
theorem nums_lc1 (Φ : Fns) (ρ : Env) (i f q : Nat) (FD WS W : D) (k s p : Int) (hi : i < ρ.length) (hf : ρ[f]? = some (some FD)) (hq : ρ[q]? = some (some (.int p))) (hif : i ≠ f) (hiq : i ≠ q) (h2 : D.ix FD (.int 2) = .ok WS) (hw : D.ix WS (.int k) = .ok W) (h0 : D.ix W (.int 0) = .ok (.int s)) : lcF (evTests Φ (.cons (.cmp .eq (.ix (.ix (.ix (.var f) (.cst (.int 2))) (.var i)) (.cst (.int 0))) (.var q)) .nil)) (ev Φ (.var i)) (.nm i) ρ (.int k) = .ok (if s = p then some (.int k) else none) := by
  have e1 := set_at (x := some (.int k)) hi
  have e2 := (set_off (x := some (.int k)) hiq).trans hq
  have e3 := (set_off (x := some (.int k)) hif).trans hf
  by_cases h : s = p
  · simp [lcF, runFn, env0, outD, Py.execs, Py.exec, exec_for, ev, evs, evAnd, evOr, evPart, evTests, evIt, lift, view, mask, tst, bindT, Tgt.bind, setAll, O.f, appD, extD, putD, haveL, Cop.f, Bop.f, Bi.f, divOk, powOk, mulOk, log2_small, Cst.d, D.isTy, D.lf, D.lfs, D.lfItems, R.bind_assoc, List.foldl, truth_non, truth_bl, truth_int, truth_lst, truth_tup, ix_t0, ix_t1, ix_t2, ix_t3, ix_t4, ix_l0, ix_l1, ix_l2, ix_l3, pd2_ix0, pd2_ix1, len_lst, len_tup, len_scr, ltD_int, eqD_int, eqD_bl, ne_int, ne_bl, cmpI_int, add_int, sub_int, mul_int, fdiv_int, mod_int, pow_int, shr_int, negI_int, asB_bl, asI_int, items_lst, items_tup, listOf_lst, listOf_tup, tupOf_lst, tupOf_tup, rangeOf_1, rangeOf_2, f1_1, f2_2, isNon_non, isNon_bl, isNon_int, isNon_tup, isNon_lst, e1, e2, e3, h2, hw, h0, h]
  · simp [lcF, runFn, env0, outD, Py.execs, Py.exec, exec_for, ev, evs, evAnd, evOr, evPart, evTests, evIt, lift, view, mask, tst, bindT, Tgt.bind, setAll, O.f, appD, extD, putD, haveL, Cop.f, Bop.f, Bi.f, divOk, powOk, mulOk, log2_small, Cst.d, D.isTy, D.lf, D.lfs, D.lfItems, R.bind_assoc, List.foldl, truth_non, truth_bl, truth_int, truth_lst, truth_tup, ix_t0, ix_t1, ix_t2, ix_t3, ix_t4, ix_l0, ix_l1, ix_l2, ix_l3, pd2_ix0, pd2_ix1, len_lst, len_tup, len_scr, ltD_int, eqD_int, eqD_bl, ne_int, ne_bl, cmpI_int, add_int, sub_int, mul_int, fdiv_int, mod_int, pow_int, shr_int, negI_int, asB_bl, asI_int, items_lst, items_tup, listOf_lst, listOf_tup, tupOf_lst, tupOf_tup, rangeOf_1, rangeOf_2, f1_1, f2_2, isNon_non, isNon_bl, isNon_int, isNon_tup, isNon_lst, e1, e2, e3, h2, hw, h0, h]
theorem nums_it (Φ : Fns) (ρ : Env) (f : Nat) (FD WS : D) (n : Int) (RG : List D) (hf : ρ[f]? = some (some FD)) (h2 : D.ix FD (.int 2) = .ok WS) (hn : D.len WS = .ok (.int n)) (hr : rangeD 0 n = .ok RG) : evIt Φ (.range (.cons (.bi .len (.cons (.ix (.var f) (.cst (.int 2))) .nil)) .nil)) ρ = .ok RG := by
  simp [runFn, env0, outD, Py.execs, Py.exec, exec_for, ev, evs, evAnd, evOr, evPart, evTests, evIt, lift, view, mask, tst, bindT, Tgt.bind, setAll, O.f, appD, extD, putD, haveL, Cop.f, Bop.f, Bi.f, divOk, powOk, mulOk, log2_small, Cst.d, D.isTy, D.lf, D.lfs, D.lfItems, R.bind_assoc, List.foldl, truth_non, truth_bl, truth_int, truth_lst, truth_tup, ix_t0, ix_t1, ix_t2, ix_t3, ix_t4, ix_l0, ix_l1, ix_l2, ix_l3, pd2_ix0, pd2_ix1, len_lst, len_tup, len_scr, ltD_int, eqD_int, eqD_bl, ne_int, ne_bl, cmpI_int, add_int, sub_int, mul_int, fdiv_int, mod_int, pow_int, shr_int, negI_int, asB_bl, asI_int, items_lst, items_tup, listOf_lst, listOf_tup, tupOf_lst, tupOf_tup, rangeOf_1, rangeOf_2, f1_1, f2_2, isNon_non, isNon_bl, isNon_int, isNon_tup, isNon_lst, hf, h2, hn, hr]
theorem nums_ok (Φ : Fns) (F : Flr) (hF : F.Ok) (ρ : Env) (i f q p : Nat) (hi : i < ρ.length) (hf : ρ[f]? = some (some (flrD F))) (hq : ρ[q]? = some (some (.int p))) (hif : i ≠ f) (hiq : i ≠ q) : ev Φ (numsE i f q) ρ = .ok (.lst ((F.nums p).map fun k : Nat => D.int (k : Int))) := by
  have hl := hF.few
  have e0 : (F.nums p).map (fun k : Nat => D.int (k : Int)) = (List.range F.ways.length).filterMap fun k => if ((F.way k).s : Int) = p then some (D.int (k : Int)) else none := by
    unfold Flr.nums Flr.way
    induction List.range F.ways.length with
    | nil => rfl
    | cons k ks ih =>
      by_cases h : (F.ways.getD k ⟨0, 0, 0, 0⟩).s = p
      · rw [List.filter_cons, decide_eq_true h, if_pos rfl, List.map_cons, List.filterMap_cons, if_pos (by omega), ih]
      · rw [List.filter_cons, decide_eq_false h, if_neg (by decide), List.filterMap_cons, if_neg (by omega), ih]
  rw [e0]
  exact ev_lc_fm (fun k : Nat => D.int (k : Int)) _ (List.range F.ways.length) (nums_it Φ ρ f _ _ _ _ hf (flr_2 F) (len_map_tup wyD F.ways) (rangeD_nat (by omega))) (by simp; omega) fun k hk => nums_lc1 Φ ρ i f q _ _ _ _ _ _ hi hf hq hif hiq (flr_2 F) (ways_ix (way_some (List.mem_range.mp hk))) (wy_0 _)
theorem nums_ne {F : Flr} (hF : F.Ok) {p : Nat} (hp : p < F.own.length) : F.nums p ≠ [] := fun e => by
  obtain ⟨w, hw, hs⟩ := hF.has p hp
  obtain ⟨k, hk, _⟩ := at_nums.mp (at_mem.mpr ⟨hw, hs⟩)
  rw [e] at hk
  cases hk
/-! ### more coins, more can be done -/
theorem chgs_mono {F : Flr} {p : Nat} {pr pr' : Pr} (h1 : pr.1 ≤ pr'.1) (h2 : pr.2 ≤ pr'.2) : chgs F p pr ≤ chgs F p pr' := by
  unfold chgs
  cases F.stall p with
  | none => exact Nat.le_refl _
  | some s =>
    simp only
    unfold tradesN
    refine Nat.div_le_div_right ?_
    split <;> omega
theorem chg_mono {F : Flr} {p : Nat} {pr pr' : Pr} (h1 : pr.1 ≤ pr'.1) (h2 : pr.2 ≤ pr'.2) (t : Nat) : (chg F p pr t).1 ≤ (chg F p pr' t).1 ∧ (chg F p pr t).2 ≤ (chg F p pr' t).2 := by
  unfold chg
  cases F.stall p with
  | none => exact ⟨h1, h2⟩
  | some s =>
    simp only
    unfold trade
    split <;> simp only <;> omega
theorem hB_up (F : Flr) (hF : F.Ok) : Up F (hB F) := fun p hp pr pr' hi hi' h1 h2 hh => by
  rw [hB_hw F hF hp hi] at hh
  rw [hB_hw F hF hp hi']
  exact hw_up F hF p hp pr pr' hi hi' h1 h2 hh
theorem deed_up (F : Flr) (hF : F.Ok) {p : Nat} {e pr : Pr} (h1 : e.1 ≤ pr.1) (h2 : e.2 ≤ pr.2) {d : Nat × Nat} (hd : deedW F (hB F) p e = some d) : d.1 ≤ chgs F p pr ∧ d.2 ∈ F.nums p ∧ leads F (hB F) (chg F p pr d.1) (F.way d.2) = true := by
  obtain ⟨a, b, c⟩ := deedW_some hd
  refine ⟨Nat.le_trans a (chgs_mono h1 h2), b, ?_⟩
  have hwe := (hF.ends _ (way_mem (nums_mem.mp b).1)).2
  obtain ⟨m1, m2⟩ := chg_mono (F := F) (p := p) h1 h2 d.1
  exact leads_up (hB_up F hF) hwe m1 m2 c
theorem taker_stall {F : Flr} (hF : F.Ok) {p : Nat} (ho : F.own.getD p false = false) : F.stall p = none := by
  cases hs : F.stall p with
  | none => rfl
  | some s =>
    obtain ⟨h1, h2⟩ := stall_mem hs
    have := (hF.st s h1).2.1
    rw [h2, ho] at this
    cases this
theorem leads_behind {F : Flr} {h : Nat → Pr → Bool} {pr : Pr} {w : Wy} (e : leads F h pr w = true) : ∃ q, behind F pr w = some q ∧ h w.e q = true ∧ F.In q := by
  unfold leads at e
  cases hb : behind F pr w with
  | none => rw [hb] at e; cases e
  | some q => rw [hb] at e; exact ⟨q, rfl, e, behind_in hb⟩
/-! ### small things -/
theorem eq_lst_nil {α : Type} (f : α → D) (l : List α) (n : Nat) (h : ∀ x ∈ l, Dn n (f x)) (hn : n ≤ 50) : D.eq (.lst (l.map f)) (.lst []) = .ok (.bl (decide (l = []))) := by
  rw [eqLst (n := n + 1) (Dn.lst fun x hx => by
    obtain ⟨p, hp, rfl⟩ := List.mem_map.mp hx
    exact h p hp) (Dn.lst fun x hx => by cases hx) (by omega)]
  cases l <;> simp [PySem.PyData.eqvAll]
theorem bord_ne_nil (b : List Pr) : D.ne (bordD b) (.tup []) = .ok (.bl (!decide (b = []))) := by
  have e := bord_eq b []
  unfold D.ne
  rw [show (D.tup [] : D) = bordD [] from rfl, e]
  rfl
theorem rowD_D (r : Pr × (Nat × Nat)) (n : Nat) : Dn (n + 2) (rowD r) := Dn.tup fun x hx => by
  rcases List.mem_cons.mp hx with rfl | hx
  · exact pd2_D _ n
  · rcases List.mem_cons.mp hx with rfl | hx
    · exact Dn.int _ _
    · rcases List.mem_cons.mp hx with rfl | hx
      · exact Dn.int _ _
      · cases hx
theorem rowD_0 (r : Pr × (Nat × Nat)) : D.ix (rowD r) (.int 0) = .ok (pd2 r.1) := ix_t0 _ _
theorem rowD_sl (r : Pr × (Nat × Nat)) : D.sl (rowD r) (some 1) none = .ok (.tup [.int r.2.1, .int r.2.2]) := rfl
/-- an item by a number cut to the length -/
theorem ix_mod {α : Type} (f : α → D) (l : List α) (hl : l ≠ []) (n : Int) : ∃ a ∈ l, D.ix (.lst (l.map f)) (.int (n % (l.length : Nat))) = .ok (f a) ∧ D.ix (.tup (l.map f)) (.int (n % (l.length : Nat))) = .ok (f a) := by
  have h0 : 0 < l.length := by
    cases l with
    | nil => exact absurd rfl hl
    | cons a l => simp
  obtain ⟨a, b⟩ := emod_rng n (m := (l.length : Int)) (by omega)
  obtain ⟨j, hj⟩ := Int.eq_ofNat_of_zero_le a
  rw [hj] at b ⊢
  have hjl : j < l.length := by omega
  refine ⟨l[j], List.getElem_mem hjl, ix_lst_nat ?_, ix_tup_nat ?_⟩
  · rw [List.getElem?_map, List.getElem?_eq_getElem hjl]; rfl
  · rw [List.getElem?_map, List.getElem?_eq_getElem hjl]; rfl
theorem bl_any (bs : List Bool) : D.anyL (.lst (bs.map D.bl)) = .ok (.bl (bs.any id)) := by
  unfold D.anyL
  simp only [asBls_map]
theorem tabl_ix (F : Flr) (p : Nat) (hp : p < F.own.length) : D.ix (tablD (tabl F)) (.int p) = .ok (.tup ((rowsP F p).map rowD)) := by
  refine ix_lst_nat ?_
  unfold tabl
  rw [List.getElem?_map, List.getElem?_map, List.getElem?_range hp]
  rfl
theorem allL_trues (n : Nat) : D.allL (.lst ((List.range n).map fun _ => D.bl true)) = .ok (.bl true) := by
  have e : (List.range n).map (fun _ => D.bl true) = ((List.range n).map fun _ => true).map D.bl := by
    rw [List.map_map]
    rfl
  have h : ((List.range n).map fun _ => true).all id = true := by
    rw [List.all_eq_true]
    intro x hx
    obtain ⟨_, _, rfl⟩ := List.mem_map.mp hx
    rfl
  rw [e, allL_bl, h]
theorem rowD_eqv (a b : Pr × (Nat × Nat)) : PySem.PyData.eqv (rowD a).pd (rowD b).pd = decide (a = b) := by
  obtain ⟨p, t, k⟩ := a
  obtain ⟨q, u, v⟩ := b
  show (PySem.PyData.eqv (pd2 p).pd (pd2 q).pd && (((t : Int) == u) && (((k : Int) == v) && true))) = _
  rw [pd2_eqv]
  have e1 : ((t : Int) == u) = decide (t = u) := by
    by_cases h : t = u
    · simp [h]
    · rw [decide_eq_false h]
      exact beq_eq_false_iff_ne.mpr (by omega)
  have e2 : ((k : Int) == v) = decide (k = v) := by
    by_cases h : k = v
    · simp [h]
    · rw [decide_eq_false h]
      exact beq_eq_false_iff_ne.mpr (by omega)
  rw [e1, e2]
  by_cases h1 : p = q <;> by_cases h2 : t = u <;> by_cases h3 : k = v <;> simp [h1, h2, h3]
theorem tabl_eq (a b : List (List (Pr × (Nat × Nat)))) : D.eq (tablD a) (tablD b) = .ok (.bl (decide (a = b))) := by
  have dn : ∀ t, Dn 4 (tablD t) := fun t => Dn.lst fun x hx => by
    obtain ⟨p, _, rfl⟩ := List.mem_map.mp hx
    exact Dn.tup fun y hy => by
      obtain ⟨r, _, rfl⟩ := List.mem_map.mp hy
      exact rowD_D r 0
  have e : ∀ x y : List (Pr × (Nat × Nat)), PySem.PyData.eqv (D.tup (x.map rowD)).pd (D.tup (y.map rowD)).pd = decide (x = y) := fun x y => by
    show PySem.PyData.eqvAll (D.pds (x.map rowD)) (D.pds (y.map rowD)) = _
    rw [D.pds_eq, D.pds_eq, List.map_map, List.map_map]
    exact eqv_enc (fun o => (rowD o).pd) rowD_eqv x y
  have h1 := dn a
  have h2 := dn b
  unfold tablD at h1 h2 ⊢
  rw [eqLst h1 h2 (by omega), List.map_map, List.map_map]
  exact congrArg (fun k => R.ok (D.bl k)) (eqv_enc (fun l : List (Pr × (Nat × Nat)) => (D.tup (l.map rowD)).pd) e a b)
end Py

namespace Py
open PySem PySem.Spec PyProof.Rows L2
/-! ## the laws k32, k43, k45: how long a pair lasts, reckoned there -/
theorem due_body (RD PN PD TD BD : D) (k : Int) (x : Bool) (e1 : D.ix RD (.int k) = .ok TD) (e2 : D.ix TD PN = .ok BD) (e3 : g_t_law_held [BD, PD] = .ok (.bl x)) : Py.execs [(2, g_t_law_held)] [] L_t_law_due_0 [some RD, some PN, some PD, some (.int k)] = if x then .ok (.nx [some RD, some PN, some PD, some (.int k)]) else .ok (.rt (.int k)) := by
  cases x <;> simp [L_t_law_due_0, runFn, env0, outD, Py.execs, Py.exec, exec_for, ev, evs, evAnd, evOr, evPart, evTests, evIt, lift, view, mask, tst, bindT, Tgt.bind, setAll, O.f, appD, extD, putD, haveL, Cop.f, Bop.f, Bi.f, divOk, powOk, mulOk, log2_small, Cst.d, D.isTy, D.lf, D.lfs, D.lfItems, R.bind_assoc, List.foldl, truth_non, truth_bl, truth_int, truth_lst, truth_tup, ix_t0, ix_t1, ix_t2, ix_t3, ix_t4, ix_l0, ix_l1, ix_l2, ix_l3, pd2_ix0, pd2_ix1, len_lst, len_tup, len_scr, ltD_int, eqD_int, eqD_bl, ne_int, ne_bl, cmpI_int, add_int, sub_int, mul_int, fdiv_int, mod_int, pow_int, shr_int, negI_int, asB_bl, asI_int, items_lst, items_tup, listOf_lst, listOf_tup, tupOf_lst, tupOf_tup, rangeOf_1, rangeOf_2, f1_1, f2_2, isNon_non, isNon_bl, isNon_int, isNon_tup, isNon_lst, e1, e2, e3]
theorem due_ev (RD PN PD : D) (n : Int) (RG : List D) (o : Option D) (hl : D.len RD = .ok (.int n)) (hr : rangeD 0 n = .ok RG) (e : (∀ d, o = some d → forGo (.nm 3) (Py.execs [(2, g_t_law_held)] [] L_t_law_due_0) RG [some RD, some PN, some PD, none] = .ok (.rt d)) ∧ (o = none → ∃ x, forGo (.nm 3) (Py.execs [(2, g_t_law_held)] [] L_t_law_due_0) RG [some RD, some PN, some PD, none] = .ok (.nx [some RD, some PN, some PD, x]))) :
    g_t_law_due [RD, PN, PD] = .ok (o.getD .non) := by
  cases o with
  | none =>
    obtain ⟨x, e1⟩ := e.2 rfl
    simp [g_t_law_due, b_t_law_due, runFn, env0, outD, Py.execs, Py.exec, exec_for, ev, evs, evAnd, evOr, evPart, evTests, evIt, lift, view, mask, tst, bindT, Tgt.bind, setAll, O.f, appD, extD, putD, haveL, Cop.f, Bop.f, Bi.f, divOk, powOk, mulOk, log2_small, Cst.d, D.isTy, D.lf, D.lfs, D.lfItems, R.bind_assoc, List.foldl, truth_non, truth_bl, truth_int, truth_lst, truth_tup, ix_t0, ix_t1, ix_t2, ix_t3, ix_t4, ix_l0, ix_l1, ix_l2, ix_l3, pd2_ix0, pd2_ix1, len_lst, len_tup, len_scr, ltD_int, eqD_int, eqD_bl, ne_int, ne_bl, cmpI_int, add_int, sub_int, mul_int, fdiv_int, mod_int, pow_int, shr_int, negI_int, asB_bl, asI_int, items_lst, items_tup, listOf_lst, listOf_tup, tupOf_lst, tupOf_tup, rangeOf_1, rangeOf_2, f1_1, f2_2, isNon_non, isNon_bl, isNon_int, isNon_tup, isNon_lst, hl, hr, e1]
  | some d =>
    have e1 := e.1 d rfl
    simp [g_t_law_due, b_t_law_due, runFn, env0, outD, Py.execs, Py.exec, exec_for, ev, evs, evAnd, evOr, evPart, evTests, evIt, lift, view, mask, tst, bindT, Tgt.bind, setAll, O.f, appD, extD, putD, haveL, Cop.f, Bop.f, Bi.f, divOk, powOk, mulOk, log2_small, Cst.d, D.isTy, D.lf, D.lfs, D.lfItems, R.bind_assoc, List.foldl, truth_non, truth_bl, truth_int, truth_lst, truth_tup, ix_t0, ix_t1, ix_t2, ix_t3, ix_t4, ix_l0, ix_l1, ix_l2, ix_l3, pd2_ix0, pd2_ix1, len_lst, len_tup, len_scr, ltD_int, eqD_int, eqD_bl, ne_int, ne_bl, cmpI_int, add_int, sub_int, mul_int, fdiv_int, mod_int, pow_int, shr_int, negI_int, asB_bl, asI_int, items_lst, items_tup, listOf_lst, listOf_tup, tupOf_lst, tupOf_tup, rangeOf_1, rangeOf_2, f1_1, f2_2, isNon_non, isNon_bl, isNon_int, isNon_tup, isNon_lst, hl, hr, e1]
theorem due_ok (rs : List (List (List Pr))) (p : Nat) (pr : Pr) (hp : ∀ r ∈ rs, p < r.length) (hn : rs.length ≤ 100000) : g_t_law_due [rdsD rs, .int p, pd2 pr] = .ok (optN ((List.range rs.length).find? fun k => !hld ((rs.getD k []).getD p []) pr)) := by
  have e := forGo_first (t := .nm 3) (body := Py.execs [(2, g_t_law_held)] [] L_t_law_due_0) (enc := fun k : Nat => D.int (k : Int)) (fun ρ => ∃ x, ρ = [some (rdsD rs), some (.int p), some (pd2 pr), x]) (fun k : Nat => if !hld ((rs.getD k []).getD p []) pr then some (D.int (k : Int)) else none) (List.range rs.length) (fun k hk ρ hρ => by
    obtain ⟨x, rfl⟩ := hρ
    have hk := List.mem_range.mp hk
    have hpk : p < (rs.getD k []).length := by
      rw [List.getD_eq_getElem?_getD, List.getElem?_eq_getElem hk]
      exact hp _ (List.getElem_mem hk)
    have b := due_body _ _ _ _ _ _ _ (rds_ix hk) (tell_ix hpk) (heldB_ok ((rs.getD k []).getD p []) pr)
    refine ⟨_, rfl, fun v hv => ?_, fun hn => ⟨[some (rdsD rs), some (.int p), some (pd2 pr), some (.int k)], .inl ?_, _, rfl⟩⟩
    · cases hl : hld ((rs.getD k []).getD p []) pr <;> rw [hl] at hv b <;> cases hv
      exact b
    · cases hl : hld ((rs.getD k []).getD p []) pr <;> rw [hl] at hn b <;> cases hn
      exact b) [some (rdsD rs), some (.int p), some (pd2 pr), none] ⟨none, rfl⟩
  rw [findSome_find] at e
  rw [optN_get]
  refine due_ev _ _ _ _ _ _ (len_map_lst _ _) (rangeD_nat (n := rs.length) (by omega)) ⟨e.1, fun hn => ?_⟩
  obtain ⟨ρ', e1, x, rfl⟩ := e.2 hn
  exact ⟨x, e1⟩
theorem due_rds (F : Flr) (hF : F.Ok) (p : Nat) (hp : p < F.own.length) (pr : Pr) (hi : F.In pr) : g_t_law_due [rdsD (rds F), .int p, pd2 pr] = .ok (optN (lst F p pr)) := by
  have hT := (rT_spec F hF).1
  rw [due_ok (rds F) p pr (fun r hr => by rw [rds_mem_len F hF r hr]; exact hp) (by rw [rds_len]; omega), rds_len]
  unfold lst
  congr 2
  refine find_congr fun k hk => ?_
  have hk := List.mem_range.mp hk
  rw [rds_at F (by omega), tell_at _ _ (by rw [(lowsN_ok F hF k).1]; exact hp), hld_rd F hF k hp hi]
/-- a place and a pair -/
def qD (q : Nat × Pr) : D := .tup [.int q.1, pd2 q.2]
theorem lfs_append (a b : List D) : D.lfs (a ++ b) = (D.lfs a && D.lfs b) := by
  rw [D.lfs_eq, D.lfs_eq, D.lfs_eq, List.all_append]
theorem qD_lfs (qs : List (Nat × Pr)) : D.lfs (qs.map qD) = true := by
  rw [D.lfs_eq, List.all_eq_true]
  intro x hx
  obtain ⟨q, _, rfl⟩ := List.mem_map.mp hx
  rfl
theorem pickS_sub {α : Type} {xs : List α} {k : Int} {x : α} (h : x ∈ pickS xs k) : x ∈ xs := by
  unfold pickS at h
  obtain ⟨i, _, e⟩ := List.mem_filterMap.mp h
  exact List.mem_of_getElem? e
theorem pickS_map {α β : Type} (f : α → β) (xs : List α) (k : Int) : pickS (xs.map f) k = (pickS xs k).map f := by
  unfold pickS
  rw [List.length_map, List.map_filterMap]
  congr 1
  funext i
  rw [List.getElem?_map]
end Py

namespace Py_k41
open PySem PySem.Spec PyProof.Rows L2 Py
/-! ## the terms of purseborder_k41_borders_told, printed by gen.py -/
def topS (i : Nat) : Stmt := PySem.Challenge.pw_purseborder_k41_borders_told.main.body.getD i (.Pass ⟨0, 0, 0, 0⟩)
def C_law_cell : Cfg := ⟨["_law_script", "_law_k"], [], ["len"], [], false⟩
def C_law_owners : Cfg := ⟨["_law_script", "_law_many", "_law_number", "_law_found", "_law_place"], [], ["range", "tuple"], [("_law_cell", 2)], false⟩
def C_law_brims : Cfg := ⟨["_law_script", "_law_many", "_law_number", "_law_found"], [], ["min", "tuple"], [("_law_cell", 2)], false⟩
def C_law_coins : Cfg := ⟨["_law_number"], [], [], [], false⟩
def C_law_ways : Cfg := ⟨["_law_script", "_law_many", "_law_number", "_law_wide", "_law_found", "_law_place", "_law_size", "_law_k", "_law_at", "_law_drawn", "_law_rest"], [], ["int", "range", "tuple", "sorted", "set"], [("_law_cell", 2), ("_law_coins", 1)], false⟩
def C_law_stalls : Cfg := ⟨["_law_script", "_law_owners_here", "_law_found", "_law_place", "_law_drawn", "_law_rest", "_law_give", "_law_get"], [], ["range", "len", "tuple"], [("_law_cell", 2)], false⟩
def C_law_floor : Cfg := ⟨["_law_script", "_law_number", "_law_many", "_law_owners_here", "_law_brims_here", "_law_ways_here", "_law_stalls_here"], [], ["len"], [("_law_cell", 2), ("_law_owners", 2), ("_law_brims", 2), ("_law_ways", 2), ("_law_stalls", 2)], false⟩
def C_border_of : Cfg := ⟨["low", "found", "coins"], [], ["range", "len", "tuple"], [], false⟩
def C_through : Cfg := ⟨["floor", "way", "low", "found", "coins", "first_brim", "second_brim", "need"], [], ["range", "min", "max"], [], false⟩
def C_greatest_of : Cfg := ⟨["some"], [], ["max"], [], false⟩
def C_least_of : Cfg := ⟨["some", "one"], [], ["min"], [], false⟩
def C_is_whole : Cfg := ⟨["thing"], [], ["isinstance", "int", "bool"], [], false⟩
def C_is_within : Cfg := ⟨["thing", "least", "most"], [], [], [("is_whole", 1)], false⟩
def C_check_place : Cfg := ⟨["floor", "place"], [], ["len"], [("is_within", 3)], false⟩
def C_stall_at : Cfg := ⟨["floor", "place", "stall"], [], [], [("check_place", 2)], false⟩
def C_given_first : Cfg := ⟨["stall", "low", "found", "coins", "ways", "times", "need"], [], ["range", "len", "max"], [("least_of", 1)], false⟩
def C_given_second : Cfg := ⟨["stall", "low", "brim", "found", "coins", "ways", "times", "need"], [], ["range", "len", "min"], [("least_of", 1)], false⟩
def C_next_low : Cfg := ⟨["floor", "place", "lows", "ways", "columns", "low", "stall", "way", "coins", "column"], [("KEEPER", (.str ("keeper" : Str)))], ["range"], [("through", 3), ("greatest_of", 1), ("least_of", 1), ("stall_at", 2), ("given_first", 2), ("given_second", 3)], false⟩
def C_rounds : Cfg := ⟨["floor", "lows", "found", "more", "owner", "place", "low"], [], ["range", "len"], [("border_of", 1), ("next_low", 3)], false⟩
def C_borders : Cfg := ⟨["floor"], [], [], [("rounds", 1)], false⟩
def L_law_asked_0 : Ss := (.cons (.asg true (.nm 7) (.call 0 (.cons (.var 0) (.cons (.bin .add (.cst (.int 37)) (.var 5)) .nil)))) (.cons (.app true 4 (.tup (.cons (.bin .mod (.var 7) (.bin .add (.ix (.ix (.var 1) (.cst (.int 0))) (.cst (.int 0))) (.cst (.int 1)))) (.cons (.bin .mod (.bin .fdiv (.var 7) (.cst (.int 13))) (.bin .add (.ix (.ix (.var 1) (.cst (.int 0))) (.cst (.int 1))) (.cst (.int 1)))) .nil)))) .nil))
def b_law_asked : Ss := (.cons (.own true 4 (.disp (.cons (.tup (.cons (.cst (.int 0)) (.cons (.cst (.int 0)) .nil))) (.cons (.ix (.var 1) (.cst (.int 0))) .nil)))) (.cons (.for_ true (.nm 5) (.range (.cons (.bin .mod (.call 0 (.cons (.var 0) (.cons (.cst (.int 36)) .nil))) (.cst (.int 4))) .nil)) L_law_asked_0) (.cons (.asg true (.nm 6) (.bin .fdiv (.call 0 (.cons (.var 0) (.cons (.cst (.int 36)) .nil))) (.cst (.int 4)))) (.cons (.ite (.cmp .gt (.bi .len (.cons (.var 3) .nil)) (.cst (.int 0))) (.cons (.asg true (.tp [8, 9]) (.ix (.var 3) (.bin .mod (.bin .fdiv (.var 6) (.cst (.int 8))) (.bi .len (.cons (.var 3) .nil))))) (.cons (.own false 4 (.add (.var 4) (.lst (.cons (.tup (.cons (.var 8) (.cons (.var 9) .nil))) (.cons (.tup (.cons (.bi .max2 (.cons (.cst (.int 0)) (.cons (.bin .sub (.var 8) (.cst (.int 1))) .nil))) (.cons (.var 9) .nil))) (.cons (.tup (.cons (.var 8) (.cons (.bi .max2 (.cons (.cst (.int 0)) (.cons (.bin .sub (.var 9) (.cst (.int 1))) .nil))) .nil))) .nil)))))) .nil)) .nil) (.cons (.ret (.var 4)) .nil)))))
def g_law_asked : List D → R D := runFn [(2, g_t_law_cell)] 10 [4] b_law_asked
def C_law_asked : Cfg := ⟨["_law_script", "_law_floor_here", "_law_place", "_law_border", "_law_found", "_law_k", "_law_at", "_law_cell_here", "_law_x", "_law_y"], [], ["range", "len", "max"], [("_law_cell", 2)], false⟩
def C_is_row : Cfg := ⟨["thing", "many"], [], ["isinstance", "tuple", "len"], [], false⟩
def C_check_pair : Cfg := ⟨["floor", "pair"], [], [], [("is_row", 2), ("is_within", 3)], false⟩
def C_at_or_above : Cfg := ⟨["pair", "other"], [], [], [], false⟩
def C_holds : Cfg := ⟨["border", "pair", "least"], [], [], [("at_or_above", 2)], false⟩
def C_enough : Cfg := ⟨["floor", "place", "pair"], [], [], [("check_place", 2), ("check_pair", 2), ("holds", 2), ("borders", 1)], false⟩
def C_law_held : Cfg := ⟨["_law_border", "_law_pair", "_law_x", "_law_y"], [], [], [], false⟩
def L_law_0 : Ss := (.cons (.asg true (.nm 6) (.call 5 (.cons (.var 1) (.cons (.var 3) (.cons (.var 4) .nil))))) (.cons (.ite (.or (.cons (.not (.isi (.var 6) .bool)) (.cons (.cmp .ne (.var 6) (.call 6 (.cons (.ix (.var 2) (.var 3)) (.cons (.var 4) .nil)))) .nil))) (.cons (.ret (.cst (.bl false))) .nil) .nil) .nil))
def b_law : Ss := (.cons (.asg true (.nm 1) (.call 0 (.cons (.var 0) .nil))) (.cons (.own true 2 (.call 1 (.cons (.var 1) .nil))) (.cons (.ite (.or (.cons (.not (.isi (.var 2) .list)) (.cons (.cmp .ne (.var 2) (.ix (.call 2 (.cons (.var 1) .nil)) (.neg (.cst (.int 1))))) .nil))) (.cons (.ret (.cst (.bl false))) .nil) .nil) (.cons (.asg true (.nm 3) (.bin .mod (.bin .fdiv (.call 3 (.cons (.var 0) (.cons (.cst (.int 36)) .nil))) (.cst (.int 4))) (.bi .len (.cons (.ix (.var 1) (.cst (.int 1))) .nil)))) (.cons (.forC (.nm 4) 4 (.cons (.var 0) (.cons (.var 1) (.cons (.var 3) (.cons (.ix (.var 2) (.var 3)) .nil)))) L_law_0) (.cons (.own false 5 (.listOf (.var 2))) (.cons (.clr 2) (.cons (.ret (.cmp .eq (.call 1 (.cons (.var 1) .nil)) (.var 5))) .nil))))))))
def g_law : List D → R D := runFn [(1, g_t_law_floor), (1, g_borders), (1, g_rounds), (2, g_t_law_cell), (4, g_law_asked), (3, g_enough), (2, g_t_law_held)] 7 [2, 5] b_law
def C_law : Cfg := ⟨["_law_script", "_law_floor_here", "_law_found", "_law_place", "_law_pair", "_law_kept", "_law_told"], [], ["isinstance", "list", "len", "bool"], [("_law_floor", 1), ("borders", 1), ("rounds", 1), ("_law_cell", 2), ("_law_asked", 4), ("enough", 3), ("_law_held", 2)], false⟩
theorem S_law_cell : FnScope C_law_cell.N ["_law_script", "_law_k"] (defScope (topS 28)) := ⟨rfl, rfl, rfl, by decide +kernel, rfl, by decide +kernel, by decide +kernel⟩
theorem chk_law_cell : chkSs C_law_cell (defScope (topS 28)) [] b_t_law_cell (defBody (topS 28)) = true := by decide +kernel
theorem S_law_owners : FnScope C_law_owners.N ["_law_script", "_law_many"] (defScope (topS 31)) := ⟨rfl, rfl, rfl, by decide +kernel, rfl, by decide +kernel, by decide +kernel⟩
theorem chk_law_owners : chkSs C_law_owners (defScope (topS 31)) [3] b_t_law_owners (defBody (topS 31)) = true := by decide +kernel
theorem S_law_brims : FnScope C_law_brims.N ["_law_script", "_law_many"] (defScope (topS 30)) := ⟨rfl, rfl, rfl, by decide +kernel, rfl, by decide +kernel, by decide +kernel⟩
theorem chk_law_brims : chkSs C_law_brims (defScope (topS 30)) [] b_t_law_brims (defBody (topS 30)) = true := by decide +kernel
theorem S_law_coins : FnScope C_law_coins.N ["_law_number"] (defScope (topS 29)) := ⟨rfl, rfl, rfl, by decide +kernel, rfl, by decide +kernel, by decide +kernel⟩
theorem chk_law_coins : chkSs C_law_coins (defScope (topS 29)) [] b_t_law_coins (defBody (topS 29)) = true := by decide +kernel
theorem S_law_ways : FnScope C_law_ways.N ["_law_script", "_law_many"] (defScope (topS 32)) := ⟨rfl, rfl, rfl, by decide +kernel, rfl, by decide +kernel, by decide +kernel⟩
theorem chk_law_ways : chkSs C_law_ways (defScope (topS 32)) [4] b_t_law_ways (defBody (topS 32)) = true := by decide +kernel
theorem S_law_stalls : FnScope C_law_stalls.N ["_law_script", "_law_owners_here"] (defScope (topS 33)) := ⟨rfl, rfl, rfl, by decide +kernel, rfl, by decide +kernel, by decide +kernel⟩
theorem chk_law_stalls : chkSs C_law_stalls (defScope (topS 33)) [2] b_t_law_stalls (defBody (topS 33)) = true := by decide +kernel
theorem S_law_floor : FnScope C_law_floor.N ["_law_script"] (defScope (topS 34)) := ⟨rfl, rfl, rfl, by decide +kernel, rfl, by decide +kernel, by decide +kernel⟩
theorem chk_law_floor : chkSs C_law_floor (defScope (topS 34)) [] b_t_law_floor (defBody (topS 34)) = true := by decide +kernel
theorem S_border_of : FnScope C_border_of.N ["low"] (defScope (topS 22)) := ⟨rfl, rfl, rfl, by decide +kernel, rfl, by decide +kernel, by decide +kernel⟩
theorem chk_border_of : chkSs C_border_of (defScope (topS 22)) [1] b_border_of (defBody (topS 22)) = true := by decide +kernel
theorem S_through : FnScope C_through.N ["floor", "way", "low"] (defScope (topS 16)) := ⟨rfl, rfl, rfl, by decide +kernel, rfl, by decide +kernel, by decide +kernel⟩
theorem chk_through : chkSs C_through (defScope (topS 16)) [3] b_through (defBody (topS 16)) = true := by decide +kernel
theorem S_greatest_of : FnScope C_greatest_of.N ["some"] (defScope (topS 18)) := ⟨rfl, rfl, rfl, by decide +kernel, rfl, by decide +kernel, by decide +kernel⟩
theorem chk_greatest_of : chkSs C_greatest_of (defScope (topS 18)) [] b_greatest_of (defBody (topS 18)) = true := by decide +kernel
theorem S_least_of : FnScope C_least_of.N ["some"] (defScope (topS 17)) := ⟨rfl, rfl, rfl, by decide +kernel, rfl, by decide +kernel, by decide +kernel⟩
theorem chk_least_of : chkSs C_least_of (defScope (topS 17)) [] b_least_of (defBody (topS 17)) = true := by decide +kernel
theorem S_is_whole : FnScope C_is_whole.N ["thing"] (defScope (topS 6)) := ⟨rfl, rfl, rfl, by decide +kernel, rfl, by decide +kernel, by decide +kernel⟩
theorem chk_is_whole : chkSs C_is_whole (defScope (topS 6)) [] b_is_whole (defBody (topS 6)) = true := by decide +kernel
theorem S_is_within : FnScope C_is_within.N ["thing", "least", "most"] (defScope (topS 7)) := ⟨rfl, rfl, rfl, by decide +kernel, rfl, by decide +kernel, by decide +kernel⟩
theorem chk_is_within : chkSs C_is_within (defScope (topS 7)) [] b_is_within (defBody (topS 7)) = true := by decide +kernel
theorem S_check_place : FnScope C_check_place.N ["floor", "place"] (defScope (topS 9)) := ⟨rfl, rfl, rfl, by decide +kernel, rfl, by decide +kernel, by decide +kernel⟩
theorem chk_check_place : chkSs C_check_place (defScope (topS 9)) [] b_check_place (defBody (topS 9)) = true := by decide +kernel
theorem S_stall_at : FnScope C_stall_at.N ["floor", "place"] (defScope (topS 11)) := ⟨rfl, rfl, rfl, by decide +kernel, rfl, by decide +kernel, by decide +kernel⟩
theorem chk_stall_at : chkSs C_stall_at (defScope (topS 11)) [] b_stall_at (defBody (topS 11)) = true := by decide +kernel
theorem S_given_first : FnScope C_given_first.N ["stall", "low"] (defScope (topS 19)) := ⟨rfl, rfl, rfl, by decide +kernel, rfl, by decide +kernel, by decide +kernel⟩
theorem chk_given_first : chkSs C_given_first (defScope (topS 19)) [2, 4] b_given_first (defBody (topS 19)) = true := by decide +kernel
theorem S_given_second : FnScope C_given_second.N ["stall", "low", "brim"] (defScope (topS 20)) := ⟨rfl, rfl, rfl, by decide +kernel, rfl, by decide +kernel, by decide +kernel⟩
theorem chk_given_second : chkSs C_given_second (defScope (topS 20)) [3, 5] b_given_second (defBody (topS 20)) = true := by decide +kernel
theorem S_next_low : FnScope C_next_low.N ["floor", "place", "lows"] (defScope (topS 21)) := ⟨rfl, rfl, rfl, by decide +kernel, rfl, by decide +kernel, by decide +kernel⟩
theorem chk_next_low : chkSs C_next_low (defScope (topS 21)) [] b_next_low (defBody (topS 21)) = true := by decide +kernel
theorem S_rounds : FnScope C_rounds.N ["floor"] (defScope (topS 23)) := ⟨rfl, rfl, rfl, by decide +kernel, rfl, by decide +kernel, by decide +kernel⟩
theorem chk_rounds : chkSs C_rounds (defScope (topS 23)) [2] b_rounds (defBody (topS 23)) = true := by decide +kernel
theorem S_borders : FnScope C_borders.N ["floor"] (defScope (topS 25)) := ⟨rfl, rfl, rfl, by decide +kernel, rfl, by decide +kernel, by decide +kernel⟩
theorem chk_borders : chkSs C_borders (defScope (topS 25)) [] b_borders (defBody (topS 25)) = true := by decide +kernel
theorem S_law_asked : FnScope C_law_asked.N ["_law_script", "_law_floor_here", "_law_place", "_law_border"] (defScope (topS 36)) := ⟨rfl, rfl, rfl, by decide +kernel, rfl, by decide +kernel, by decide +kernel⟩
theorem chk_law_asked : chkSs C_law_asked (defScope (topS 36)) [4] b_law_asked (defBody (topS 36)) = true := by decide +kernel
theorem S_is_row : FnScope C_is_row.N ["thing", "many"] (defScope (topS 8)) := ⟨rfl, rfl, rfl, by decide +kernel, rfl, by decide +kernel, by decide +kernel⟩
theorem chk_is_row : chkSs C_is_row (defScope (topS 8)) [] b_is_row (defBody (topS 8)) = true := by decide +kernel
theorem S_check_pair : FnScope C_check_pair.N ["floor", "pair"] (defScope (topS 10)) := ⟨rfl, rfl, rfl, by decide +kernel, rfl, by decide +kernel, by decide +kernel⟩
theorem chk_check_pair : chkSs C_check_pair (defScope (topS 10)) [] b_check_pair (defBody (topS 10)) = true := by decide +kernel
theorem S_at_or_above : FnScope C_at_or_above.N ["pair", "other"] (defScope (topS 13)) := ⟨rfl, rfl, rfl, by decide +kernel, rfl, by decide +kernel, by decide +kernel⟩
theorem chk_at_or_above : chkSs C_at_or_above (defScope (topS 13)) [] b_at_or_above (defBody (topS 13)) = true := by decide +kernel
theorem S_holds : FnScope C_holds.N ["border", "pair"] (defScope (topS 14)) := ⟨rfl, rfl, rfl, by decide +kernel, rfl, by decide +kernel, by decide +kernel⟩
theorem chk_holds : chkSs C_holds (defScope (topS 14)) [] b_holds (defBody (topS 14)) = true := by decide +kernel
theorem S_enough : FnScope C_enough.N ["floor", "place", "pair"] (defScope (topS 26)) := ⟨rfl, rfl, rfl, by decide +kernel, rfl, by decide +kernel, by decide +kernel⟩
theorem chk_enough : chkSs C_enough (defScope (topS 26)) [] b_enough (defBody (topS 26)) = true := by decide +kernel
theorem S_law_held : FnScope C_law_held.N ["_law_border", "_law_pair"] (defScope (topS 35)) := ⟨rfl, rfl, rfl, by decide +kernel, rfl, by decide +kernel, by decide +kernel⟩
theorem chk_law_held : chkSs C_law_held (defScope (topS 35)) [] b_t_law_held (defBody (topS 35)) = true := by decide +kernel
theorem S_law : FnScope C_law.N ["_law_script"] (defScope (topS 37)) := ⟨rfl, rfl, rfl, by decide +kernel, rfl, by decide +kernel, by decide +kernel⟩
theorem chk_law : chkSs C_law (defScope (topS 37)) [2, 5] b_law (defBody (topS 37)) = true := by decide +kernel
theorem all_ok {P : Program} {w : World} {K : PySem.W.Frag} {h : Heap} {mg : Str → Option Value} {fa : Addr} (X : K.In h) (G : h.Ns mainGlobals mg) (hfa : mg "law" = some (.ref fa)) {f_law_cell f_law_owners f_law_brims f_law_coins f_law_ways f_law_stalls f_law_floor f_border_of f_through f_greatest_of f_least_of f_is_whole f_is_within f_check_place f_stall_at f_given_first f_given_second f_next_low f_rounds f_borders f_law_asked f_is_row f_check_pair f_at_or_above f_holds f_enough f_law_held f_law : Addr} {fd_law_cell fd_law_owners fd_law_brims fd_law_coins fd_law_ways fd_law_stalls fd_law_floor fd_border_of fd_through fd_greatest_of fd_least_of fd_is_whole fd_is_within fd_check_place fd_stall_at fd_given_first fd_given_second fd_next_low fd_rounds fd_borders fd_law_asked fd_is_row fd_check_pair fd_at_or_above fd_holds fd_enough fd_law_held fd_law : FuncData} (h_law_cell : FactP K "_law_cell" (topS 28) f_law_cell fd_law_cell) (h_law_owners : FactP K "_law_owners" (topS 31) f_law_owners fd_law_owners) (h_law_brims : FactP K "_law_brims" (topS 30) f_law_brims fd_law_brims) (h_law_coins : FactP K "_law_coins" (topS 29) f_law_coins fd_law_coins) (h_law_ways : FactP K "_law_ways" (topS 32) f_law_ways fd_law_ways) (h_law_stalls : FactP K "_law_stalls" (topS 33) f_law_stalls fd_law_stalls) (h_law_floor : FactP K "_law_floor" (topS 34) f_law_floor fd_law_floor) (h_border_of : FactP K "border_of" (topS 22) f_border_of fd_border_of) (h_through : FactP K "through" (topS 16) f_through fd_through) (h_greatest_of : FactP K "greatest_of" (topS 18) f_greatest_of fd_greatest_of) (h_least_of : FactP K "least_of" (topS 17) f_least_of fd_least_of) (h_is_whole : FactP K "is_whole" (topS 6) f_is_whole fd_is_whole) (h_is_within : FactP K "is_within" (topS 7) f_is_within fd_is_within) (h_check_place : FactP K "check_place" (topS 9) f_check_place fd_check_place) (h_stall_at : FactP K "stall_at" (topS 11) f_stall_at fd_stall_at) (h_given_first : FactP K "given_first" (topS 19) f_given_first fd_given_first) (h_given_second : FactP K "given_second" (topS 20) f_given_second fd_given_second) (h_next_low : FactP K "next_low" (topS 21) f_next_low fd_next_low) (h_rounds : FactP K "rounds" (topS 23) f_rounds fd_rounds) (h_borders : FactP K "borders" (topS 25) f_borders fd_borders) (h_law_asked : FactP K "_law_asked" (topS 36) f_law_asked fd_law_asked) (h_is_row : FactP K "is_row" (topS 8) f_is_row fd_is_row) (h_check_pair : FactP K "check_pair" (topS 10) f_check_pair fd_check_pair) (h_at_or_above : FactP K "at_or_above" (topS 13) f_at_or_above fd_at_or_above) (h_holds : FactP K "holds" (topS 14) f_holds fd_holds) (h_enough : FactP K "enough" (topS 26) f_enough fd_enough) (h_law_held : FactP K "_law_held" (topS 35) f_law_held fd_law_held) (h_law : FactP K "law" (topS 37) f_law fd_law) (z_len : PySem.W.nsIn K mainGlobals "len" = some none) (z_range : PySem.W.nsIn K mainGlobals "range" = some none) (z_tuple : PySem.W.nsIn K mainGlobals "tuple" = some none) (z_min : PySem.W.nsIn K mainGlobals "min" = some none) (z_int : PySem.W.nsIn K mainGlobals "int" = some none) (z_sorted : PySem.W.nsIn K mainGlobals "sorted" = some none) (z_set : PySem.W.nsIn K mainGlobals "set" = some none) (z_max : PySem.W.nsIn K mainGlobals "max" = some none) (z_isinstance : PySem.W.nsIn K mainGlobals "isinstance" = some none) (z_bool : PySem.W.nsIn K mainGlobals "bool" = some none) (z_list : PySem.W.nsIn K mainGlobals "list" = some none) (y_0 : ∃ u, PySem.W.nsIn K mainGlobals "KEEPER" = some (some u) ∧ RelV (Cst.v (.str ("keeper" : Str))) u)
    (hg : ∀ ns : List Int, ns.length ≤ 63 → g_law [.scr ns] = .ok (.bl true)) :
    ∃ fd : FuncData, (∀ (s : Shared) (v : Value), BindsTo s fd ⟨[v], []⟩ [("_law_script", v)]) ∧ ∀ base : Heap, K.In base → base.Ns mainGlobals mg → FnOk P w K mg base (L2.CX P w) 9 fa fd ["_law_script"] (spL K 63) := by
  have e := hfa.symm.trans (PySem.W.mg_of X G h_law.a)
  have e2 : f_law = fa := by cases e; rfl
  subst e2
  refine ⟨fd_law, fun s v => ?_, fun base _ _ => ?_⟩
  · obtain ⟨oc, od, kV, doc, pm, an, cdv, ct, osl, rfl, lk, hcd⟩ := h_law.F.ex
    exact .of_eq rfl
  have c_law_cell : (Cal.mk "_law_cell" f_law_cell fd_law_cell ["_law_script", "_law_k"] g_t_law_cell).Ok P w K mg base 1 := cal_ok (C := C_law_cell) (cs := []) (M := []) (body := b_t_law_cell) (n := 2) (g := g_t_law_cell) h_law_cell (PySem.W.mg_of X G h_law_cell.a) S_law_cell (h_law_cell.F.binds (ps := ["_law_script", "_law_k"]) fun _ _ _ _ _ _ us hl => match us, hl with | [_, _], _ => rfl) fns_nil (by rfl) (free_cons (PySem.W.mg_none_of X G z_len) free_nil) glob_nil (fun z => nomatch z) chk_law_cell (by decide) (by rfl) (by rfl)
  have c_law_owners : (Cal.mk "_law_owners" f_law_owners fd_law_owners ["_law_script", "_law_many"] g_t_law_owners).Ok P w K mg base 2 := cal_ok (C := C_law_owners) (cs := [Cal.mk "_law_cell" f_law_cell fd_law_cell ["_law_script", "_law_k"] g_t_law_cell]) (M := [3]) (body := b_t_law_owners) (n := 5) (g := g_t_law_owners) h_law_owners (PySem.W.mg_of X G h_law_owners.a) S_law_owners (h_law_owners.F.binds (ps := ["_law_script", "_law_many"]) fun _ _ _ _ _ _ us hl => match us, hl with | [_, _], _ => rfl) (fns_cons c_law_cell (by decide) fns_nil) (by rfl) (free_cons (PySem.W.mg_none_of X G z_range) (free_cons (PySem.W.mg_none_of X G z_tuple) free_nil)) glob_nil (fun z => nomatch z) chk_law_owners (by decide) (by rfl) (by rfl)
  have c_law_brims : (Cal.mk "_law_brims" f_law_brims fd_law_brims ["_law_script", "_law_many"] g_t_law_brims).Ok P w K mg base 2 := cal_ok (C := C_law_brims) (cs := [Cal.mk "_law_cell" f_law_cell fd_law_cell ["_law_script", "_law_k"] g_t_law_cell]) (M := []) (body := b_t_law_brims) (n := 4) (g := g_t_law_brims) h_law_brims (PySem.W.mg_of X G h_law_brims.a) S_law_brims (h_law_brims.F.binds (ps := ["_law_script", "_law_many"]) fun _ _ _ _ _ _ us hl => match us, hl with | [_, _], _ => rfl) (fns_cons c_law_cell (by decide) fns_nil) (by rfl) (free_cons (PySem.W.mg_none_of X G z_min) (free_cons (PySem.W.mg_none_of X G z_tuple) free_nil)) glob_nil (fun z => nomatch z) chk_law_brims (by decide) (by rfl) (by rfl)
  have c_law_coins : (Cal.mk "_law_coins" f_law_coins fd_law_coins ["_law_number"] g_t_law_coins).Ok P w K mg base 1 := cal_ok (C := C_law_coins) (cs := []) (M := []) (body := b_t_law_coins) (n := 1) (g := g_t_law_coins) h_law_coins (PySem.W.mg_of X G h_law_coins.a) S_law_coins (h_law_coins.F.binds (ps := ["_law_number"]) fun _ _ _ _ _ _ us hl => match us, hl with | [_], _ => rfl) fns_nil (by rfl) free_nil glob_nil (fun z => nomatch z) chk_law_coins (by decide) (by rfl) (by rfl)
  have c_law_ways : (Cal.mk "_law_ways" f_law_ways fd_law_ways ["_law_script", "_law_many"] g_t_law_ways).Ok P w K mg base 2 := cal_ok (C := C_law_ways) (cs := [Cal.mk "_law_cell" f_law_cell fd_law_cell ["_law_script", "_law_k"] g_t_law_cell, Cal.mk "_law_coins" f_law_coins fd_law_coins ["_law_number"] g_t_law_coins]) (M := [4]) (body := b_t_law_ways) (n := 11) (g := g_t_law_ways) h_law_ways (PySem.W.mg_of X G h_law_ways.a) S_law_ways (h_law_ways.F.binds (ps := ["_law_script", "_law_many"]) fun _ _ _ _ _ _ us hl => match us, hl with | [_, _], _ => rfl) (fns_cons c_law_cell (by decide) (fns_cons c_law_coins (by decide) fns_nil)) (by rfl) (free_cons (PySem.W.mg_none_of X G z_int) (free_cons (PySem.W.mg_none_of X G z_range) (free_cons (PySem.W.mg_none_of X G z_tuple) (free_cons (PySem.W.mg_none_of X G z_sorted) (free_cons (PySem.W.mg_none_of X G z_set) free_nil))))) glob_nil (fun z => nomatch z) chk_law_ways (by decide) (by rfl) (by rfl)
  have c_law_stalls : (Cal.mk "_law_stalls" f_law_stalls fd_law_stalls ["_law_script", "_law_owners_here"] g_t_law_stalls).Ok P w K mg base 2 := cal_ok (C := C_law_stalls) (cs := [Cal.mk "_law_cell" f_law_cell fd_law_cell ["_law_script", "_law_k"] g_t_law_cell]) (M := [2]) (body := b_t_law_stalls) (n := 8) (g := g_t_law_stalls) h_law_stalls (PySem.W.mg_of X G h_law_stalls.a) S_law_stalls (h_law_stalls.F.binds (ps := ["_law_script", "_law_owners_here"]) fun _ _ _ _ _ _ us hl => match us, hl with | [_, _], _ => rfl) (fns_cons c_law_cell (by decide) fns_nil) (by rfl) (free_cons (PySem.W.mg_none_of X G z_range) (free_cons (PySem.W.mg_none_of X G z_len) (free_cons (PySem.W.mg_none_of X G z_tuple) free_nil))) glob_nil (fun z => nomatch z) chk_law_stalls (by decide) (by rfl) (by rfl)
  have c_law_floor : (Cal.mk "_law_floor" f_law_floor fd_law_floor ["_law_script"] g_t_law_floor).Ok P w K mg base 3 := cal_ok (C := C_law_floor) (cs := [Cal.mk "_law_cell" f_law_cell fd_law_cell ["_law_script", "_law_k"] g_t_law_cell, Cal.mk "_law_owners" f_law_owners fd_law_owners ["_law_script", "_law_many"] g_t_law_owners, Cal.mk "_law_brims" f_law_brims fd_law_brims ["_law_script", "_law_many"] g_t_law_brims, Cal.mk "_law_ways" f_law_ways fd_law_ways ["_law_script", "_law_many"] g_t_law_ways, Cal.mk "_law_stalls" f_law_stalls fd_law_stalls ["_law_script", "_law_owners_here"] g_t_law_stalls]) (M := []) (body := b_t_law_floor) (n := 7) (g := g_t_law_floor) h_law_floor (PySem.W.mg_of X G h_law_floor.a) S_law_floor (h_law_floor.F.binds (ps := ["_law_script"]) fun _ _ _ _ _ _ us hl => match us, hl with | [_], _ => rfl) (fns_cons c_law_cell (by decide) (fns_cons c_law_owners (by decide) (fns_cons c_law_brims (by decide) (fns_cons c_law_ways (by decide) (fns_cons c_law_stalls (by decide) fns_nil))))) (by rfl) (free_cons (PySem.W.mg_none_of X G z_len) free_nil) glob_nil (fun z => nomatch z) chk_law_floor (by decide) (by rfl) (by rfl)
  have c_border_of : (Cal.mk "border_of" f_border_of fd_border_of ["low"] g_border_of).Ok P w K mg base 1 := cal_ok (C := C_border_of) (cs := []) (M := [1]) (body := b_border_of) (n := 3) (g := g_border_of) h_border_of (PySem.W.mg_of X G h_border_of.a) S_border_of (h_border_of.F.binds (ps := ["low"]) fun _ _ _ _ _ _ us hl => match us, hl with | [_], _ => rfl) fns_nil (by rfl) (free_cons (PySem.W.mg_none_of X G z_range) (free_cons (PySem.W.mg_none_of X G z_len) (free_cons (PySem.W.mg_none_of X G z_tuple) free_nil))) glob_nil (fun z => nomatch z) chk_border_of (by decide) (by rfl) (by rfl)
  have c_through : (Cal.mk "through" f_through fd_through ["floor", "way", "low"] g_through).Ok P w K mg base 1 := cal_ok (C := C_through) (cs := []) (M := [3]) (body := b_through) (n := 8) (g := g_through) h_through (PySem.W.mg_of X G h_through.a) S_through (h_through.F.binds (ps := ["floor", "way", "low"]) fun _ _ _ _ _ _ us hl => match us, hl with | [_, _, _], _ => rfl) fns_nil (by rfl) (free_cons (PySem.W.mg_none_of X G z_range) (free_cons (PySem.W.mg_none_of X G z_min) (free_cons (PySem.W.mg_none_of X G z_max) free_nil))) glob_nil (fun z => nomatch z) chk_through (by decide) (by rfl) (by rfl)
  have c_greatest_of : (Cal.mk "greatest_of" f_greatest_of fd_greatest_of ["some"] g_greatest_of).Ok P w K mg base 1 := cal_ok (C := C_greatest_of) (cs := []) (M := []) (body := b_greatest_of) (n := 1) (g := g_greatest_of) h_greatest_of (PySem.W.mg_of X G h_greatest_of.a) S_greatest_of (h_greatest_of.F.binds (ps := ["some"]) fun _ _ _ _ _ _ us hl => match us, hl with | [_], _ => rfl) fns_nil (by rfl) (free_cons (PySem.W.mg_none_of X G z_max) free_nil) glob_nil (fun z => nomatch z) chk_greatest_of (by decide) (by rfl) (by rfl)
  have c_least_of : (Cal.mk "least_of" f_least_of fd_least_of ["some"] g_least_of).Ok P w K mg base 1 := cal_ok (C := C_least_of) (cs := []) (M := []) (body := b_least_of) (n := 2) (g := g_least_of) h_least_of (PySem.W.mg_of X G h_least_of.a) S_least_of (h_least_of.F.binds (ps := ["some"]) fun _ _ _ _ _ _ us hl => match us, hl with | [_], _ => rfl) fns_nil (by rfl) (free_cons (PySem.W.mg_none_of X G z_min) free_nil) glob_nil (fun z => nomatch z) chk_least_of (by decide) (by rfl) (by rfl)
  have c_is_whole : (Cal.mk "is_whole" f_is_whole fd_is_whole ["thing"] g_is_whole).Ok P w K mg base 1 := cal_ok (C := C_is_whole) (cs := []) (M := []) (body := b_is_whole) (n := 1) (g := g_is_whole) h_is_whole (PySem.W.mg_of X G h_is_whole.a) S_is_whole (h_is_whole.F.binds (ps := ["thing"]) fun _ _ _ _ _ _ us hl => match us, hl with | [_], _ => rfl) fns_nil (by rfl) (free_cons (PySem.W.mg_none_of X G z_isinstance) (free_cons (PySem.W.mg_none_of X G z_int) (free_cons (PySem.W.mg_none_of X G z_bool) free_nil))) glob_nil (fun z => nomatch z) chk_is_whole (by decide) (by rfl) (by rfl)
  have c_is_within : (Cal.mk "is_within" f_is_within fd_is_within ["thing", "least", "most"] g_is_within).Ok P w K mg base 2 := cal_ok (C := C_is_within) (cs := [Cal.mk "is_whole" f_is_whole fd_is_whole ["thing"] g_is_whole]) (M := []) (body := b_is_within) (n := 3) (g := g_is_within) h_is_within (PySem.W.mg_of X G h_is_within.a) S_is_within (h_is_within.F.binds (ps := ["thing", "least", "most"]) fun _ _ _ _ _ _ us hl => match us, hl with | [_, _, _], _ => rfl) (fns_cons c_is_whole (by decide) fns_nil) (by rfl) free_nil glob_nil (fun z => nomatch z) chk_is_within (by decide) (by rfl) (by rfl)
  have c_check_place : (Cal.mk "check_place" f_check_place fd_check_place ["floor", "place"] g_check_place).Ok P w K mg base 3 := cal_ok (C := C_check_place) (cs := [Cal.mk "is_within" f_is_within fd_is_within ["thing", "least", "most"] g_is_within]) (M := []) (body := b_check_place) (n := 2) (g := g_check_place) h_check_place (PySem.W.mg_of X G h_check_place.a) S_check_place (h_check_place.F.binds (ps := ["floor", "place"]) fun _ _ _ _ _ _ us hl => match us, hl with | [_, _], _ => rfl) (fns_cons c_is_within (by decide) fns_nil) (by rfl) (free_cons (PySem.W.mg_none_of X G z_len) free_nil) glob_nil (fun z => nomatch z) chk_check_place (by decide) (by rfl) (by rfl)
  have c_stall_at : (Cal.mk "stall_at" f_stall_at fd_stall_at ["floor", "place"] g_stall_at).Ok P w K mg base 4 := cal_ok (C := C_stall_at) (cs := [Cal.mk "check_place" f_check_place fd_check_place ["floor", "place"] g_check_place]) (M := []) (body := b_stall_at) (n := 3) (g := g_stall_at) h_stall_at (PySem.W.mg_of X G h_stall_at.a) S_stall_at (h_stall_at.F.binds (ps := ["floor", "place"]) fun _ _ _ _ _ _ us hl => match us, hl with | [_, _], _ => rfl) (fns_cons c_check_place (by decide) fns_nil) (by rfl) free_nil glob_nil (fun z => nomatch z) chk_stall_at (by decide) (by rfl) (by rfl)
  have c_given_first : (Cal.mk "given_first" f_given_first fd_given_first ["stall", "low"] g_given_first).Ok P w K mg base 2 := cal_ok (C := C_given_first) (cs := [Cal.mk "least_of" f_least_of fd_least_of ["some"] g_least_of]) (M := [2, 4]) (body := b_given_first) (n := 7) (g := g_given_first) h_given_first (PySem.W.mg_of X G h_given_first.a) S_given_first (h_given_first.F.binds (ps := ["stall", "low"]) fun _ _ _ _ _ _ us hl => match us, hl with | [_, _], _ => rfl) (fns_cons c_least_of (by decide) fns_nil) (by rfl) (free_cons (PySem.W.mg_none_of X G z_range) (free_cons (PySem.W.mg_none_of X G z_len) (free_cons (PySem.W.mg_none_of X G z_max) free_nil))) glob_nil (fun z => nomatch z) chk_given_first (by decide) (by rfl) (by rfl)
  have c_given_second : (Cal.mk "given_second" f_given_second fd_given_second ["stall", "low", "brim"] g_given_second).Ok P w K mg base 2 := cal_ok (C := C_given_second) (cs := [Cal.mk "least_of" f_least_of fd_least_of ["some"] g_least_of]) (M := [3, 5]) (body := b_given_second) (n := 8) (g := g_given_second) h_given_second (PySem.W.mg_of X G h_given_second.a) S_given_second (h_given_second.F.binds (ps := ["stall", "low", "brim"]) fun _ _ _ _ _ _ us hl => match us, hl with | [_, _, _], _ => rfl) (fns_cons c_least_of (by decide) fns_nil) (by rfl) (free_cons (PySem.W.mg_none_of X G z_range) (free_cons (PySem.W.mg_none_of X G z_len) (free_cons (PySem.W.mg_none_of X G z_min) free_nil))) glob_nil (fun z => nomatch z) chk_given_second (by decide) (by rfl) (by rfl)
  have c_next_low : (Cal.mk "next_low" f_next_low fd_next_low ["floor", "place", "lows"] g_next_low).Ok P w K mg base 5 := cal_ok (C := C_next_low) (cs := [Cal.mk "through" f_through fd_through ["floor", "way", "low"] g_through, Cal.mk "greatest_of" f_greatest_of fd_greatest_of ["some"] g_greatest_of, Cal.mk "least_of" f_least_of fd_least_of ["some"] g_least_of, Cal.mk "stall_at" f_stall_at fd_stall_at ["floor", "place"] g_stall_at, Cal.mk "given_first" f_given_first fd_given_first ["stall", "low"] g_given_first, Cal.mk "given_second" f_given_second fd_given_second ["stall", "low", "brim"] g_given_second]) (M := []) (body := b_next_low) (n := 10) (g := g_next_low) h_next_low (PySem.W.mg_of X G h_next_low.a) S_next_low (h_next_low.F.binds (ps := ["floor", "place", "lows"]) fun _ _ _ _ _ _ us hl => match us, hl with | [_, _, _], _ => rfl) (fns_cons c_through (by decide) (fns_cons c_greatest_of (by decide) (fns_cons c_least_of (by decide) (fns_cons c_stall_at (by decide) (fns_cons c_given_first (by decide) (fns_cons c_given_second (by decide) fns_nil)))))) (by rfl) (free_cons (PySem.W.mg_none_of X G z_range) free_nil) (glob_cons (y_0.imp fun u e => ⟨PySem.W.mg_of X G e.1, e.2⟩) glob_nil) (fun z => nomatch z) chk_next_low (by decide) (by rfl) (by rfl)
  have c_rounds : (Cal.mk "rounds" f_rounds fd_rounds ["floor"] g_rounds).Ok P w K mg base 6 := cal_ok (C := C_rounds) (cs := [Cal.mk "border_of" f_border_of fd_border_of ["low"] g_border_of, Cal.mk "next_low" f_next_low fd_next_low ["floor", "place", "lows"] g_next_low]) (M := [2]) (body := b_rounds) (n := 7) (g := g_rounds) h_rounds (PySem.W.mg_of X G h_rounds.a) S_rounds (h_rounds.F.binds (ps := ["floor"]) fun _ _ _ _ _ _ us hl => match us, hl with | [_], _ => rfl) (fns_cons c_border_of (by decide) (fns_cons c_next_low (by decide) fns_nil)) (by rfl) (free_cons (PySem.W.mg_none_of X G z_range) (free_cons (PySem.W.mg_none_of X G z_len) free_nil)) glob_nil (fun z => nomatch z) chk_rounds (by decide) (by rfl) (by rfl)
  have c_borders : (Cal.mk "borders" f_borders fd_borders ["floor"] g_borders).Ok P w K mg base 7 := cal_ok (C := C_borders) (cs := [Cal.mk "rounds" f_rounds fd_rounds ["floor"] g_rounds]) (M := []) (body := b_borders) (n := 1) (g := g_borders) h_borders (PySem.W.mg_of X G h_borders.a) S_borders (h_borders.F.binds (ps := ["floor"]) fun _ _ _ _ _ _ us hl => match us, hl with | [_], _ => rfl) (fns_cons c_rounds (by decide) fns_nil) (by rfl) free_nil glob_nil (fun z => nomatch z) chk_borders (by decide) (by rfl) (by rfl)
  have c_law_asked : (Cal.mk "_law_asked" f_law_asked fd_law_asked ["_law_script", "_law_floor_here", "_law_place", "_law_border"] g_law_asked).Ok P w K mg base 2 := cal_ok (C := C_law_asked) (cs := [Cal.mk "_law_cell" f_law_cell fd_law_cell ["_law_script", "_law_k"] g_t_law_cell]) (M := [4]) (body := b_law_asked) (n := 10) (g := g_law_asked) h_law_asked (PySem.W.mg_of X G h_law_asked.a) S_law_asked (h_law_asked.F.binds (ps := ["_law_script", "_law_floor_here", "_law_place", "_law_border"]) fun _ _ _ _ _ _ us hl => match us, hl with | [_, _, _, _], _ => rfl) (fns_cons c_law_cell (by decide) fns_nil) (by rfl) (free_cons (PySem.W.mg_none_of X G z_range) (free_cons (PySem.W.mg_none_of X G z_len) (free_cons (PySem.W.mg_none_of X G z_max) free_nil))) glob_nil (fun z => nomatch z) chk_law_asked (by decide) (by rfl) (by rfl)
  have c_is_row : (Cal.mk "is_row" f_is_row fd_is_row ["thing", "many"] g_is_row).Ok P w K mg base 1 := cal_ok (C := C_is_row) (cs := []) (M := []) (body := b_is_row) (n := 2) (g := g_is_row) h_is_row (PySem.W.mg_of X G h_is_row.a) S_is_row (h_is_row.F.binds (ps := ["thing", "many"]) fun _ _ _ _ _ _ us hl => match us, hl with | [_, _], _ => rfl) fns_nil (by rfl) (free_cons (PySem.W.mg_none_of X G z_isinstance) (free_cons (PySem.W.mg_none_of X G z_tuple) (free_cons (PySem.W.mg_none_of X G z_len) free_nil))) glob_nil (fun z => nomatch z) chk_is_row (by decide) (by rfl) (by rfl)
  have c_check_pair : (Cal.mk "check_pair" f_check_pair fd_check_pair ["floor", "pair"] g_check_pair).Ok P w K mg base 3 := cal_ok (C := C_check_pair) (cs := [Cal.mk "is_row" f_is_row fd_is_row ["thing", "many"] g_is_row, Cal.mk "is_within" f_is_within fd_is_within ["thing", "least", "most"] g_is_within]) (M := []) (body := b_check_pair) (n := 2) (g := g_check_pair) h_check_pair (PySem.W.mg_of X G h_check_pair.a) S_check_pair (h_check_pair.F.binds (ps := ["floor", "pair"]) fun _ _ _ _ _ _ us hl => match us, hl with | [_, _], _ => rfl) (fns_cons c_is_row (by decide) (fns_cons c_is_within (by decide) fns_nil)) (by rfl) free_nil glob_nil (fun z => nomatch z) chk_check_pair (by decide) (by rfl) (by rfl)
  have c_at_or_above : (Cal.mk "at_or_above" f_at_or_above fd_at_or_above ["pair", "other"] g_at_or_above).Ok P w K mg base 1 := cal_ok (C := C_at_or_above) (cs := []) (M := []) (body := b_at_or_above) (n := 2) (g := g_at_or_above) h_at_or_above (PySem.W.mg_of X G h_at_or_above.a) S_at_or_above (h_at_or_above.F.binds (ps := ["pair", "other"]) fun _ _ _ _ _ _ us hl => match us, hl with | [_, _], _ => rfl) fns_nil (by rfl) free_nil glob_nil (fun z => nomatch z) chk_at_or_above (by decide) (by rfl) (by rfl)
  have c_holds : (Cal.mk "holds" f_holds fd_holds ["border", "pair"] g_holds).Ok P w K mg base 2 := cal_ok (C := C_holds) (cs := [Cal.mk "at_or_above" f_at_or_above fd_at_or_above ["pair", "other"] g_at_or_above]) (M := []) (body := b_holds) (n := 3) (g := g_holds) h_holds (PySem.W.mg_of X G h_holds.a) S_holds (h_holds.F.binds (ps := ["border", "pair"]) fun _ _ _ _ _ _ us hl => match us, hl with | [_, _], _ => rfl) (fns_cons c_at_or_above (by decide) fns_nil) (by rfl) free_nil glob_nil (fun z => nomatch z) chk_holds (by decide) (by rfl) (by rfl)
  have c_enough : (Cal.mk "enough" f_enough fd_enough ["floor", "place", "pair"] g_enough).Ok P w K mg base 8 := cal_ok (C := C_enough) (cs := [Cal.mk "check_place" f_check_place fd_check_place ["floor", "place"] g_check_place, Cal.mk "check_pair" f_check_pair fd_check_pair ["floor", "pair"] g_check_pair, Cal.mk "holds" f_holds fd_holds ["border", "pair"] g_holds, Cal.mk "borders" f_borders fd_borders ["floor"] g_borders]) (M := []) (body := b_enough) (n := 3) (g := g_enough) h_enough (PySem.W.mg_of X G h_enough.a) S_enough (h_enough.F.binds (ps := ["floor", "place", "pair"]) fun _ _ _ _ _ _ us hl => match us, hl with | [_, _, _], _ => rfl) (fns_cons c_check_place (by decide) (fns_cons c_check_pair (by decide) (fns_cons c_holds (by decide) (fns_cons c_borders (by decide) fns_nil)))) (by rfl) free_nil glob_nil (fun z => nomatch z) chk_enough (by decide) (by rfl) (by rfl)
  have c_law_held : (Cal.mk "_law_held" f_law_held fd_law_held ["_law_border", "_law_pair"] g_t_law_held).Ok P w K mg base 1 := cal_ok (C := C_law_held) (cs := []) (M := []) (body := b_t_law_held) (n := 4) (g := g_t_law_held) h_law_held (PySem.W.mg_of X G h_law_held.a) S_law_held (h_law_held.F.binds (ps := ["_law_border", "_law_pair"]) fun _ _ _ _ _ _ us hl => match us, hl with | [_, _], _ => rfl) fns_nil (by rfl) free_nil glob_nil (fun z => nomatch z) chk_law_held (by decide) (by rfl) (by rfl)
  have c_law : (Cal.mk "law" f_law fd_law ["_law_script"] g_law).Ok P w K mg base 9 := cal_ok (C := C_law) (cs := [Cal.mk "_law_floor" f_law_floor fd_law_floor ["_law_script"] g_t_law_floor, Cal.mk "borders" f_borders fd_borders ["floor"] g_borders, Cal.mk "rounds" f_rounds fd_rounds ["floor"] g_rounds, Cal.mk "_law_cell" f_law_cell fd_law_cell ["_law_script", "_law_k"] g_t_law_cell, Cal.mk "_law_asked" f_law_asked fd_law_asked ["_law_script", "_law_floor_here", "_law_place", "_law_border"] g_law_asked, Cal.mk "enough" f_enough fd_enough ["floor", "place", "pair"] g_enough, Cal.mk "_law_held" f_law_held fd_law_held ["_law_border", "_law_pair"] g_t_law_held]) (M := [2, 5]) (body := b_law) (n := 7) (g := g_law) h_law (PySem.W.mg_of X G h_law.a) S_law (h_law.F.binds (ps := ["_law_script"]) fun _ _ _ _ _ _ us hl => match us, hl with | [_], _ => rfl) (fns_cons c_law_floor (by decide) (fns_cons c_borders (by decide) (fns_cons c_rounds (by decide) (fns_cons c_law_cell (by decide) (fns_cons c_law_asked (by decide) (fns_cons c_enough (by decide) (fns_cons c_law_held (by decide) fns_nil))))))) (by rfl) (free_cons (PySem.W.mg_none_of X G z_isinstance) (free_cons (PySem.W.mg_none_of X G z_list) (free_cons (PySem.W.mg_none_of X G z_len) (free_cons (PySem.W.mg_none_of X G z_bool) free_nil)))) glob_nil (fun z => nomatch z) chk_law (by decide) (by rfl) (by rfl)
  exact end_ok c_law rfl hg
end Py_k41
namespace Py_k41
open L2 Py
/-! ## the pairs asked -/
abbrev fsA : Fns := [(2, g_t_law_cell)]
abbrev aEnv (S FD PN BD : D) (acc : List D) (x5 x6 x7 x8 x9 : Option D) : Py.Env := [some S, some FD, some PN, some BD, some (.lst acc), x5, x6, x7, x8, x9]
theorem a0_body (S FD PN BD BR : D) (acc : List D) (k c A B : Int) (x6 x7 : Option D) (h1 : g_t_law_cell [S, .int (37 + k)] = .ok (.int c)) (f0 : D.ix FD (.int 0) = .ok BR) (b0 : D.ix BR (.int 0) = .ok (.int A)) (b1 : D.ix BR (.int 1) = .ok (.int B)) (hA : 0 < A + 1) (hB : 0 < B + 1) (ha : acc.length < 16777216) :
    Py.execs fsA [4] L_law_asked_0 (aEnv S FD PN BD acc (some (.int k)) x6 x7 none none) = .ok (.nx (aEnv S FD PN BD (acc ++ [.tup [.int (c % (A + 1)), .int (c / 13 % (B + 1))]]) (some (.int k)) x6 (some (.int c)) none none)) := by
  simp [L_law_asked_0, runFn, env0, outD, Py.execs, Py.exec, exec_for, ev, evs, evAnd, evOr, evPart, evTests, evIt, lift, view, mask, tst, bindT, Tgt.bind, setAll, O.f, appD, extD, putD, haveL, Cop.f, Bop.f, Bi.f, divOk, powOk, mulOk, log2_small, Cst.d, D.isTy, D.lf, D.lfs, D.lfItems, R.bind_assoc, List.foldl, truth_non, truth_bl, truth_int, truth_lst, truth_tup, ix_t0, ix_t1, ix_t2, ix_t3, ix_t4, ix_l0, ix_l1, ix_l2, ix_l3, pd2_ix0, pd2_ix1, len_lst, len_tup, len_scr, ltD_int, eqD_int, eqD_bl, ne_int, ne_bl, cmpI_int, add_int, sub_int, mul_int, fdiv_int, mod_int, pow_int, shr_int, negI_int, asB_bl, asI_int, items_lst, items_tup, listOf_lst, listOf_tup, tupOf_lst, tupOf_tup, rangeOf_1, rangeOf_2, f1_1, f2_2, isNon_non, isNon_bl, isNon_int, isNon_tup, isNon_lst, h1, f0, b0, b1, hA, hB, ha]
theorem lfs_pd2 (qs : List Pr) : D.lfs (qs.map pd2) = true := by
  rw [D.lfs_eq, List.all_eq_true]
  intro x hx
  obtain ⟨q, _, rfl⟩ := List.mem_map.mp hx
  rfl
theorem ask_ev0 (S FD PN BD BR : D) (c : Int) (RG l : List D) (x5 x7 : Option D) (f0 : D.ix FD (.int 0) = .ok BR) (h1 : g_t_law_cell [S, .int 36] = .ok (.int c)) (hr : rangeD 0 (c % 4) = .ok RG) (hb : BR.lf = true) (hg : forGo (.nm 5) (Py.execs fsA [4] L_law_asked_0) RG (aEnv S FD PN BD [.tup [.int 0, .int 0], BR] none none none none none) = .ok (.nx (aEnv S FD PN BD l x5 none x7 none none))) (hl : D.len BD = .ok (.int 0)) : g_law_asked [S, FD, PN, BD] = .ok (.lst l) := by
  simp [g_law_asked, b_law_asked, runFn, env0, outD, Py.execs, Py.exec, exec_for, ev, evs, evAnd, evOr, evPart, evTests, evIt, lift, view, mask, tst, bindT, Tgt.bind, setAll, O.f, appD, extD, putD, haveL, Cop.f, Bop.f, Bi.f, divOk, powOk, mulOk, log2_small, Cst.d, D.isTy, D.lf, D.lfs, D.lfItems, R.bind_assoc, List.foldl, truth_non, truth_bl, truth_int, truth_lst, truth_tup, ix_t0, ix_t1, ix_t2, ix_t3, ix_t4, ix_l0, ix_l1, ix_l2, ix_l3, pd2_ix0, pd2_ix1, len_lst, len_tup, len_scr, ltD_int, eqD_int, eqD_bl, ne_int, ne_bl, cmpI_int, add_int, sub_int, mul_int, fdiv_int, mod_int, pow_int, shr_int, negI_int, asB_bl, asI_int, items_lst, items_tup, listOf_lst, listOf_tup, tupOf_lst, tupOf_tup, rangeOf_1, rangeOf_2, f1_1, f2_2, isNon_non, isNon_bl, isNon_int, isNon_tup, isNon_lst, f0, h1, hr, hg, hl]
theorem ask_ev1 (S FD PN BD BR : D) (c n x y : Int) (RG l : List D) (x5 x7 : Option D) (f0 : D.ix FD (.int 0) = .ok BR) (h1 : g_t_law_cell [S, .int 36] = .ok (.int c)) (hr : rangeD 0 (c % 4) = .ok RG) (hb : BR.lf = true) (hg : forGo (.nm 5) (Py.execs fsA [4] L_law_asked_0) RG (aEnv S FD PN BD [.tup [.int 0, .int 0], BR] none none none none none) = .ok (.nx (aEnv S FD PN BD l x5 none x7 none none))) (hl : D.len BD = .ok (.int n)) (hn : 0 < n) (hx : D.ix BD (.int (c / 4 / 8 % n)) = .ok (.tup [.int x, .int y])) (hf : D.lfs l = true) (hll : l.length ≤ 1000) : g_law_asked [S, FD, PN, BD] = .ok (.lst (l ++ [.tup [.int x, .int y], .tup [.int (max 0 (x - 1)), .int y], .tup [.int x, .int (max 0 (y - 1))]])) := by
  have h4 : l.length + 3 ≤ 16777216 := by omega
  simp [g_law_asked, b_law_asked, runFn, env0, outD, Py.execs, Py.exec, exec_for, ev, evs, evAnd, evOr, evPart, evTests, evIt, lift, view, mask, tst, bindT, Tgt.bind, setAll, O.f, appD, extD, putD, haveL, Cop.f, Bop.f, Bi.f, divOk, powOk, mulOk, log2_small, Cst.d, D.isTy, D.lf, D.lfs, D.lfItems, R.bind_assoc, List.foldl, truth_non, truth_bl, truth_int, truth_lst, truth_tup, ix_t0, ix_t1, ix_t2, ix_t3, ix_t4, ix_l0, ix_l1, ix_l2, ix_l3, pd2_ix0, pd2_ix1, len_lst, len_tup, len_scr, ltD_int, eqD_int, eqD_bl, ne_int, ne_bl, cmpI_int, add_int, sub_int, mul_int, fdiv_int, mod_int, pow_int, shr_int, negI_int, asB_bl, asI_int, items_lst, items_tup, listOf_lst, listOf_tup, tupOf_lst, tupOf_tup, rangeOf_1, rangeOf_2, f1_1, f2_2, isNon_non, isNon_bl, isNon_int, isNon_tup, isNon_lst, f0, h1, hr, hg, hl, hn, hx, hf, h4, lfs_append, max2_ok]
theorem brims_in (F : Flr) : F.In ((F.b0 : Int), (F.b1 : Int)) := ⟨by simp only; omega, by simp only; omega, by simp only; omega, by simp only; omega⟩
theorem zero_in (F : Flr) : F.In ((0 : Int), (0 : Int)) := ⟨by simp only; omega, by simp only; omega, by simp only; omega, by simp only; omega⟩
theorem ask_ok (ns : List Int) (F : Flr) (hF : F.Ok) (PN : D) (b : List Pr) (hb : ∀ e ∈ b, F.In e) : ∃ qs : List Pr, (∀ q ∈ qs, F.In q) ∧ g_law_asked [.scr ns, flrD F, PN, bordD b] = .ok (.lst (qs.map pd2)) := by
  have hn := cell_nn ns 36
  obtain ⟨m, hm⟩ := Int.eq_ofNat_of_zero_le (show 0 ≤ cell ns 36 % 4 by omega)
  have hr := rangeD_nat (n := m) (by omega)
  rw [← hm] at hr
  obtain ⟨ρ', e, qs, x5, x7, rfl, h1, h2⟩ := forGo_inv (t := .nm 5) (body := Py.execs fsA [4] L_law_asked_0) (enc := fun k : Nat => D.int (k : Int)) (fun done ρ => ∃ (qs : List Pr) (x5 x7 : Option D), ρ = aEnv (.scr ns) (flrD F) PN (bordD b) (qs.map pd2) x5 none x7 none none ∧ qs.length = 2 + done.length ∧ ∀ q ∈ qs, F.In q) (List.range m) [] (fun d k r e ρ hρ => by
    obtain ⟨qs, x5, x7, rfl, h1, h2⟩ := hρ
    have hdl : d.length + 1 ≤ m := by
      have := congrArg List.length e
      simp at this
      omega
    have c1 := cell_ok ns (37 + k)
    rw [Int.natCast_add] at c1
    have bb := a0_body (.scr ns) (flrD F) PN (bordD b) _ (qs.map pd2) k _ F.b0 F.b1 none x7 c1 (flr_0 F) (brims_0 F) (brims_1 F) (by omega) (by omega) (by rw [List.length_map]; omega)
    have r2 := emod_rng (cell ns (37 + k)) (m := (F.b0 : Int) + 1) (by omega)
    have r3 := emod_rng (cell ns (37 + k) / 13) (m := (F.b1 : Int) + 1) (by omega)
    refine ⟨_, _, rfl, .inl bb, qs ++ [(cell ns (37 + k) % ((F.b0 : Int) + 1), cell ns (37 + k) / 13 % ((F.b1 : Int) + 1))], some (.int k), _, by rw [List.map_append]; rfl, by simp [h1]; omega, fun q hq => ?_⟩
    rcases List.mem_append.mp hq with hq | hq
    · exact h2 q hq
    · rw [List.mem_singleton] at hq
      subst hq
      exact ⟨by simp only; omega, by simp only; omega, by simp only; omega, by simp only; omega⟩) (aEnv (.scr ns) (flrD F) PN (bordD b) [.tup [.int 0, .int 0], brimsD F] none none none none none) ⟨[(0, 0), (F.b0, F.b1)], none, none, rfl, rfl, fun q hq => by
      simp only [List.mem_cons, List.not_mem_nil, or_false] at hq
      rcases hq with rfl | rfl
      · exact zero_in F
      · exact brims_in F⟩
  cases hbc : b with
  | nil =>
    rw [hbc] at e
    exact ⟨qs, h2, ask_ev0 _ _ _ _ _ _ _ _ x5 x7 (flr_0 F) (cell_ok ns 36) hr rfl e (by rfl)⟩
  | cons b0 bs =>
    rw [← hbc]
    have hl : 0 < (b.length : Int) := by rw [hbc]; simp
    have r4 := emod_rng (cell ns 36 / 4 / 8) hl
    obtain ⟨j, hj⟩ := Int.eq_ofNat_of_zero_le r4.1
    have hjl : j < b.length := by omega
    have hx : D.ix (bordD b) (.int (cell ns 36 / 4 / 8 % (b.length : Int))) = .ok (pd2 b[j]) := by
      rw [hj]
      refine ix_tup_nat ?_
      rw [List.getElem?_map, List.getElem?_eq_getElem hjl]
      rfl
    have hi := hb b[j] (List.getElem_mem hjl)
    refine ⟨qs ++ [(b[j].1, b[j].2), (max 0 (b[j].1 - 1), b[j].2), (b[j].1, max 0 (b[j].2 - 1))], fun q hq => ?_, ?_⟩
    · obtain ⟨i1, i2, i3, i4⟩ := hi
      rcases List.mem_append.mp hq with hq | hq
      · exact h2 q hq
      · simp only [List.mem_cons, List.not_mem_nil, or_false] at hq
        rcases hq with rfl | rfl | rfl
        · exact ⟨i1, i2, i3, i4⟩
        · exact ⟨by simp only; omega, by simp only; omega, i3, i4⟩
        · exact ⟨i1, i2, by simp only; omega, by simp only; omega⟩
    · rw [List.map_append]
      exact ask_ev1 _ _ _ _ _ _ _ _ _ _ _ x5 x7 (flr_0 F) (cell_ok ns 36) hr rfl e (len_map_tup _ _) hl hx (lfs_pd2 qs) (by rw [List.length_map]; simp at h1; omega)
/-! ## all of it -/
abbrev fsW : Fns := [(1, g_t_law_floor), (1, g_borders), (1, g_rounds), (2, g_t_law_cell), (4, g_law_asked), (3, g_enough), (2, g_t_law_held)]
abbrev wEnv (S FD PN : D) (l : List D) (x4 x6 : Option D) : Py.Env := [some S, some FD, some (.lst l), some PN, x4, none, x6]
theorem b0_body (S FD PN PD BD : D) (l : List D) (k : Bool) (x6 : Option D) (h1 : g_enough [FD, PN, PD] = .ok (.bl k)) (h2 : D.ix (.lst l) PN = .ok BD) (h3 : g_t_law_held [BD, PD] = .ok (.bl k)) : Py.execs fsW [2, 5] L_law_0 (wEnv S FD PN l (some PD) x6) = .ok (.nx (wEnv S FD PN l (some PD) (some (.bl k)))) := by
  cases k <;> simp [L_law_0, runFn, env0, outD, Py.execs, Py.exec, exec_for, ev, evs, evAnd, evOr, evPart, evTests, evIt, lift, view, mask, tst, bindT, Tgt.bind, setAll, O.f, appD, extD, putD, haveL, Cop.f, Bop.f, Bi.f, divOk, powOk, mulOk, log2_small, Cst.d, D.isTy, D.lf, D.lfs, D.lfItems, R.bind_assoc, List.foldl, truth_non, truth_bl, truth_int, truth_lst, truth_tup, ix_t0, ix_t1, ix_t2, ix_t3, ix_t4, ix_l0, ix_l1, ix_l2, ix_l3, pd2_ix0, pd2_ix1, len_lst, len_tup, len_scr, ltD_int, eqD_int, eqD_bl, ne_int, ne_bl, cmpI_int, add_int, sub_int, mul_int, fdiv_int, mod_int, pow_int, shr_int, negI_int, asB_bl, asI_int, items_lst, items_tup, listOf_lst, listOf_tup, tupOf_lst, tupOf_tup, rangeOf_1, rangeOf_2, f1_1, f2_2, isNon_non, isNon_bl, isNon_int, isNon_tup, isNon_lst, h1, h2, h3]
theorem law_ev (S FD RD OD BD : D) (l : List D) (c m : Int) (qs : List D) (p : Int) (x4 x6 : Option D) (h1 : g_t_law_floor [S] = .ok FD) (hfl : FD.lf = true) (h2 : g_borders [FD] = .ok (.lst l)) (hlf : D.lfs l = true) (h3 : g_rounds [FD] = .ok RD) (h4 : D.ix RD (.int (-1)) = .ok (.lst l)) (hn : D.ne (.lst l) (.lst l) = .ok (.bl false)) (he : D.eq (.lst l) (.lst l) = .ok (.bl true)) (h5 : g_t_law_cell [S, .int 36] = .ok (.int c)) (h6 : D.ix FD (.int 1) = .ok OD) (h7 : D.len OD = .ok (.int m)) (hp : D.mod (.int (c / 4)) (.int m) = .ok (.int p)) (h8 : D.ix (.lst l) (.int p) = .ok BD) (hbl : BD.lf = true) (hsl : S.lf = true) (h9 : g_law_asked [S, FD, .int p, BD] = .ok (.lst qs)) (hql : D.lfs qs = true) (hg : forGo (.nm 4) (Py.execs fsW [2, 5] L_law_0) qs (wEnv S FD (.int p) l none none) = .ok (.nx (wEnv S FD (.int p) l x4 x6))) : g_law [S] = .ok (.bl true) := by
  have hneg : D.negI (.int 1) = .ok (.int (-1)) := rfl
  have q4 := fdiv_ok (i := c) (j := 4) (by decide) (by decide)
  simp [g_law, b_law, runFn, env0, outD, Py.execs, Py.exec, exec_for, ev, evs, evAnd, evOr, evPart, evTests, evIt, lift, view, mask, tst, bindT, Tgt.bind, setAll, O.f, appD, extD, putD, haveL, Cop.f, Bop.f, Bi.f, Cst.d, D.isTy, D.lf, D.lfs, D.lfItems, R.bind_assoc, List.foldl, truth_non, truth_bl, truth_int, truth_lst, truth_tup, ix_t0, ix_t1, ix_t2, ix_t3, ix_t4, ix_l0, ix_l1, ix_l2, ix_l3, pd2_ix0, pd2_ix1, len_lst, len_tup, len_scr, ltD_int, eqD_int, eqD_bl, ne_int, ne_bl, cmpI_int, add_int, sub_int, shr_int, negI_int, asB_bl, asI_int, items_lst, items_tup, listOf_lst, listOf_tup, tupOf_lst, tupOf_tup, rangeOf_1, rangeOf_2, f1_1, f2_2, isNon_non, isNon_bl, isNon_int, isNon_tup, isNon_lst, h1, hfl, h2, hlf, h3, h4, hn, he, h5, h6, h7, hp, h8, hbl, hsl, h9, hql, hg, hneg, q4, ownRes, callC]
theorem tell_lfs (bs : List (List Pr)) : D.lfs (bs.map bordD) = true := by
  rw [D.lfs_eq, List.all_eq_true]
  intro x hx
  obtain ⟨b, _, rfl⟩ := List.mem_map.mp hx
  exact bordD_lf b
theorem flr_lf (F : Flr) : (flrD F).lf = true := by
  have h : ∀ {α : Type} (f : α → D) (l : List α), (∀ a, (f a).lf = true) → (D.tup (l.map f)).lf = true := fun f l h => by
    show D.lfs (l.map f) = true
    rw [D.lfs_eq, List.all_eq_true]
    intro x hx
    obtain ⟨a, _, rfl⟩ := List.mem_map.mp hx
    exact h a
  show ((brimsD F).lf && ((D.tup (F.own.map ownD)).lf && ((D.tup (F.ways.map wyD)).lf && ((D.tup (F.sts.map stD)).lf && true)))) = true
  rw [h ownD _ (fun k => by cases k <;> rfl), h wyD _ (fun _ => rfl), h stD _ (fun _ => rfl)]
  rfl
theorem law_ok (ns : List Int) (hn : ns.length ≤ 63) : g_law [.scr ns] = .ok (.bl true) := by
  obtain ⟨F, hF, hf, e1⟩ := tfloor_ok ns
  have h8 := hF.many
  have ho := hF.one
  have rp := emod_rng (cell ns 36 / 4) (m := (F.own.length : Int)) (by omega)
  obtain ⟨p, hp⟩ := Int.eq_ofNat_of_zero_le rp.1
  have hpl : p < F.own.length := by omega
  obtain ⟨qs, hq, e9⟩ := ask_ok ns F hF (.int p) (bd F p) (fun e he => (bd_mem F hF hpl he).1)
  obtain ⟨ρ1, l1, x4, x6, rfl⟩ := forGo_inv (t := .nm 4) (body := Py.execs fsW [2, 5] L_law_0) (enc := pd2) (fun done ρ => ∃ x4 x6, ρ = wEnv (.scr ns) (flrD F) (.int p) ((bds F).map bordD) x4 x6) qs [] (fun d q r e ρ hρ => by
    obtain ⟨x4, x6, rfl⟩ := hρ
    have hx : q ∈ qs := by
      rw [List.nil_append] at e
      rw [e]; simp
    have hi := hq q hx
    have hh := heldB_ok (bd F p) q
    have : hld (bd F p) q = hw F p q := hld_bd F hF hpl hi
    rw [this] at hh
    exact ⟨_, _, rfl, .inl (b0_body _ _ _ _ _ _ _ x6 (enough_ok F hF p hpl q hi) (bds_ix F hF p hpl) hh), _, _, rfl⟩) (wEnv (.scr ns) (flrD F) (.int p) ((bds F).map bordD) none none) ⟨none, none, rfl⟩
  have heq := tell_eq (bds F) (bds F)
  rw [decide_eq_true rfl] at heq
  exact law_ev _ _ _ _ _ ((bds F).map bordD) _ _ _ p x4 x6 e1 (flr_lf F) (borders_ok F hF) (tell_lfs _) (rounds_ok F hF) (rds_ix_last F) (by unfold D.ne; rw [show D.eq (.lst ((bds F).map bordD)) (.lst ((bds F).map bordD)) = _ from heq]; rfl) heq (cell_ok ns 36) (flr_1 F) (len_map_tup _ _) (by rw [← hp]; exact mod_ok (by omega)) (bds_ix F hF p hpl) (bordD_lf _) rfl e9 (lfs_pd2 qs) l1
end Py_k41
open PySem PySem.W PyProof.Rows
set_option maxHeartbeats 0 in
theorem PySem.Challenge.cw_purseborder_k41_borders_told_holds : PySem.Challenge.rw_purseborder_k41_borders_told.Holds := by
  w_on; o_law; k_head; (case hw => w_witness2)
  k_fill
  refine L2.walk_of (l := PySem.Challenge.rw_purseborder_k41_borders_told) (n := 63) (k := 9) (x := "_law_script") (CX := fun w => L2.CX PySem.Challenge.rw_purseborder_k41_borders_told.prog w) (sp := fun w => Py.spL _ 63) rfl (by decide) rfl ⟨rfl, by decide, by decide⟩ (fun w h Y => PySem.W.kIn_of Y) ?F (fun _ _ a ns hl hO hS => ⟨a, ns, rfl, hl, hO, hS, fun _ => rfl⟩) (fun _ _ _ _ _ h => Py.cx_never h)
  case F =>
    intro w mg fa h KX G hmg
    refine' Py_k41.all_ok KX G hmg ?h_law_cell ?h_law_owners ?h_law_brims ?h_law_coins ?h_law_ways ?h_law_stalls ?h_law_floor ?h_border_of ?h_through ?h_greatest_of ?h_least_of ?h_is_whole ?h_is_within ?h_check_place ?h_stall_at ?h_given_first ?h_given_second ?h_next_low ?h_rounds ?h_borders ?h_law_asked ?h_is_row ?h_check_pair ?h_at_or_above ?h_holds ?h_enough ?h_law_held ?h_law ?z_len ?z_range ?z_tuple ?z_min ?z_int ?z_sorted ?z_set ?z_max ?z_isinstance ?z_bool ?z_list ?y_0 Py_k41.law_ok
    (case h_law_cell => (refine' Py.fact_mk ?a ?l ?c ?k; (case a => k_is); (case l => k_is); (case c => k_is); (case k => k_is)))
    (case h_law_owners => (refine' Py.fact_mk ?a ?l ?c ?k; (case a => k_is); (case l => k_is); (case c => k_is); (case k => k_is)))
    (case h_law_brims => (refine' Py.fact_mk ?a ?l ?c ?k; (case a => k_is); (case l => k_is); (case c => k_is); (case k => k_is)))
    (case h_law_coins => (refine' Py.fact_mk ?a ?l ?c ?k; (case a => k_is); (case l => k_is); (case c => k_is); (case k => k_is)))
    (case h_law_ways => (refine' Py.fact_mk ?a ?l ?c ?k; (case a => k_is); (case l => k_is); (case c => k_is); (case k => k_is)))
    (case h_law_stalls => (refine' Py.fact_mk ?a ?l ?c ?k; (case a => k_is); (case l => k_is); (case c => k_is); (case k => k_is)))
    (case h_law_floor => (refine' Py.fact_mk ?a ?l ?c ?k; (case a => k_is); (case l => k_is); (case c => k_is); (case k => k_is)))
    (case h_border_of => (refine' Py.fact_mk ?a ?l ?c ?k; (case a => k_is); (case l => k_is); (case c => k_is); (case k => k_is)))
    (case h_through => (refine' Py.fact_mk ?a ?l ?c ?k; (case a => k_is); (case l => k_is); (case c => k_is); (case k => k_is)))
    (case h_greatest_of => (refine' Py.fact_mk ?a ?l ?c ?k; (case a => k_is); (case l => k_is); (case c => k_is); (case k => k_is)))
    (case h_least_of => (refine' Py.fact_mk ?a ?l ?c ?k; (case a => k_is); (case l => k_is); (case c => k_is); (case k => k_is)))
    (case h_is_whole => (refine' Py.fact_mk ?a ?l ?c ?k; (case a => k_is); (case l => k_is); (case c => k_is); (case k => k_is)))
    (case h_is_within => (refine' Py.fact_mk ?a ?l ?c ?k; (case a => k_is); (case l => k_is); (case c => k_is); (case k => k_is)))
    (case h_check_place => (refine' Py.fact_mk ?a ?l ?c ?k; (case a => k_is); (case l => k_is); (case c => k_is); (case k => k_is)))
    (case h_stall_at => (refine' Py.fact_mk ?a ?l ?c ?k; (case a => k_is); (case l => k_is); (case c => k_is); (case k => k_is)))
    (case h_given_first => (refine' Py.fact_mk ?a ?l ?c ?k; (case a => k_is); (case l => k_is); (case c => k_is); (case k => k_is)))
    (case h_given_second => (refine' Py.fact_mk ?a ?l ?c ?k; (case a => k_is); (case l => k_is); (case c => k_is); (case k => k_is)))
    (case h_next_low => (refine' Py.fact_mk ?a ?l ?c ?k; (case a => k_is); (case l => k_is); (case c => k_is); (case k => k_is)))
    (case h_rounds => (refine' Py.fact_mk ?a ?l ?c ?k; (case a => k_is); (case l => k_is); (case c => k_is); (case k => k_is)))
    (case h_borders => (refine' Py.fact_mk ?a ?l ?c ?k; (case a => k_is); (case l => k_is); (case c => k_is); (case k => k_is)))
    (case h_law_asked => (refine' Py.fact_mk ?a ?l ?c ?k; (case a => k_is); (case l => k_is); (case c => k_is); (case k => k_is)))
    (case h_is_row => (refine' Py.fact_mk ?a ?l ?c ?k; (case a => k_is); (case l => k_is); (case c => k_is); (case k => k_is)))
    (case h_check_pair => (refine' Py.fact_mk ?a ?l ?c ?k; (case a => k_is); (case l => k_is); (case c => k_is); (case k => k_is)))
    (case h_at_or_above => (refine' Py.fact_mk ?a ?l ?c ?k; (case a => k_is); (case l => k_is); (case c => k_is); (case k => k_is)))
    (case h_holds => (refine' Py.fact_mk ?a ?l ?c ?k; (case a => k_is); (case l => k_is); (case c => k_is); (case k => k_is)))
    (case h_enough => (refine' Py.fact_mk ?a ?l ?c ?k; (case a => k_is); (case l => k_is); (case c => k_is); (case k => k_is)))
    (case h_law_held => (refine' Py.fact_mk ?a ?l ?c ?k; (case a => k_is); (case l => k_is); (case c => k_is); (case k => k_is)))
    (case h_law => (refine' Py.fact_mk ?a ?l ?c ?k; (case a => k_is); (case l => k_is); (case c => k_is); (case k => k_is)))
    (case z_len => k_is)
    (case z_range => k_is)
    (case z_tuple => k_is)
    (case z_min => k_is)
    (case z_int => k_is)
    (case z_sorted => k_is)
    (case z_set => k_is)
    (case z_max => k_is)
    (case z_isinstance => k_is)
    (case z_bool => k_is)
    (case z_list => k_is)
    (case y_0 => (refine' Py.glob_str ?a; (case a => k_is)))
