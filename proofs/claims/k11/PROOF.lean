import PyProof.Rows.All
import Wide.All
import OpenK.AllK
import Wide.FinOn
import HandS.ForMost
import HandS.ForExc
import HandS.Wide
import HandS.Flow
import HandS.Evl
import HandS.TupAny
import HandS.TupLe
import HandS.Deep
import HandS.IsInst
import HandS.AnyAll
import KE.DataCmp
import KE.SortData
import KE.DataMinMax
import HandS.SortKw
import HandS.Conv
import PySem.Challenge.RW_purseborder_k11_at_or_above
set_option Elab.async false
set_option linter.all false
set_option maxRecDepth 100000
set_option maxHeartbeats 4000000
namespace Py
open PySem PySem.Spec PyProof.Rows L2

/-! ## data -/
inductive D where
  | non | bl (b : Bool) | int (i : Int) | str (x : Str) | tup (xs : List D) | lst (xs : List D) | scr (ns : List Int)

/-- an exception that flies: its class, its field -/
structure XD where
  cls : Str
  fld : Option (Str × D)

inductive R (α : Type) where
  | ok (a : α) | exc (x : XD) | stuck

namespace R
def bind {α β : Type} (r : R α) (f : α → R β) : R β := match r with
  | .ok a => f a
  | .exc x => .exc x
  | .stuck => .stuck
instance : Monad R where
  pure := R.ok
  bind := R.bind
@[simp] theorem bind_ok {α β : Type} (a : α) (f : α → R β) : (R.ok a >>= f) = f a := Eq.trans rfl rfl
@[simp] theorem bind_exc {α β : Type} (x : XD) (f : α → R β) : ((R.exc x : R α) >>= f) = .exc x := Eq.trans rfl rfl
@[simp] theorem bind_stuck {α β : Type} (f : α → R β) : ((R.stuck : R α) >>= f) = .stuck := Eq.trans rfl rfl
@[simp] theorem pure_ok {α : Type} (a : α) : (pure a : R α) = .ok a := Eq.trans rfl rfl
theorem bind_assoc {α β γ : Type} (r : R α) (f : α → R β) (g : β → R γ) : ((r >>= f) >>= g) = (r >>= fun a => f a >>= g) := by
  cases r <;> rfl
end R

/-! ## no list within -/
mutual
def D.lf : D → Bool
  | .tup xs => D.lfs xs
  | .lst _ => false
  | _ => true
def D.lfs : List D → Bool
  | [] => true
  | d :: ds => D.lf d && D.lfs ds
end

/-! ## data in a heap -/
mutual
inductive Rep (K : PySem.W.Frag) (H : Hp) : D → V → Prop
  | non : Rep K H .non .non
  | bl (b : Bool) : Rep K H (.bl b) (.bl b)
  | int (i : Int) : Rep K H (.int i) (.int i)
  | str (x : Str) : Rep K H (.str x) (.str x)
  | tup {a : Addr} {vs : List V} {ds : List D} : H a = some (.tup vs) → Reps K H ds vs → Rep K H (.tup ds) (.ref a)
  | lst {a : Addr} {vs : List V} {ds : List D} : H a = some (.lst vs) → Reps K H ds vs → Rep K H (.lst ds) (.ref a)
  | scr {a : Addr} {ns : List Int} : ((∃ o, H a = some (.frz o (.lst (ns.map V.int)))) ∨ (∀ H' : Hp, SqL K H' a (ns.map V.int))) → Rep K H (.scr ns) (.ref a)
inductive Reps (K : PySem.W.Frag) (H : Hp) : List D → List V → Prop
  | nil : Reps K H [] []
  | cons {d : D} {v : V} {ds : List D} {vs : List V} : Rep K H d v → Reps K H ds vs → Reps K H (d :: ds) (v :: vs)
end

abbrev Ex (H H' : Hp) : Prop := ∀ a o, H a = some o → H' a = some o
theorem Ex.refl (H : Hp) : Ex H H := fun _ _ h => h
theorem Ex.trans {H H1 H2 : Hp} (a : Ex H H1) (b : Ex H1 H2) : Ex H H2 := fun x o h => b x o (a x o h)
theorem Ex.new {H : Hp} {p : Addr} {o : HO} (h : H p = none) : Ex H (upd H p o) := fun a u e => by
  rw [upd_ne (ne_of_none e h)]
  exact e
/-- what Hs holds, and all that is new from H to H' -/
def ext (Hs H H' : Hp) : Hp := fun a => match H a with
  | some _ => Hs a
  | none => H' a

section
variable {K : PySem.W.Frag} {H H' H1 H2 Hs Ht : Hp}
mutual
theorem Rep.mono (e : Ex H H') : ∀ {d : D} {v : V}, Rep K H d v → Rep K H' d v
  | _, _, .non => .non
  | _, _, .bl b => .bl b
  | _, _, .int i => .int i
  | _, _, .str x => .str x
  | _, _, .tup h r => .tup (e _ _ h) (Reps.mono e r)
  | _, _, .lst h r => .lst (e _ _ h) (Reps.mono e r)
  | _, _, .scr h => .scr (h.imp (fun ⟨o, q⟩ => ⟨o, e _ _ q⟩) id)
theorem Reps.mono (e : Ex H H') : ∀ {ds : List D} {vs : List V}, Reps K H ds vs → Reps K H' ds vs
  | _, _, .nil => .nil
  | _, _, .cons r t => .cons (Rep.mono e r) (Reps.mono e t)
end
/-- a thing without lists needs no list -/
abbrev ExN (H H' : Hp) : Prop := ∀ a o, H a = some o → (∀ xs, o ≠ .lst xs) → H' a = some o
mutual
theorem Rep.drop (e : ExN H H') : ∀ {d : D} {v : V}, Rep K H d v → d.lf = true → Rep K H' d v
  | _, _, .non, _ => .non
  | _, _, .bl b, _ => .bl b
  | _, _, .int i, _ => .int i
  | _, _, .str x, _ => .str x
  | _, _, .tup h r, l => .tup (e _ _ h (fun _ q => nomatch q)) (Reps.drop e r (by simpa [D.lf] using l))
  | _, _, .lst h r, l => by simp [D.lf] at l
  | _, _, .scr h, _ => .scr (h.imp (fun ⟨o, q⟩ => ⟨o, e _ _ q (fun _ q => nomatch q)⟩) id)
theorem Reps.drop (e : ExN H H') : ∀ {ds : List D} {vs : List V}, Reps K H ds vs → D.lfs ds = true → Reps K H' ds vs
  | _, _, .nil, _ => .nil
  | _, _, .cons r t, l => by
    simp only [D.lfs, Bool.and_eq_true] at l
    exact .cons (Rep.drop e r l.1) (Reps.drop e t l.2)
end
theorem Rep.tupI {ds : List D} {v : V} (h : Rep K H (.tup ds) v) : ∃ a vs, v = .ref a ∧ H a = some (.tup vs) ∧ Reps K H ds vs := by
  cases h with
  | tup h r => exact ⟨_, _, rfl, h, r⟩
theorem Rep.lstI {ds : List D} {v : V} (h : Rep K H (.lst ds) v) : ∃ a vs, v = .ref a ∧ H a = some (.lst vs) ∧ Reps K H ds vs := by
  cases h with
  | lst h r => exact ⟨_, _, rfl, h, r⟩
theorem Rep.scrI {ns : List Int} {v : V} (h : Rep K H (.scr ns) v) : ∃ a, v = .ref a ∧ SqL K H a (ns.map V.int) := by
  cases h with
  | scr h =>
    refine ⟨_, rfl, ?_⟩
    rcases h with ⟨o, h⟩ | h
    · exact .inl (.inr ⟨o, h⟩)
    · exact h H
theorem Rep.intI {i : Int} {v : V} (h : Rep K H (.int i) v) : v = .int i := by cases h; rfl
theorem Rep.blI {b : Bool} {v : V} (h : Rep K H (.bl b) v) : v = .bl b := by cases h; rfl
theorem Rep.strI {x : Str} {v : V} (h : Rep K H (.str x) v) : v = .str x := by cases h; rfl
theorem Rep.nonI {v : V} (h : Rep K H .non v) : v = .non := by cases h; rfl
theorem Reps.length : ∀ {ds : List D} {vs : List V}, Reps K H ds vs → ds.length = vs.length
  | _, _, .nil => rfl
  | _, _, .cons _ t => congrArg (· + 1) (Reps.length t)
theorem Reps.get : ∀ {ds : List D} {vs : List V} {i : Nat} {d : D}, Reps K H ds vs → ds[i]? = some d → ∃ v, vs[i]? = some v ∧ Rep K H d v
  | _, _, _, _, .nil, e => by simp at e
  | _, _, 0, _, .cons r _, e => by simp at e; subst e; exact ⟨_, rfl, r⟩
  | _, _, i + 1, d, .cons _ t, e => by
    obtain ⟨u, h1, h2⟩ := Reps.get (i := i) (d := d) t (by simpa using e)
    exact ⟨u, by simpa using h1, h2⟩
theorem Reps.getV : ∀ {ds : List D} {vs : List V} {i : Nat} {v : V}, Reps K H ds vs → vs[i]? = some v → ∃ d, ds[i]? = some d ∧ Rep K H d v
  | _, _, _, _, .nil, e => by simp at e
  | _, _, 0, _, .cons r _, e => by simp at e; subst e; exact ⟨_, rfl, r⟩
  | _, _, i + 1, d, .cons _ t, e => by
    obtain ⟨u, h1, h2⟩ := Reps.getV (i := i) (v := d) t (by simpa using e)
    exact ⟨u, by simpa using h1, h2⟩
theorem Reps.append : ∀ {xs ys : List D} {us ws : List V}, Reps K H xs us → Reps K H ys ws → Reps K H (xs ++ ys) (us ++ ws)
  | _, _, _, _, .nil, s => s
  | _, _, _, _, .cons r t, s => .cons r (Reps.append t s)
theorem Reps.take : ∀ {xs : List D} {us : List V} (n : Nat), Reps K H xs us → Reps K H (xs.take n) (us.take n)
  | _, _, 0, _ => .nil
  | _, _, _ + 1, .nil => .nil
  | _, _, n + 1, .cons r t => .cons r (Reps.take n t)
theorem Reps.dropN : ∀ {xs : List D} {us : List V} (n : Nat), Reps K H xs us → Reps K H (xs.drop n) (us.drop n)
  | _, _, 0, r => r
  | _, _, _ + 1, .nil => .nil
  | _, _, n + 1, .cons r t => Reps.dropN n t
theorem Reps.set {d : D} {v : V} (r : Rep K H d v) : ∀ {xs : List D} {us : List V} (i : Nat), Reps K H xs us → Reps K H (xs.set i d) (us.set i v)
  | _, _, _, .nil => .nil
  | _, _, 0, .cons _ t => .cons r t
  | _, _, i + 1, .cons q t => .cons q (Reps.set r i t)
theorem Reps.ints : ∀ {ns : List Int}, Reps K H (ns.map D.int) (ns.map V.int)
  | [] => .nil
  | _ :: _ => .cons (.int _) Reps.ints
theorem Reps.intsI : ∀ {ns : List Int} {vs : List V}, Reps K H (ns.map D.int) vs → vs = ns.map V.int
  | [], _, .nil => rfl
  | _ :: _, _, .cons r t => by rw [Rep.intI r, Reps.intsI t]; rfl
theorem Reps.strs : ∀ {ns : List Str}, Reps K H (ns.map D.str) (ns.map V.str)
  | [] => .nil
  | _ :: _ => .cons (.str _) Reps.strs
theorem Reps.strsI : ∀ {ns : List Str} {vs : List V}, Reps K H (ns.map D.str) vs → vs = ns.map V.str
  | [], _, .nil => rfl
  | _ :: _, _, .cons r t => by rw [Rep.strI r, Reps.strsI t]; rfl
theorem Reps.blsI : ∀ {ns : List Bool} {vs : List V}, Reps K H (ns.map D.bl) vs → vs = ns.map V.bl
  | [], _, .nil => rfl
  | _ :: _, _, .cons r t => by rw [Rep.blI r, Reps.blsI t]; rfl

/-! ## the frozen part and the heap, later -/
structure Le (Hs H Hi H' : Hp) : Prop where
  old : Ex Hs Hi
  ex : Ex H H'
  sub : Ex Hi H'
  new : ∀ a o, Hi a = some o → Hs a = some o ∨ H a = none
theorem Le.refl (e : Ex Hs H) : Le Hs H Hs H := ⟨Ex.refl _, Ex.refl _, e, fun _ _ h => .inl h⟩
theorem Le.trans {Hs H Hi H' Hj H'' : Hp} (a : Le Hs H Hi H') (b : Le Hi H' Hj H'') : Le Hs H Hj H'' :=
  ⟨a.old.trans b.old, a.ex.trans b.ex, b.sub, fun x o h => by
    rcases b.new x o h with q | q
    · exact a.new x o q
    · cases z : H x with
      | none => exact .inr rfl
      | some u => rw [a.ex x u z] at q; cases q⟩
theorem Le.new1 {p : Addr} {o : HO} (e : Ex Hs H) (n : H p = none) : Le Hs H (upd Hs p o) (upd H p o) := by
  have ns : Hs p = none := by
    cases z : Hs p with
    | none => rfl
    | some u => rw [e p u z] at n; cases n
  refine ⟨Ex.new ns, Ex.new n, fun a u h => ?_, fun a u h => ?_⟩
  · by_cases q : a = p
    · subst q
      rw [upd_same] at h ⊢
      exact h
    · rw [upd_ne q] at h ⊢
      exact e a u h
  · by_cases q : a = p
    · subst q
      exact .inr n
    · rw [upd_ne q] at h
      exact .inl h
/-- a new object that is not frozen -/
theorem Le.new0 {p : Addr} {o : HO} (e : Ex Hs H) (n : H p = none) : Le Hs H Hs (upd H p o) :=
  ⟨Ex.refl _, Ex.new n, fun a u h => by
    rw [upd_ne (ne_of_none (e a u h) n)]
    exact e a u h, fun _ _ h => .inl h⟩
theorem Le.free {p : Addr} {Hi H' : Hp} (l : Le Hs H Hi H') (n : H' p = none) : H p = none := by
  cases z : H p with
  | none => rfl
  | some u => rw [l.ex p u z] at n; cases n
end

/-! ## what is wanted of a result -/
/-- how an exception lies -/
def XRep (K : PySem.W.Frag) (mg : Str → Option Value) (Hi H : Hp) (x : XD) (c : Value) (d : Option Addr) : Prop :=
  mg x.cls = some c ∧ match x.fld with
    | none => d = none
    | some (f, y) => ∃ dd v, d = some dd ∧ H dd = some (.xd [(f, v)]) ∧ Rep K Hi y v

def Pst {α β : Type} (Rel : Hp → α → β → Prop) (K : PySem.W.Frag) (mg : Str → Option Value) (Hs H : Hp) (r : R α) (Q : β → Hp → Prop) (E : XK) : Prop := match r with
  | .ok d => ∀ v Hi H', Le Hs H Hi H' → Rel Hi d v → Q v H'
  | .exc x => ∀ c d Hi H', Le Hs H Hi H' → XRep K mg Hi H' x c d → E c d H'
  | .stuck => False
abbrev PstD (K : PySem.W.Frag) (mg : Str → Option Value) (Hs H : Hp) (r : R D) (Q : VK) (E : XK) : Prop := Pst (Rep K) K mg Hs H r Q E
abbrev PstL (K : PySem.W.Frag) (mg : Str → Option Value) (Hs H : Hp) (r : R (List D)) (Q : List V → Hp → Prop) (E : XK) : Prop := Pst (Reps K) K mg Hs H r Q E
abbrev RB : Hp → Bool → Bool → Prop := fun _ b c => b = c
abbrev PstB (K : PySem.W.Frag) (mg : Str → Option Value) (Hs H : Hp) (r : R Bool) (Q : Bool → Hp → Prop) (E : XK) : Prop := Pst RB K mg Hs H r Q E
section
variable {α β γ δ : Type} {Rel : Hp → α → β → Prop} {Rel2 : Hp → γ → δ → Prop} {K : PySem.W.Frag} {mg : Str → Option Value} {Hs H Hi H1 : Hp} {E : XK}
theorem Pst.step {r : R α} {Q : β → Hp → Prop} (l : Le Hs H Hi H1) (h : Pst Rel K mg Hs H r Q E) : Pst Rel K mg Hi H1 r Q E := by
  cases r with
  | ok d => exact fun v Hj H' c q => h v Hj H' (l.trans c) q
  | exc x => exact fun v d Hj H' c q => h v d Hj H' (l.trans c) q
  | stuck => exact h
/-- a result, then the rest -/
theorem Pst.bind {r : R α} {k : α → R γ} {Q : δ → Hp → Prop} {Q1 : β → Hp → Prop} (h : Pst Rel2 K mg Hs H (r >>= k) Q E)
    (f : ∀ d, r = .ok d → ∀ v Hi H1, Le Hs H Hi H1 → Rel Hi d v → Pst Rel2 K mg Hi H1 (k d) Q E → Q1 v H1) : Pst Rel K mg Hs H r Q1 E := by
  cases r with
  | ok d => exact fun v Hj H' c q => f d rfl v Hj H' c q (Pst.step (Rel := Rel2) c h)
  | exc x => exact h
  | stuck => exact h
theorem Pst.imp {r : R α} {Q Q1 : β → Hp → Prop} (h : Pst Rel K mg Hs H r Q E) (f : ∀ v H', Q v H' → Q1 v H') : Pst Rel K mg Hs H r Q1 E := by
  cases r with
  | ok d => exact fun v Hj H' c q => f v H' (h v Hj H' c q)
  | exc x => exact h
  | stuck => exact h
/-- the answer at once -/
theorem Pst.now {d : α} {v : β} {Q : β → Hp → Prop} (h : Pst Rel K mg Hs H (.ok d) Q E) (e : Ex Hs H) (r : Rel Hs d v) : Q v H :=
  h v Hs H (Le.refl e) r
end

/-! ## slots -/
abbrev Env := List (Option D)
def ERel (K : PySem.W.Frag) (Hs : Hp) (ρ : Env) (σ : L2.St) : Prop := ρ.length ≤ σ.length ∧ ∀ (i : Nat) (d : D), ρ[i]? = some (some d) → ∃ v, σ[i]? = some (some v) ∧ Rep K Hs d v
theorem ERel.mono {K : PySem.W.Frag} {Hs Ht : Hp} {ρ : Env} {σ : L2.St} (h : ERel K Hs ρ σ) (e : Ex Hs Ht) : ERel K Ht ρ σ := ⟨h.1, fun i d q =>
  let ⟨v, a, b⟩ := h.2 i d q
  ⟨v, a, b.mono e⟩⟩
/-! ## the readings: whatever the pure function answers -/
def tD (K : PySem.W.Frag) (mg : Str → Option Value) (W : WX) (f : Env → R D) : TE := fun σ H Q =>
  ∃ (ρ : Env) (Hs : Hp), Ex Hs H ∧ ERel K Hs ρ σ ∧ PstD K mg Hs H (f ρ) Q (fun c d H' => W c d σ H')
def tDB (K : PySem.W.Frag) (mg : Str → Option Value) (W : WX) (f : Env → R Bool) : TT := fun σ H Q =>
  ∃ (ρ : Env) (Hs : Hp), Ex Hs H ∧ ERel K Hs ρ σ ∧ PstB K mg Hs H (f ρ) Q (fun c d H' => W c d σ H')
def tDL (K : PySem.W.Frag) (mg : Str → Option Value) (W : WX) (f : Env → R (List D)) : TA := fun σ H Q =>
  ∃ (ρ : Env) (Hs : Hp), Ex Hs H ∧ ERel K Hs ρ σ ∧ PstL K mg Hs H (f ρ) Q (fun c d H' => W c d σ H')
abbrev SE (X : Cx) (W : WX) (e : Expr) (f : Env → R D) : Prop := PE X e (tD X.K X.mg W f)
abbrev SB (X : Cx) (W : WX) (e : Expr) (f : Env → R Bool) : Prop := PT X e (tDB X.K X.mg W f)
abbrev SA (X : Cx) (W : WX) (es : List Expr) (f : Env → R (List D)) : Prop := PA X es (tDL X.K X.mg W f)
theorem PE.imp {X : Cx} {e : Expr} {t u : TE} (h : PE X e t) (f : ∀ σ H Q, u σ H Q → t σ H Q) : PE X e u := ⟨fun pins s σ H Q I q => h.run pins s σ H Q I (f σ H Q q)⟩
theorem PT.imp {X : Cx} {e : Expr} {t u : TT} (h : PT X e t) (f : ∀ σ H Q, u σ H Q → t σ H Q) : PT X e u := ⟨fun pins s σ H Q I q => h.run pins s σ H Q I (f σ H Q q)⟩
theorem PW.imp {X : Cx} {e : Expr} {t u : TT} (h : PW X e t) (f : ∀ σ H Q, u σ H Q → t σ H Q) : PW X e u := ⟨fun wh pins s σ H Q I q => h.run wh pins s σ H Q I (f σ H Q q)⟩
theorem PA.imp {X : Cx} {e : List Expr} {t u : TA} (h : PA X e t) (f : ∀ σ H Q, u σ H Q → t σ H Q) : PA X e u := ⟨fun pos pins s σ H Q I q => h.run pos pins s σ H Q I (f σ H Q q)⟩
end Py

namespace Py
open PySem PySem.Spec PyProof.Rows L2

/-! ## data as the library has them -/
mutual
def D.pd : D → PyData
  | .non => .none
  | .bl b => .bool b
  | .int i => .int i
  | .str x => .str x
  | .tup xs => .tuple (D.pds xs)
  | .lst xs => .list (D.pds xs)
  | .scr _ => .dict []
def D.pds : List D → List PyData
  | [] => []
  | d :: ds => D.pd d :: D.pds ds
end
mutual
/-- no script within -/
def D.ns : D → Bool
  | .tup xs => D.nss xs
  | .lst xs => D.nss xs
  | .scr _ => false
  | _ => true
def D.nss : List D → Bool
  | [] => true
  | d :: ds => D.ns d && D.nss ds
end
theorem D.pds_eq : ∀ ds : List D, D.pds ds = ds.map D.pd
  | [] => rfl
  | d :: ds => by simp [D.pds, D.pds_eq ds]
theorem D.nss_eq : ∀ ds : List D, D.nss ds = ds.all D.ns
  | [] => rfl
  | d :: ds => by simp [D.nss, D.nss_eq ds]
theorem D.lfs_eq : ∀ ds : List D, D.lfs ds = ds.all D.lf
  | [] => rfl
  | d :: ds => by simp [D.lfs, D.lfs_eq ds]

section
variable {K : PySem.W.Frag} {H : Hp}
mutual
theorem Rep.dp : ∀ {d : D} {v : V}, Rep K H d v → d.ns = true → Dp K H v d.pd
  | _, _, .non, _ => .non
  | _, _, .bl b, _ => .bl b
  | _, _, .int i, _ => .int i
  | _, _, .str x, _ => .str x
  | _, _, .tup h r, l => .tup (SqT.of h) (Reps.dp r (by simpa [D.ns] using l))
  | _, _, .lst h r, l => .lst (SqL.of h) (Reps.dp r (by simpa [D.ns] using l))
  | _, _, .scr h, l => by simp [D.ns] at l
theorem Reps.dp : ∀ {ds : List D} {vs : List V}, Reps K H ds vs → D.nss ds = true → DpAll K H vs (D.pds ds)
  | _, _, .nil, _ => .nil
  | _, _, .cons r t, l => by
    simp only [D.nss, Bool.and_eq_true] at l
    exact .cons (Rep.dp r l.1) (Reps.dp t l.2)
end
end

/-! ## a new list, a new tuple -/
section
variable {K : PySem.W.Frag} {Hs H : Hp} {ds : List D} {vs : List V} {p : Addr}
theorem fresh_s (e : Ex Hs H) (n : H p = none) : Hs p = none := by
  cases z : Hs p with
  | none => rfl
  | some u => rw [e p u z] at n; cases n
theorem mk_lst (e : Ex Hs H) (r : Reps K Hs ds vs) (n : H p = none) : Rep K (upd Hs p (.lst vs)) (.lst ds) (.ref p) :=
  .lst upd_same (r.mono (Ex.new (fresh_s e n)))
theorem mk_tup (e : Ex Hs H) (r : Reps K Hs ds vs) (n : H p = none) : Rep K (upd Hs p (.tup vs)) (.tup ds) (.ref p) :=
  .tup upd_same (r.mono (Ex.new (fresh_s e n)))
/-- a new list that nothing knows: its items stand without it -/
def FRep (K : PySem.W.Frag) (H Hi H' : Hp) (d : D) (v : V) : Prop :=
  ∃ p vs xs, d = .lst xs ∧ v = .ref p ∧ H p = none ∧ Hi p = none ∧ H' p = some (.lst vs) ∧ Reps K Hi xs vs
end

/-! ## operators on data -/
inductive Bop where
  | add | sub | mul | fdiv | mod | pow | shr | band
  deriving DecidableEq
def Bop.op : Bop → Operator
  | .add => .Add | .sub => .Sub | .mul => .Mult | .fdiv => .FloorDiv | .mod => .Mod | .pow => .Pow | .shr => .RShift | .band => .BitAnd
def divOk (j : Int) : Bool := decide (0 < j) && decide (j.natAbs.log2 < 9000)
def mulOk (i j : Int) : Bool := decide (i.natAbs.log2 + j.natAbs.log2 < 1000000)
def powOk (i j : Int) : Bool := decide (0 ≤ j) && decide (j ≤ 1000000) && decide (i.natAbs < 18446744073709551616)

def D.add : D → D → R D
  | .int a, .int b => .ok (.int (a + b))
  | .str a, .str b => if a.length + b.length ≤ 16777216 then .ok (.str (a ++ b)) else .stuck
  | .lst a, .lst b => if a.length + b.length ≤ 16777216 then .ok (.lst (a ++ b)) else .stuck
  | .tup a, .tup b => if a.length + b.length ≤ 16777216 then .ok (.tup (a ++ b)) else .stuck
  | _, _ => .stuck
def D.sub : D → D → R D
  | .int a, .int b => .ok (.int (a - b))
  | _, _ => .stuck
def D.mul : D → D → R D
  | .int a, .int b => if mulOk a b then .ok (.int (a * b)) else .stuck
  | .lst xs, .int k => if 0 ≤ k ∧ k < 16777216 ∧ xs.length * k.toNat ≤ 16777216 then .ok (.lst (List.replicate k.toNat xs).flatten) else .stuck
  | _, _ => .stuck
def D.fdiv : D → D → R D
  | .int a, .int b => if divOk b then .ok (.int (a / b)) else .stuck
  | _, _ => .stuck
def D.mod : D → D → R D
  | .int a, .int b => if 0 < b then .ok (.int (a % b)) else .stuck
  | _, _ => .stuck
def D.pow : D → D → R D
  | .int a, .int b => if powOk a b then .ok (.int (a ^ b.toNat)) else .stuck
  | _, _ => .stuck
def D.shr : D → D → R D
  | .int a, .int b => if 0 ≤ b then .ok (.int (a / 2 ^ b.toNat)) else .stuck
  | _, _ => .stuck
def D.band : D → D → R D
  | .int a, .int b => .ok (.int (Builtin.bitAnd a b))
  | _, _ => .stuck
def Bop.f : Bop → D → D → R D
  | .add => D.add | .sub => D.sub | .mul => D.mul | .fdiv => D.fdiv | .mod => D.mod | .pow => D.pow | .shr => D.shr | .band => D.band

/-- a rule's wants: whatever the pure function answers -/
def rD (K : PySem.W.Frag) (mg : Str → Option Value) (g : D → D → R D) : R2 := fun x y H Q =>
  ∃ (Hs : Hp) (a b : D) (E : XK), Ex Hs H ∧ Rep K Hs a x ∧ Rep K Hs b y ∧ PstD K mg Hs H (g a b) Q E
def rU1 (K : PySem.W.Frag) (mg : Str → Option Value) (g : D → R D) : V → Hp → VK → Prop := fun x H Q =>
  ∃ (Hs : Hp) (a : D) (E : XK), Ex Hs H ∧ Rep K Hs a x ∧ PstD K mg Hs H (g a) Q E

theorem size_eq : (sizeLine : Nat) = 16777216 := sizeLine_eq
section
variable {X : Cx}
theorem bs_add : OpR X (binaryOp .Add) (rD X.K X.mg D.add) := by
  intro pins s σ H x y v u Q I rx ry h
  obtain ⟨Hs, a, b, E, he, ra, rb, hp⟩ := h
  cases a with
  | int i =>
    cases b with
    | int j =>
      rw [ra.intI] at rx
      rw [rb.intI] at ry
      exact op_add pins s σ H _ _ v u Q I rx ry ⟨i, j, rfl, rfl, hp.now he (.int _)⟩
    | _ => exact hp.elim
  | str i =>
    cases b with
    | str j =>
      rw [ra.strI] at rx
      rw [rb.strI] at ry
      have hp : PstD X.K X.mg Hs H (if i.length + j.length ≤ 16777216 then .ok (.str (i ++ j)) else .stuck) Q E := hp
      by_cases hz : i.length + j.length ≤ 16777216
      · rw [if_pos hz] at hp
        exact op_add_str pins s σ H _ _ v u Q I rx ry ⟨i, j, rfl, rfl, by rw [size_eq]; exact hz, hp.now he (.str _)⟩
      · rw [if_neg hz] at hp
        exact hp.elim
    | _ => exact hp.elim
  | lst i =>
    cases b with
    | lst j =>
      have hp : PstD X.K X.mg Hs H (if i.length + j.length ≤ 16777216 then .ok (.lst (i ++ j)) else .stuck) Q E := hp
      by_cases hz : i.length + j.length ≤ 16777216
      · rw [if_pos hz] at hp
        obtain ⟨p, vs, rfl, e1, r1⟩ := ra.lstI
        obtain ⟨q, ws, rfl, e2, r2⟩ := rb.lstI
        refine op_cat pins s σ H _ _ v u Q I rx ry ⟨p, q, vs, ws, rfl, rfl, he _ _ e1, he _ _ e2, by rw [size_eq, ← r1.length, ← r2.length]; exact hz, fun n hn => ?_⟩
        exact hp _ _ _ (Le.new1 he hn) (mk_lst he (r1.append r2) hn)
      · rw [if_neg hz] at hp
        exact hp.elim
    | _ => exact hp.elim
  | tup i =>
    cases b with
    | tup j =>
      have hp : PstD X.K X.mg Hs H (if i.length + j.length ≤ 16777216 then .ok (.tup (i ++ j)) else .stuck) Q E := hp
      by_cases hz : i.length + j.length ≤ 16777216
      · rw [if_pos hz] at hp
        obtain ⟨p, vs, rfl, e1, r1⟩ := ra.tupI
        obtain ⟨q, ws, rfl, e2, r2⟩ := rb.tupI
        refine op_catA pins s σ H _ _ v u Q I rx ry ⟨p, q, vs, ws, rfl, rfl, SqT.of (he _ _ e1), SqT.of (he _ _ e2), by rw [size_eq, ← r1.length, ← r2.length]; exact hz, fun h0 => ?_, fun h0 h1 => ?_, fun h0 h1 n hn => ?_⟩
        · subst h0
          cases r1
          exact hp.now he (.tup e2 r2)
        · subst h1
          cases r2
          rw [List.append_nil] at hp
          exact hp.now he (.tup e1 r1)
        · exact hp _ _ _ (Le.new1 he hn) (mk_tup he (r1.append r2) hn)
      · rw [if_neg hz] at hp
        exact hp.elim
    | _ => exact hp.elim
  | _ => exact hp.elim
theorem bs_int2 {op : Value → Value → Sem Value} {g : D → D → R D} {C : Int → Int → Prop} {f : Int → Int → Int} {c : Int → Int → Bool} (ho : OpR X op (rI C fun i j => .int (f i j)))
    (hg : ∀ a b, (∃ i j, a = .int i ∧ b = .int j ∧ g a b = if c i j = true then .ok (.int (f i j)) else .stuck) ∨ g a b = .stuck) (hc : ∀ i j, c i j = true → C i j) : OpR X op (rD X.K X.mg g) := by
  intro pins s σ H x y v u Q I rx ry h
  obtain ⟨Hs, a, b, E, he, ra, rb, hp⟩ := h
  rcases hg a b with ⟨i, j, rfl, rfl, e⟩ | e
  · rw [e] at hp
    rw [ra.intI] at rx
    rw [rb.intI] at ry
    by_cases hz : c i j = true
    · rw [if_pos hz] at hp
      exact ho pins s σ H _ _ v u Q I rx ry ⟨i, j, rfl, rfl, hc i j hz, hp.now he (.int _)⟩
    · rw [if_neg hz] at hp
      exact hp.elim
  · rw [e] at hp
    exact hp.elim
theorem bs_int0 {op : Value → Value → Sem Value} {g : D → D → R D} {f : Int → Int → Int} (ho : OpR X op (rI0 fun i j => .int (f i j)))
    (hg : ∀ a b, (∃ i j, a = .int i ∧ b = .int j ∧ g a b = .ok (.int (f i j))) ∨ g a b = .stuck) : OpR X op (rD X.K X.mg g) := by
  intro pins s σ H x y v u Q I rx ry h
  obtain ⟨Hs, a, b, E, he, ra, rb, hp⟩ := h
  rcases hg a b with ⟨i, j, rfl, rfl, e⟩ | e
  · rw [e] at hp
    rw [ra.intI] at rx
    rw [rb.intI] at ry
    exact ho pins s σ H _ _ v u Q I rx ry ⟨i, j, rfl, rfl, hp.now he (.int _)⟩
  · rw [e] at hp
    exact hp.elim
theorem bs_sub : OpR X (binaryOp .Sub) (rD X.K X.mg D.sub) := bs_int0 op_sub fun a b => by
  cases a <;> cases b <;> first | exact .inl ⟨_, _, rfl, rfl, rfl⟩ | exact .inr rfl
theorem bs_band : OpR X (binaryOp .BitAnd) (rD X.K X.mg D.band) := bs_int0 op_and fun a b => by
  cases a <;> cases b <;> first | exact .inl ⟨_, _, rfl, rfl, rfl⟩ | exact .inr rfl
theorem bs_fdiv : OpR X (binaryOp .FloorDiv) (rD X.K X.mg D.fdiv) := bs_int2 (c := fun _ j => divOk j) op_fdivW (fun a b => by
  cases a <;> cases b <;> first | exact .inl ⟨_, _, rfl, rfl, rfl⟩ | exact .inr rfl) fun i j h => by
  unfold divOk at h
  simp only [Bool.and_eq_true, decide_eq_true_eq] at h
  exact h
theorem bs_mod : OpR X (binaryOp .Mod) (rD X.K X.mg D.mod) := bs_int2 (c := fun _ j => decide (0 < j)) op_mod (fun a b => by
  cases a <;> cases b <;> first | exact .inl ⟨_, _, rfl, rfl, by simp [D.mod]⟩ | exact .inr rfl) fun i j h => of_decide_eq_true h
theorem bs_pow : OpR X (binaryOp .Pow) (rD X.K X.mg D.pow) := bs_int2 (c := powOk) op_pow (fun a b => by
  cases a <;> cases b <;> first | exact .inl ⟨_, _, rfl, rfl, rfl⟩ | exact .inr rfl) fun i j h => by
  unfold powOk at h
  simp only [Bool.and_eq_true, decide_eq_true_eq] at h
  exact ⟨h.1.1, h.1.2, h.2⟩
theorem bs_shr : OpR X (binaryOp .RShift) (rD X.K X.mg D.shr) := bs_int2 (c := fun _ j => decide (0 ≤ j)) op_shr (fun a b => by
  cases a <;> cases b <;> first | exact .inl ⟨_, _, rfl, rfl, by simp [D.shr]⟩ | exact .inr rfl) fun i j h => of_decide_eq_true h
theorem reps_rep {K : PySem.W.Frag} {H : Hp} {ds : List D} {vs : List V} (r : Reps K H ds vs) : ∀ k : Nat, Reps K H (List.replicate k ds).flatten (List.replicate k vs).flatten
  | 0 => .nil
  | k + 1 => by
    rw [List.replicate_succ, List.replicate_succ, List.flatten_cons, List.flatten_cons]
    exact r.append (reps_rep r k)
theorem bs_mul : OpR X (binaryOp .Mult) (rD X.K X.mg D.mul) := by
  intro pins s σ H x y v u Q I rx ry h
  obtain ⟨Hs, a, b, E, he, ra, rb, hp⟩ := h
  cases a with
  | int i =>
    cases b with
    | int j =>
      have hp : PstD X.K X.mg Hs H (if mulOk i j then .ok (.int (i * j)) else .stuck) Q E := hp
      by_cases hz : mulOk i j = true
      · rw [if_pos hz] at hp
        rw [ra.intI] at rx
        rw [rb.intI] at ry
        exact op_mulW pins s σ H _ _ v u Q I rx ry ⟨i, j, rfl, rfl, (by unfold mulOk at hz; unfold CMulW; exact of_decide_eq_true hz), hp.now he (.int _)⟩
      · rw [if_neg hz] at hp
        exact hp.elim
    | _ => exact hp.elim
  | lst i =>
    cases b with
    | int k =>
      have hp : PstD X.K X.mg Hs H (if 0 ≤ k ∧ k < 16777216 ∧ i.length * k.toNat ≤ 16777216 then .ok (.lst (List.replicate k.toNat i).flatten) else .stuck) Q E := hp
      by_cases hz : 0 ≤ k ∧ k < 16777216 ∧ i.length * k.toNat ≤ 16777216
      · rw [if_pos hz] at hp
        obtain ⟨p, vs, rfl, e1, r1⟩ := ra.lstI
        rw [rb.intI] at ry
        refine op_rep pins s σ H _ _ v u Q I rx ry ⟨p, k, vs, rfl, rfl, he _ _ e1, by omega, by omega, by rw [size_eq, ← r1.length]; exact hz.2.2, fun n hn => ?_⟩
        exact hp _ _ _ (Le.new1 he hn) (mk_lst he (reps_rep r1 _) hn)
      · rw [if_neg hz] at hp
        exact hp.elim
    | _ => exact hp.elim
  | _ => exact hp.elim
theorem bs_all : ∀ b : Bop, OpR X (binaryOp b.op) (rD X.K X.mg b.f)
  | .add => bs_add | .sub => bs_sub | .mul => bs_mul | .fdiv => bs_fdiv | .mod => bs_mod | .pow => bs_pow | .shr => bs_shr | .band => bs_band
end

/-! ## comparisons -/
def D.deep (a : D) : Bool := a.ns && SeqAt.shaped a.pd
def D.eq : D → D → R D
  | .int i, .int j => .ok (.bl (decide (i = j)))
  | .bl i, .bl j => .ok (.bl (decide (i = j)))
  | .str i, .str j => .ok (.bl (decide (i = j)))
  | a, b => if a.deep && b.deep then .ok (.bl (PyData.eqv a.pd b.pd)) else .stuck
def D.neg : R D → R D
  | .ok (.bl b) => .ok (.bl (!b))
  | .exc x => .exc x
  | _ => .stuck
def D.ne (a b : D) : R D := D.neg (D.eq a b)
def D.nn : D → Bool
  | .non => false
  | _ => true
def D.lt : D → D → R D
  | .int i, .int j => .ok (.bl (decide (i < j)))
  | a, b => if a.ns && b.ns && PySem.W.alike a.pd b.pd && decide (a.pd.depth ≤ 64) && a.nn then .ok (.bl (PySem.W.dataLt a.pd b.pd)) else .stuck
def D.cmpI (p : Int → Int → Bool) : D → D → R D
  | .int i, .int j => .ok (.bl (p i j))
  | _, _ => .stuck
def D.flat : D → Bool
  | .non => true | .bl _ => true | .int _ => true | .str _ => true | _ => false
def D.isin : D → D → R D
  | x, .tup ys => if x.flat && ys.all D.flat then .ok (.bl (ys.any fun y => PyData.eqv y.pd x.pd)) else .stuck
  | x, .lst ys => if x.deep && (D.lst ys).deep then .ok (.bl (ys.any fun y => PyData.eqv y.pd x.pd)) else .stuck
  | .str x, .str y => if x.length = 1 then .ok (.bl (decide (x.cps.getD 0 0 ∈ y.cps.toList))) else .stuck
  | _, _ => .stuck
def D.notin (x y : D) : R D := D.neg (D.isin x y)
inductive Cop where
  | eq | ne | lt | le | gt | ge | isin | notin
  deriving DecidableEq
def Cop.op : Cop → CmpOp
  | .eq => .Eq | .ne => .NotEq | .lt => .Lt | .le => .LtE | .gt => .Gt | .ge => .GtE | .isin => .In | .notin => .NotIn
def Cop.f : Cop → D → D → R D
  | .eq => D.eq | .ne => D.ne | .lt => D.lt | .le => D.cmpI fun i j => decide (i ≤ j) | .gt => D.cmpI fun i j => decide (j < i) | .ge => D.cmpI fun i j => decide (j ≤ i)
  | .isin => D.isin | .notin => D.notin
section
variable {X : Cx}
theorem D.deep_ns {a : D} (h : a.deep = true) : a.ns = true ∧ SeqAt.shaped a.pd = true := by
  unfold D.deep at h
  simpa only [Bool.and_eq_true] using h
theorem scalE {v : V} {u : Value} {pins : List (Addr × Obj)} {σ : L2.St} {H Hs : Hp} {s : Shared} {Q : VK} {E : XK} {a b : D} {x y : V} (hu : X.A.units + 64 < cLine) (I : Inv X pins σ H s) (he : Ex Hs H) (ra : Rep X.K Hs a x) (rb : Rep X.K Hs b y)
    {vv uu : Value} (rx : RelV x vv) (ry : RelV y uu) (hp : PstD X.K X.mg Hs H (D.eq a b) Q E) : wpAny (model X.prog X.w) X.A (compareOp .Eq vv uu) (EP X pins σ Q) X.xe s := by
  have gen : PstD X.K X.mg Hs H (if a.deep && b.deep then .ok (.bl (PyData.eqv a.pd b.pd)) else .stuck) Q E → wpAny (model X.prog X.w) X.A (compareOp .Eq vv uu) (EP X pins σ Q) X.xe s := fun hp => by
    by_cases hz : (a.deep && b.deep) = true
    · rw [if_pos hz] at hp
      rw [Bool.and_eq_true] at hz
      have h1 := D.deep_ns hz.1
      have h2 := D.deep_ns hz.2
      exact op_eqD hu pins s σ H x y vv uu Q I rx ry ⟨a.pd, b.pd, (ra.mono he).dp h1.1, (rb.mono he).dp h2.1, h1.2, h2.2, hp.now he (.bl _)⟩
    · rw [if_neg hz] at hp
      exact hp.elim
  cases a with
  | int i =>
    cases b with
    | int j =>
      rw [ra.intI] at rx
      rw [rb.intI] at ry
      have hq : Q (.bl (decide (i = j))) H := hp.now he (.bl _)
      refine op_eq pins s σ H _ _ vv uu Q I rx ry ⟨rfl, ?_⟩
      have : decide (V.int i = V.int j) = decide (i = j) := by simp
      rw [this]
      exact hq
    | _ => exact gen hp
  | bl i =>
    cases b with
    | bl j =>
      rw [ra.blI] at rx
      rw [rb.blI] at ry
      have hq : Q (.bl (decide (i = j))) H := hp.now he (.bl _)
      refine op_eq pins s σ H _ _ vv uu Q I rx ry ⟨rfl, ?_⟩
      have : decide (V.bl i = V.bl j) = decide (i = j) := by simp
      rw [this]
      exact hq
    | _ => exact gen hp
  | str i =>
    cases b with
    | str j =>
      rw [ra.strI] at rx
      rw [rb.strI] at ry
      have hq : Q (.bl (decide (i = j))) H := hp.now he (.bl _)
      refine op_eq pins s σ H _ _ vv uu Q I rx ry ⟨rfl, ?_⟩
      have : decide (V.str i = V.str j) = decide (i = j) := by simp
      rw [this]
      exact hq
    | _ => exact gen hp
  | _ => exact gen hp
theorem bs_eq (hu : X.A.units + 64 < cLine) : OpR X (compareOp .Eq) (rD X.K X.mg D.eq) := by
  intro pins s σ H x y v u Q I rx ry h
  obtain ⟨Hs, a, b, E, he, ra, rb, hp⟩ := h
  exact scalE (v := x) (u := v) hu I he ra rb rx ry hp
theorem scalN {pins : List (Addr × Obj)} {σ : L2.St} {H Hs : Hp} {s : Shared} {Q : VK} {E : XK} {a b : D} {x y : V} (hu : X.A.units + 64 < cLine) (I : Inv X pins σ H s) (he : Ex Hs H) (ra : Rep X.K Hs a x) (rb : Rep X.K Hs b y)
    {vv uu : Value} (rx : RelV x vv) (ry : RelV y uu) (hp : PstD X.K X.mg Hs H (D.ne a b) Q E) : wpAny (model X.prog X.w) X.A (compareOp .NotEq vv uu) (EP X pins σ Q) X.xe s := by
  have gen : PstD X.K X.mg Hs H (D.neg (if a.deep && b.deep then .ok (.bl (PyData.eqv a.pd b.pd)) else .stuck)) Q E → wpAny (model X.prog X.w) X.A (compareOp .NotEq vv uu) (EP X pins σ Q) X.xe s := fun hp => by
    by_cases hz : (a.deep && b.deep) = true
    · rw [if_pos hz] at hp
      rw [Bool.and_eq_true] at hz
      have h1 := D.deep_ns hz.1
      have h2 := D.deep_ns hz.2
      exact op_neD hu pins s σ H x y vv uu Q I rx ry ⟨a.pd, b.pd, (ra.mono he).dp h1.1, (rb.mono he).dp h2.1, h1.2, h2.2, Pst.now (d := D.bl _) hp he (.bl _)⟩
    · rw [if_neg hz] at hp
      exact hp.elim
  cases a with
  | int i =>
    cases b with
    | int j =>
      rw [ra.intI] at rx
      rw [rb.intI] at ry
      have hq : Q (.bl (!decide (i = j))) H := Pst.now (d := D.bl _) hp he (.bl _)
      refine op_ne pins s σ H _ _ vv uu Q I rx ry ⟨rfl, ?_⟩
      have : decide (V.int i = V.int j) = decide (i = j) := by simp
      rw [this]
      exact hq
    | _ => exact gen hp
  | bl i =>
    cases b with
    | bl j =>
      rw [ra.blI] at rx
      rw [rb.blI] at ry
      have hq : Q (.bl (!decide (i = j))) H := Pst.now (d := D.bl _) hp he (.bl _)
      refine op_ne pins s σ H _ _ vv uu Q I rx ry ⟨rfl, ?_⟩
      have : decide (V.bl i = V.bl j) = decide (i = j) := by simp
      rw [this]
      exact hq
    | _ => exact gen hp
  | str i =>
    cases b with
    | str j =>
      rw [ra.strI] at rx
      rw [rb.strI] at ry
      have hq : Q (.bl (!decide (i = j))) H := Pst.now (d := D.bl _) hp he (.bl _)
      refine op_ne pins s σ H _ _ vv uu Q I rx ry ⟨rfl, ?_⟩
      have : decide (V.str i = V.str j) = decide (i = j) := by simp
      rw [this]
      exact hq
    | _ => exact gen hp
  | _ => exact gen hp
theorem bs_ne (hu : X.A.units + 64 < cLine) : OpR X (compareOp .NotEq) (rD X.K X.mg D.ne) := by
  intro pins s σ H x y v u Q I rx ry h
  obtain ⟨Hs, a, b, E, he, ra, rb, hp⟩ := h
  exact scalN hu I he ra rb rx ry hp
theorem bs_lt (hu : X.A.units + 64 < cLine) : OpR X (compareOp .Lt) (rD X.K X.mg D.lt) := by
  intro pins s σ H x y v u Q I rx ry h
  obtain ⟨Hs, a, b, E, he, ra, rb, hp⟩ := h
  have gen : PstD X.K X.mg Hs H (if a.ns && b.ns && PySem.W.alike a.pd b.pd && decide (a.pd.depth ≤ 64) && a.nn then .ok (.bl (PySem.W.dataLt a.pd b.pd)) else .stuck) Q E → wpAny (model X.prog X.w) X.A (compareOp .Lt v u) (EP X pins σ Q) X.xe s := fun hp => by
    by_cases hz : (a.ns && b.ns && PySem.W.alike a.pd b.pd && decide (a.pd.depth ≤ 64) && a.nn) = true
    · rw [if_pos hz] at hp
      simp only [Bool.and_eq_true, decide_eq_true_eq] at hz
      obtain ⟨⟨⟨⟨h1, h2⟩, h3⟩, h4⟩, h5⟩ := hz
      obtain ⟨as, q1⟩ := Dp.reads I _ x v ((ra.mono he).dp h1) rx
      obtain ⟨bs, q2⟩ := Dp.reads I _ y u ((rb.mono he).dp h2) ry
      refine PySem.W.lt_data q1 q2 h3 ?_ (by have := Nat.min_le_left a.pd.depth b.pd.depth; omega) ⟨.bl _, H, I, rfl, hp.now he (.bl _)⟩
      cases a <;> first | (intro z; cases z; done) | (exact absurd h5 (by decide))
    · rw [if_neg hz] at hp
      exact hp.elim
  cases a with
  | int i =>
    cases b with
    | int j =>
      rw [ra.intI] at rx
      rw [rb.intI] at ry
      exact op_lt pins s σ H _ _ v u Q I rx ry ⟨i, j, rfl, rfl, hp.now he (.bl _)⟩
    | _ => exact gen hp
  | _ => exact gen hp
theorem bs_cmpI {op : Value → Value → Sem Value} {p : Int → Int → Bool} (ho : OpR X op (rI0 fun i j => .bl (p i j))) : OpR X op (rD X.K X.mg (D.cmpI p)) := by
  intro pins s σ H x y v u Q I rx ry h
  obtain ⟨Hs, a, b, E, he, ra, rb, hp⟩ := h
  cases a with
  | int i =>
    cases b with
    | int j =>
      rw [ra.intI] at rx
      rw [rb.intI] at ry
      exact ho pins s σ H _ _ v u Q I rx ry ⟨i, j, rfl, rfl, hp.now he (.bl _)⟩
    | _ => exact hp.elim
  | _ => exact hp.elim
theorem flat_V {K : PySem.W.Frag} {H : Hp} {d : D} {v : V} (r : Rep K H d v) (h : d.flat = true) : flatV v = true := by
  cases r <;> first | rfl | cases h
theorem flat_eqV {K : PySem.W.Frag} {H : Hp} {a b : D} {x y : V} (ra : Rep K H a x) (rb : Rep K H b y) (ha : a.flat = true) (hb : b.flat = true) : eqV x y = PyData.eqv a.pd b.pd := by
  cases ra <;> first
    | (simp [D.flat] at ha; done)
    | (cases rb <;> first | (simp [D.flat] at hb; done) | simp [eqV, D.pd, PyData.eqv])
theorem flat_all {K : PySem.W.Frag} {H : Hp} : ∀ {ds : List D} {vs : List V}, Reps K H ds vs → ds.all D.flat = true → vs.all flatV = true
  | _, _, .nil, _ => rfl
  | _, _, .cons r t, h => by
    simp only [List.all_cons, Bool.and_eq_true] at h ⊢
    exact ⟨flat_V r h.1, flat_all t h.2⟩
theorem flat_in {K : PySem.W.Frag} {H : Hp} {d : D} {x : V} (r : Rep K H d x) (hd : d.flat = true) : ∀ {ds : List D} {vs : List V}, Reps K H ds vs → ds.all D.flat = true → inV x vs = ds.any fun y => PyData.eqv y.pd d.pd
  | _, _, .nil, _ => rfl
  | _, _, .cons r1 t, h => by
    simp only [List.all_cons, Bool.and_eq_true] at h
    have ih := flat_in r hd t h.2
    unfold inV at ih ⊢
    simp only [List.any_cons]
    rw [ih, flat_eqV r1 r h.1 hd]
theorem any_pds (x : D) : ∀ ys : List D, (D.pds ys).any (fun z => PyData.eqv z x.pd) = ys.any fun y => PyData.eqv y.pd x.pd
  | [] => rfl
  | y :: ys => by simp only [D.pds, List.any_cons, any_pds x ys]
theorem bs_in (hu : X.A.units + 65 < cLine) : OpR X (compareOp .In) (rD X.K X.mg D.isin) := by
  intro pins s σ H x y v u Q I rx ry h
  obtain ⟨Hs, a, b, E, he, ra, rb, hp⟩ := h
  cases b with
  | tup ys =>
    have hp : PstD X.K X.mg Hs H (if a.flat && ys.all D.flat then .ok (.bl (ys.any fun y => PyData.eqv y.pd a.pd)) else .stuck) Q E := by
      cases a <;> exact hp
    by_cases hz : (a.flat && ys.all D.flat) = true
    · rw [if_pos hz] at hp
      rw [Bool.and_eq_true] at hz
      obtain ⟨p, vs, rfl, e1, r1⟩ := rb.tupI
      refine op_in_seq pins s σ H _ _ v u Q I rx ry ⟨p, vs, rfl, .inr (SqT.of (he _ _ e1)), flat_V ra hz.1, flat_all r1 hz.2, ?_⟩
      rw [if_neg Bool.false_ne_true, flat_in ra hz.1 r1 hz.2]
      exact hp.now he (.bl _)
    · rw [if_neg hz] at hp
      exact hp.elim
  | lst ys =>
    have hp : PstD X.K X.mg Hs H (if a.deep && (D.lst ys).deep then .ok (.bl (ys.any fun y => PyData.eqv y.pd a.pd)) else .stuck) Q E := by
      cases a <;> exact hp
    by_cases hz : (a.deep && (D.lst ys).deep) = true
    · rw [if_pos hz] at hp
      rw [Bool.and_eq_true] at hz
      have h1 := D.deep_ns hz.1
      have h2 := D.deep_ns hz.2
      refine op_inD hu pins s σ H _ _ v u Q I rx ry ⟨a.pd, D.pds ys, (ra.mono he).dp h1.1, (rb.mono he).dp h2.1, h1.2, h2.2, ?_⟩
      rw [any_pds]
      exact hp.now he (.bl _)
    · rw [if_neg hz] at hp
      exact hp.elim
  | str z =>
    cases a with
    | str c =>
      have hp : PstD X.K X.mg Hs H (if c.length = 1 then .ok (.bl (decide (c.cps.getD 0 0 ∈ z.cps.toList))) else .stuck) Q E := hp
      by_cases hz : c.length = 1
      · rw [if_pos hz] at hp
        rw [ra.strI] at rx
        rw [rb.strI] at ry
        obtain ⟨n, rfl⟩ : ∃ n, c = ⟨#[n]⟩ := by
          obtain ⟨⟨l⟩⟩ := c
          match l, hz with
          | [n], _ => exact ⟨n, rfl⟩
        exact op_in_sign pins s σ H _ _ v u Q I rx ry ⟨n, z, rfl, rfl, hp.now he (.bl _)⟩
      · rw [if_neg hz] at hp
        exact hp.elim
    | _ => exact hp.elim
  | _ => cases a <;> exact hp.elim
theorem bs_notin (hu : X.A.units + 65 < cLine) : OpR X (compareOp .NotIn) (rD X.K X.mg D.notin) := by
  intro pins s σ H x y v u Q I rx ry h
  obtain ⟨Hs, a, b, E, he, ra, rb, hp⟩ := h
  cases b with
  | tup ys =>
    have hp : PstD X.K X.mg Hs H (D.neg (if a.flat && ys.all D.flat then .ok (.bl (ys.any fun y => PyData.eqv y.pd a.pd)) else .stuck)) Q E := by
      cases a <;> exact hp
    by_cases hz : (a.flat && ys.all D.flat) = true
    · rw [if_pos hz] at hp
      rw [Bool.and_eq_true] at hz
      obtain ⟨p, vs, rfl, e1, r1⟩ := rb.tupI
      refine op_notIn_seq pins s σ H _ _ v u Q I rx ry ⟨p, vs, rfl, .inr (SqT.of (he _ _ e1)), flat_V ra hz.1, flat_all r1 hz.2, ?_⟩
      rw [if_pos rfl, flat_in ra hz.1 r1 hz.2]
      exact Pst.now (d := D.bl _) hp he (.bl _)
    · rw [if_neg hz] at hp
      exact hp.elim
  | lst ys =>
    have hp : PstD X.K X.mg Hs H (D.neg (if a.deep && (D.lst ys).deep then .ok (.bl (ys.any fun y => PyData.eqv y.pd a.pd)) else .stuck)) Q E := by
      cases a <;> exact hp
    by_cases hz : (a.deep && (D.lst ys).deep) = true
    · rw [if_pos hz] at hp
      rw [Bool.and_eq_true] at hz
      have h1 := D.deep_ns hz.1
      have h2 := D.deep_ns hz.2
      refine op_notInD hu pins s σ H _ _ v u Q I rx ry ⟨a.pd, D.pds ys, (ra.mono he).dp h1.1, (rb.mono he).dp h2.1, h1.2, h2.2, ?_⟩
      rw [any_pds]
      exact Pst.now (d := D.bl _) hp he (.bl _)
    · rw [if_neg hz] at hp
      exact hp.elim
  | str z =>
    cases a with
    | str c =>
      have hp : PstD X.K X.mg Hs H (D.neg (if c.length = 1 then .ok (.bl (decide (c.cps.getD 0 0 ∈ z.cps.toList))) else .stuck)) Q E := hp
      by_cases hz : c.length = 1
      · rw [if_pos hz] at hp
        rw [ra.strI] at rx
        rw [rb.strI] at ry
        obtain ⟨n, rfl⟩ : ∃ n, c = ⟨#[n]⟩ := by
          obtain ⟨⟨l⟩⟩ := c
          match l, hz with
          | [n], _ => exact ⟨n, rfl⟩
        exact op_notIn_sign pins s σ H _ _ v u Q I rx ry ⟨n, z, rfl, rfl, Pst.now (d := D.bl _) hp he (.bl _)⟩
      · rw [if_neg hz] at hp
        exact hp.elim
    | _ => exact hp.elim
  | _ => cases a <;> exact hp.elim
theorem cs_all (hu : X.A.units + 65 < cLine) : ∀ c : Cop, OpR X (compareOp c.op) (rD X.K X.mg c.f)
  | .eq => bs_eq (by omega) | .ne => bs_ne (by omega) | .lt => bs_lt (by omega) | .le => bs_cmpI op_le | .gt => bs_cmpI op_gt | .ge => bs_cmpI op_ge | .isin => bs_in hu | .notin => bs_notin hu
end
end Py

namespace Py
open PySem PySem.Spec PyProof.Rows L2

/-! ## built-ins called with values -/
def rL (K : PySem.W.Frag) (mg : Str → Option Value) (g : List D → R D) : List V → Hp → VK → Prop := fun vs H Q =>
  ∃ (Hs : Hp) (ds : List D) (E : XK), Ex Hs H ∧ Reps K Hs ds vs ∧ PstD K mg Hs H (g ds) Q E

/-- the ints that a list is -/
def asInts : List D → Option (List Int)
  | [] => some []
  | .int i :: r => (asInts r).map (i :: ·)
  | _ :: _ => none
theorem asInts_some : ∀ {ds : List D} {ns : List Int}, asInts ds = some ns → ds = ns.map D.int
  | [], ns, h => by simp [asInts] at h; subst h; rfl
  | .int i :: r, ns, h => by
    simp only [asInts] at h
    cases e : asInts r with
    | none => rw [e] at h; cases h
    | some l =>
      rw [e] at h
      have h' : i :: l = ns := by simpa using h
      subst h'
      rw [asInts_some e]
      rfl
  | .non :: r, ns, h => by simp [asInts] at h
  | .bl _ :: r, ns, h => by simp [asInts] at h
  | .str _ :: r, ns, h => by simp [asInts] at h
  | .tup _ :: r, ns, h => by simp [asInts] at h
  | .lst _ :: r, ns, h => by simp [asInts] at h
  | .scr _ :: r, ns, h => by simp [asInts] at h
@[simp] theorem asInts_map : ∀ ns : List Int, asInts (ns.map D.int) = some ns
  | [] => rfl
  | n :: ns => by simp [asInts, asInts_map ns]
def asBls : List D → Option (List Bool)
  | [] => some []
  | .bl i :: r => (asBls r).map (i :: ·)
  | _ :: _ => none
theorem asBls_some : ∀ {ds : List D} {ns : List Bool}, asBls ds = some ns → ds = ns.map D.bl
  | [], ns, h => by simp [asBls] at h; subst h; rfl
  | .bl i :: r, ns, h => by
    simp only [asBls] at h
    cases e : asBls r with
    | none => rw [e] at h; cases h
    | some l =>
      rw [e] at h
      have h' : i :: l = ns := by simpa using h
      subst h'
      rw [asBls_some e]
      rfl
  | .non :: r, ns, h => by simp [asBls] at h
  | .int _ :: r, ns, h => by simp [asBls] at h
  | .str _ :: r, ns, h => by simp [asBls] at h
  | .tup _ :: r, ns, h => by simp [asBls] at h
  | .lst _ :: r, ns, h => by simp [asBls] at h
  | .scr _ :: r, ns, h => by simp [asBls] at h
@[simp] theorem asBls_map : ∀ ns : List Bool, asBls (ns.map D.bl) = some ns
  | [] => rfl
  | n :: ns => by simp [asBls, asBls_map ns]

def D.len : D → R D
  | .str x => if x.length ≤ 16777216 then .ok (.int x.length) else .stuck
  | .lst xs => .ok (.int xs.length)
  | .tup xs => .ok (.int xs.length)
  | .scr xs => .ok (.int xs.length)
  | _ => .stuck
def D.abs : D → R D
  | .int i => .ok (.int (if i < 0 then -i else i))
  | _ => .stuck
def D.max2 : D → D → R D
  | .int i, .int j => .ok (.int (if j > i then j else i))
  | _, _ => .stuck
def D.min2 : D → D → R D
  | .int i, .int j => .ok (.int (if j < i then j else i))
  | _, _ => .stuck
def D.seq : D → Option (List D)
  | .lst xs => some xs
  | .tup xs => some xs
  | _ => none
def D.minL (d : D) : R D := match d.seq.bind asInts with
  | some (n :: ns) => .ok (.int (ns.foldl min n))
  | _ => .stuck
def D.maxL (d : D) : R D := match d.seq.bind asInts with
  | some (n :: ns) => .ok (.int (ns.foldl max n))
  | _ => .stuck
/-- min(xs, default=None), xs a list -/
def D.minD : D → R D
  | .lst xs => match asInts xs with
    | some (n :: ns) => .ok (.int (ns.foldl min n))
    | some [] => .ok .non
    | none => .stuck
  | _ => .stuck
def D.listOf : D → R D
  | .lst xs => .ok (.lst xs)
  | .tup xs => .ok (.lst xs)
  | .scr ns => .ok (.lst (ns.map D.int))
  | _ => .stuck
def D.tupOf : D → R D
  | .lst xs => .ok (.tup xs)
  | .tup xs => .ok (.tup xs)
  | .scr ns => .ok (.tup (ns.map D.int))
  | _ => .stuck
def D.allL : D → R D
  | .lst xs => match asBls xs with
    | some bs => .ok (.bl (bs.all id))
    | none => .stuck
  | _ => .stuck
def D.anyL : D → R D
  | .lst xs => match asBls xs with
    | some bs => .ok (.bl (bs.any id))
    | none => .stuck
  | _ => .stuck
def D.intOf : D → R D
  | .int i => .ok (.int i)
  | .bl b => .ok (.int (if b then 1 else 0))
  | _ => .stuck
def D.isTup : D → Bool
  | .tup (_ :: _) => true
  | _ => false
def D.noTup : D → Bool
  | .tup _ => false
  | .non => false
  | _ => true
def sortOk (ds : List D) : Bool := ds.all D.ns && (ds.all fun a => ds.all fun b => PySem.W.alike a.pd b.pd) && (ds.all fun a => decide (a.pd.depth ≤ 60)) && (ds.all D.isTup || ds.all D.noTup)
def leD (a b : D) : Bool := PySem.W.dataLe false D.pd a b
def D.sorted : D → R D
  | .lst xs => if sortOk xs then .ok (.lst (xs.mergeSort leD)) else .stuck
  | _ => .stuck

section
variable {X : Cx}
theorem one_in {K : PySem.W.Frag} {Hs : Hp} {ds : List D} {vs : List V} {g : List D → R D} {f : D → R D} (hg : ∀ l, (∃ d, l = [d] ∧ g l = f d) ∨ g l = .stuck) (r : Reps K Hs ds vs) {mg : Str → Option Value} {H : Hp} {Q : VK} {E : XK}
    (h : PstD K mg Hs H (g ds) Q E) : ∃ d v, ds = [d] ∧ vs = [v] ∧ Rep K Hs d v ∧ PstD K mg Hs H (f d) Q E := by
  rcases hg ds with ⟨d, rfl, e⟩ | e
  · cases r with
    | cons r t =>
      cases t
      exact ⟨d, _, rfl, rfl, r, by rw [← e]; exact h⟩
  · rw [e] at h
    exact h.elim
def f1 (f : D → R D) : List D → R D
  | [d] => f d
  | _ => .stuck
def f2 (f : D → D → R D) : List D → R D
  | [d, e] => f d e
  | _ => .stuck
theorem f1_in (f : D → R D) (l : List D) : (∃ d, l = [d] ∧ f1 f l = f d) ∨ f1 f l = .stuck := by
  match l with
  | [] => exact .inr rfl
  | [d] => exact .inl ⟨d, rfl, rfl⟩
  | _ :: _ :: _ => exact .inr rfl
theorem two_in {K : PySem.W.Frag} {Hs : Hp} {ds : List D} {vs : List V} {f : D → D → R D} (r : Reps K Hs ds vs) {mg : Str → Option Value} {H : Hp} {Q : VK} {E : XK}
    (h : PstD K mg Hs H (f2 f ds) Q E) : ∃ d e v u, ds = [d, e] ∧ vs = [v, u] ∧ Rep K Hs d v ∧ Rep K Hs e u ∧ PstD K mg Hs H (f d e) Q E := by
  match ds, r, h with
  | [d, e], .cons r (.cons t .nil), h => exact ⟨d, e, _, _, rfl, rfl, r, t, h⟩
  | [], _, h => exact h.elim
  | [_], _, h => exact h.elim
  | _ :: _ :: _ :: _, _, h => exact h.elim
theorem cs_len : CallR X (.builtin "len") (rL X.K X.mg (f1 D.len)) := by
  intro pins s σ H xs us Q I r h
  obtain ⟨Hs, ds, E, he, rr, hp⟩ := h
  obtain ⟨d, v, rfl, rfl, rd, hp⟩ := one_in (f1_in _) rr hp
  cases d with
  | str x =>
    rw [rd.strI] at r
    have hp : PstD X.K X.mg Hs H (if x.length ≤ 16777216 then .ok (.int x.length) else .stuck) Q E := hp
    by_cases hz : x.length ≤ 16777216
    · rw [if_pos hz] at hp
      exact call_len pins s σ H _ us Q I r ⟨.str x, x.length, rfl, ⟨by rw [size_eq]; exact hz, rfl⟩, hp.now he (.int _)⟩
    · rw [if_neg hz] at hp
      exact hp.elim
  | lst xs =>
    obtain ⟨p, vs, rfl, e1, r1⟩ := rd.lstI
    exact call_len pins s σ H _ us Q I r ⟨.ref p, xs.length, rfl, .inl ⟨vs, SqL.of (he _ _ e1), r1.length⟩, hp.now he (.int _)⟩
  | tup xs =>
    obtain ⟨p, vs, rfl, e1, r1⟩ := rd.tupI
    exact call_len pins s σ H _ us Q I r ⟨.ref p, xs.length, rfl, .inr ⟨vs, SqT.of (he _ _ e1), r1.length⟩, hp.now he (.int _)⟩
  | scr ns =>
    obtain ⟨p, rfl, q⟩ := (rd.mono he).scrI
    exact call_len pins s σ H _ us Q I r ⟨.ref p, ns.length, rfl, .inl ⟨_, q, by rw [List.length_map]⟩, hp.now he (.int _)⟩
  | _ => exact hp.elim
theorem cs_abs : CallR X (.builtin "abs") (rL X.K X.mg (f1 D.abs)) := by
  intro pins s σ H xs us Q I r h
  obtain ⟨Hs, ds, E, he, rr, hp⟩ := h
  obtain ⟨d, v, rfl, rfl, rd, hp⟩ := one_in (f1_in _) rr hp
  cases d with
  | int i =>
    rw [rd.intI] at r
    exact call_abs pins s σ H _ us Q I r ⟨i, rfl, hp.now he (.int _)⟩
  | _ => exact hp.elim
theorem cs_max2 (hc : X.calm = true) : CallR X (.builtin "max") (rL X.K X.mg (f2 D.max2)) := by
  intro pins s σ H xs us Q I r h
  obtain ⟨Hs, ds, E, he, rr, hp⟩ := h
  obtain ⟨d, e, v, u, rfl, rfl, rd, re, hp⟩ := two_in rr hp
  cases d with
  | int i =>
    cases e with
    | int j =>
      rw [rd.intI, re.intI] at r
      exact call_max2 hc pins s σ H _ us Q I r ⟨i, j, rfl, hp.now he (.int _)⟩
    | _ => exact hp.elim
  | _ => exact hp.elim
theorem cs_min2 (hc : X.calm = true) : CallR X (.builtin "min") (rL X.K X.mg (f2 D.min2)) := by
  intro pins s σ H xs us Q I r h
  obtain ⟨Hs, ds, E, he, rr, hp⟩ := h
  obtain ⟨d, e, v, u, rfl, rfl, rd, re, hp⟩ := two_in rr hp
  cases d with
  | int i =>
    cases e with
    | int j =>
      rw [rd.intI, re.intI] at r
      exact call_min2 hc pins s σ H _ us Q I r ⟨i, j, rfl, hp.now he (.int _)⟩
    | _ => exact hp.elim
  | _ => exact hp.elim
theorem dp_ints {K : PySem.W.Frag} {H : Hp} : ∀ ns : List Int, DpAll K H (ns.map V.int) (ns.map PyData.int)
  | [] => .nil
  | n :: ns => .cons (.int n) (dp_ints ns)
theorem alike_ints' (ns : List Int) : PySem.W.AlikeAll (ns.map PyData.int) := by
  refine ⟨fun x hx y hy => ?_, fun x hx => ?_⟩
  · obtain ⟨i, _, rfl⟩ := List.mem_map.mp hx
    obtain ⟨j, _, rfl⟩ := List.mem_map.mp hy
    simp [PySem.W.alike]
  · obtain ⟨i, _, rfl⟩ := List.mem_map.mp hx
    intro z
    cases z
theorem reads_int {h : Heap} {v : Value} {n : Int} {bs : List Addr} (r : Reads h v (.int n) bs) : ∃ t, v = .int n t := by
  cases r
  exact ⟨_, rfl⟩
theorem cs_minL (hc : X.calm = true) (hu : X.A.units + 65 < cLine) : CallR X (.builtin "min") (rL X.K X.mg (f1 D.minL)) := by
  intro pins s σ H xs us Q I r h
  obtain ⟨Hs, ds, E, he, rr, hp⟩ := h
  obtain ⟨d, v, rfl, rfl, rd, hp⟩ := one_in (f1_in _) rr hp
  have fin : ∀ (n : Int) (ns : List Int) (v : Value) (h' : Heap) (tk : Nat) (bs : List Addr), PstD X.K X.mg Hs H (.ok (.int (ns.foldl min n))) Q E → Reads h' v (PySem.W.minD (.int n) (ns.map .int)) bs → (∀ b o, s.heap.get? b = some o → h'.get? b = some o) →
      EP X pins σ Q v { s with heap := h', toks := tk } := fun n ns v h' tk bs hp rv k => by
    rw [PySem.W.minD_ints] at rv
    obtain ⟨t, rfl⟩ := reads_int rv
    exact ⟨.int _, H, I.kept (t' := tk) k, ⟨t, rfl⟩, hp.now he (.int _)⟩
  cases d with
  | lst xs =>
    cases q : asInts xs with
    | none => simp [D.minL, D.seq, q] at hp; exact hp.elim
    | some l =>
      cases l with
      | nil => simp [D.minL, D.seq, q] at hp; exact hp.elim
      | cons n ns =>
        have hq : PstD X.K X.mg Hs H (.ok (.int (ns.foldl min n))) Q E := by simpa [D.minL, D.seq, q] using hp
        obtain ⟨p, vs, rfl, e1, r1⟩ := rd.lstI
        have e := asInts_some q
        subst e
        have ev := r1.intsI
        subst ev
        rw [Vals.ref1 r]
        obtain ⟨its, rv, hl, hz⟩ := I.list (SqL.of (he _ _ e1))
        obtain ⟨as, q1⟩ := Dp.readsAll I _ _ _ (dp_ints (K := X.K) (H := H) (n :: ns)) rv
        exact PySem.W.min_list_data (as := as) (x := .int n) (xs := ns.map .int) (I.ok.hd hc) hl.isList (by simpa using q1) (alike_ints' (n :: ns)) (by rw [show PyData.depthAll (PyData.int n :: ns.map PyData.int) = 0 from PySem.W.depth_ints (n :: ns)]; omega) fun i v h' tk bs _ rv k => fin n ns v h' tk bs hq rv k
  | tup xs =>
    cases q : asInts xs with
    | none => simp [D.minL, D.seq, q] at hp; exact hp.elim
    | some l =>
      cases l with
      | nil => simp [D.minL, D.seq, q] at hp; exact hp.elim
      | cons n ns =>
        have hq : PstD X.K X.mg Hs H (.ok (.int (ns.foldl min n))) Q E := by simpa [D.minL, D.seq, q] using hp
        obtain ⟨p, vs, rfl, e1, r1⟩ := rd.tupI
        have e := asInts_some q
        subst e
        have ev := r1.intsI
        subst ev
        rw [Vals.ref1 r]
        obtain ⟨its, rv, hl, hz⟩ := I.tuple (SqT.of (he _ _ e1))
        obtain ⟨as, q1⟩ := Dp.readsAll I _ _ _ (dp_ints (K := X.K) (H := H) (n :: ns)) rv
        exact PySem.W.min_tuple_data (as := as) (x := .int n) (xs := ns.map .int) (I.ok.hd hc) (show s.heap.IsTuple p its.toArray from hl) (by simpa using q1) (alike_ints' (n :: ns)) (by rw [show PyData.depthAll (PyData.int n :: ns.map PyData.int) = 0 from PySem.W.depth_ints (n :: ns)]; omega) fun i v h' tk bs _ rv k => fin n ns v h' tk bs hq rv k
  | _ => exact hp.elim
theorem cs_maxL (hc : X.calm = true) (hu : X.A.units + 65 < cLine) : CallR X (.builtin "max") (rL X.K X.mg (f1 D.maxL)) := by
  intro pins s σ H xs us Q I r h
  obtain ⟨Hs, ds, E, he, rr, hp⟩ := h
  obtain ⟨d, v, rfl, rfl, rd, hp⟩ := one_in (f1_in _) rr hp
  have fin : ∀ (n : Int) (ns : List Int) (v : Value) (h' : Heap) (tk : Nat) (bs : List Addr), PstD X.K X.mg Hs H (.ok (.int (ns.foldl max n))) Q E → Reads h' v (PySem.W.maxD (.int n) (ns.map .int)) bs → (∀ b o, s.heap.get? b = some o → h'.get? b = some o) →
      EP X pins σ Q v { s with heap := h', toks := tk } := fun n ns v h' tk bs hp rv k => by
    rw [PySem.W.maxD_ints] at rv
    obtain ⟨t, rfl⟩ := reads_int rv
    exact ⟨.int _, H, I.kept (t' := tk) k, ⟨t, rfl⟩, hp.now he (.int _)⟩
  cases d with
  | lst xs =>
    cases q : asInts xs with
    | none => simp [D.maxL, D.seq, q] at hp; exact hp.elim
    | some l =>
      cases l with
      | nil => simp [D.maxL, D.seq, q] at hp; exact hp.elim
      | cons n ns =>
        have hq : PstD X.K X.mg Hs H (.ok (.int (ns.foldl max n))) Q E := by simpa [D.maxL, D.seq, q] using hp
        obtain ⟨p, vs, rfl, e1, r1⟩ := rd.lstI
        have e := asInts_some q
        subst e
        have ev := r1.intsI
        subst ev
        rw [Vals.ref1 r]
        obtain ⟨its, rv, hl, hz⟩ := I.list (SqL.of (he _ _ e1))
        obtain ⟨as, q1⟩ := Dp.readsAll I _ _ _ (dp_ints (K := X.K) (H := H) (n :: ns)) rv
        exact PySem.W.max_list_data (as := as) (x := .int n) (xs := ns.map .int) (I.ok.hd hc) hl.isList (by simpa using q1) (alike_ints' (n :: ns)) (by rw [show PyData.depthAll (PyData.int n :: ns.map PyData.int) = 0 from PySem.W.depth_ints (n :: ns)]; omega) fun i v h' tk bs _ rv k => fin n ns v h' tk bs hq rv k
  | tup xs =>
    cases q : asInts xs with
    | none => simp [D.maxL, D.seq, q] at hp; exact hp.elim
    | some l =>
      cases l with
      | nil => simp [D.maxL, D.seq, q] at hp; exact hp.elim
      | cons n ns =>
        have hq : PstD X.K X.mg Hs H (.ok (.int (ns.foldl max n))) Q E := by simpa [D.maxL, D.seq, q] using hp
        obtain ⟨p, vs, rfl, e1, r1⟩ := rd.tupI
        have e := asInts_some q
        subst e
        have ev := r1.intsI
        subst ev
        rw [Vals.ref1 r]
        obtain ⟨its, rv, hl, hz⟩ := I.tuple (SqT.of (he _ _ e1))
        obtain ⟨as, q1⟩ := Dp.readsAll I _ _ _ (dp_ints (K := X.K) (H := H) (n :: ns)) rv
        exact PySem.W.max_tuple_data (as := as) (x := .int n) (xs := ns.map .int) (I.ok.hd hc) (show s.heap.IsTuple p its.toArray from hl) (by simpa using q1) (alike_ints' (n :: ns)) (by rw [show PyData.depthAll (PyData.int n :: ns.map PyData.int) = 0 from PySem.W.depth_ints (n :: ns)]; omega) fun i v h' tk bs _ rv k => fin n ns v h' tk bs hq rv k
  | _ => exact hp.elim
theorem cs_list : CallR X (.type "list") (rL X.K X.mg (f1 D.listOf)) := by
  intro pins s σ H xs us Q I r h
  obtain ⟨Hs, ds, E, he, rr, hp⟩ := h
  obtain ⟨d, v, rfl, rfl, rd, hp⟩ := one_in (f1_in _) rr hp
  cases d with
  | lst xs =>
    obtain ⟨p, vs, rfl, e1, r1⟩ := rd.lstI
    exact call_list_of pins s σ H _ us Q I r ⟨p, vs, rfl, .inl (SqL.of (he _ _ e1)), fun l hl => hp _ _ _ (Le.new1 he hl) (mk_lst he r1 hl)⟩
  | tup xs =>
    obtain ⟨p, vs, rfl, e1, r1⟩ := rd.tupI
    exact call_list_of pins s σ H _ us Q I r ⟨p, vs, rfl, .inr (SqT.of (he _ _ e1)), fun l hl => hp _ _ _ (Le.new1 he hl) (mk_lst he r1 hl)⟩
  | scr ns =>
    obtain ⟨p, rfl, q⟩ := (rd.mono he).scrI
    exact call_list_of pins s σ H _ us Q I r ⟨p, _, rfl, .inl q, fun l hl => hp _ _ _ (Le.new1 he hl) (mk_lst he Reps.ints hl)⟩
  | _ => exact hp.elim
theorem cs_tuple : CallR X (.type "tuple") (rL X.K X.mg (f1 D.tupOf)) := by
  intro pins s σ H xs us Q I r h
  obtain ⟨Hs, ds, E, he, rr, hp⟩ := h
  obtain ⟨d, v, rfl, rfl, rd, hp⟩ := one_in (f1_in _) rr hp
  cases d with
  | lst xs =>
    obtain ⟨p, vs, rfl, e1, r1⟩ := rd.lstI
    exact call_tuple_of pins s σ H _ us Q I r ⟨p, vs, rfl, .inl ⟨SqL.of (he _ _ e1), fun l hl => hp _ _ _ (Le.new1 he hl) (mk_tup he r1 hl)⟩⟩
  | tup xs =>
    obtain ⟨p, vs, rfl, e1, r1⟩ := rd.tupI
    exact call_tuple_of pins s σ H _ us Q I r ⟨p, vs, rfl, .inr ⟨SqT.of (he _ _ e1), hp.now he (.tup e1 r1)⟩⟩
  | scr ns =>
    obtain ⟨p, rfl, q⟩ := (rd.mono he).scrI
    exact call_tuple_of pins s σ H _ us Q I r ⟨p, _, rfl, .inl ⟨q, fun l hl => hp _ _ _ (Le.new1 he hl) (mk_tup he Reps.ints hl)⟩⟩
  | _ => exact hp.elim
theorem cs_allL (hc : X.calm = true) : CallR X (.builtin "all") (rL X.K X.mg (f1 D.allL)) := by
  intro pins s σ H xs us Q I r h
  obtain ⟨Hs, ds, E, he, rr, hp⟩ := h
  obtain ⟨d, v, rfl, rfl, rd, hp⟩ := one_in (f1_in _) rr hp
  cases d with
  | lst xs =>
    cases q : asBls xs with
    | none => simp [D.allL, q] at hp; exact hp.elim
    | some l =>
      have hq : PstD X.K X.mg Hs H (.ok (.bl (l.all id))) Q E := by simpa [D.allL, q] using hp
      obtain ⟨p, vs, rfl, e1, r1⟩ := rd.lstI
      have e := asBls_some q
      subst e
      have ev := r1.blsI
      subst ev
      exact cr_all hc pins s σ H _ us Q I r ⟨p, l, rfl, SqL.of (he _ _ e1), hq.now he (.bl _)⟩
  | _ => exact hp.elim
theorem cs_anyL (hc : X.calm = true) : CallR X (.builtin "any") (rL X.K X.mg (f1 D.anyL)) := by
  intro pins s σ H xs us Q I r h
  obtain ⟨Hs, ds, E, he, rr, hp⟩ := h
  obtain ⟨d, v, rfl, rfl, rd, hp⟩ := one_in (f1_in _) rr hp
  cases d with
  | lst xs =>
    cases q : asBls xs with
    | none => simp [D.anyL, q] at hp; exact hp.elim
    | some l =>
      have hq : PstD X.K X.mg Hs H (.ok (.bl (l.any id))) Q E := by simpa [D.anyL, q] using hp
      obtain ⟨p, vs, rfl, e1, r1⟩ := rd.lstI
      have e := asBls_some q
      subst e
      have ev := r1.blsI
      subst ev
      exact cr_any hc pins s σ H _ us Q I r ⟨p, l, rfl, SqL.of (he _ _ e1), hq.now he (.bl _)⟩
  | _ => exact hp.elim
theorem cs_int : CallR X (.type "int") (rL X.K X.mg (f1 D.intOf)) := by
  intro pins s σ H xs us Q I r h
  obtain ⟨Hs, ds, E, he, rr, hp⟩ := h
  obtain ⟨d, v, rfl, rfl, rd, hp⟩ := one_in (f1_in _) rr hp
  cases d with
  | int i =>
    rw [rd.intI] at r
    exact call_int1 pins s σ H _ us Q I r (.inl ⟨i, rfl, hp.now he (.int _)⟩)
  | bl b =>
    rw [rd.blI] at r
    exact call_int1 pins s σ H _ us Q I r (.inr ⟨b, rfl, hp.now he (.int _)⟩)
  | _ => exact hp.elim

/-! sorted -/
def RZ (v : Value) (p : D × V) : Prop := RelV p.2 v
theorem each_zip {K : PySem.W.Frag} {Hs : Hp} : ∀ {ds : List D} {vs : List V} {us : List Value}, Reps K Hs ds vs → Vals vs us → PySem.W.EachIs RZ us (ds.zip vs)
  | _, _, _, .nil, .nil => .nil
  | _, _, _, .cons _ t, .cons r u => .cons r (each_zip t u)
theorem each_reads {pins : List (Addr × Obj)} {σ : L2.St} {H Hs : Hp} {s : Shared} (I : Inv X pins σ H s) (he : Ex Hs H) : ∀ {ds : List D} {vs : List V} {us : List Value}, Reps X.K Hs ds vs → Vals vs us → D.nss ds = true →
    PySem.W.EachIs (fun v (p : D × V) => ∃ as, Reads s.heap v p.1.pd as) us (ds.zip vs)
  | _, _, _, .nil, .nil, _ => .nil
  | _, _, _, .cons r t, .cons q u, h => by
    simp only [D.nss, Bool.and_eq_true] at h
    exact .cons (Dp.reads I _ _ _ ((r.mono he).dp h.1) q) (each_reads I he t u h.2)
theorem vals_of_each : ∀ {us : List Value} {ps : List (D × V)}, PySem.W.EachIs RZ us ps → Vals (ps.map (·.2)) us
  | _, _, .nil => .nil
  | _, _, .cons r t => .cons r (vals_of_each t)
theorem reps_of_mem {K : PySem.W.Frag} {Hs : Hp} : ∀ {ps : List (D × V)}, (∀ p ∈ ps, Rep K Hs p.1 p.2) → Reps K Hs (ps.map (·.1)) (ps.map (·.2))
  | [], _ => .nil
  | p :: ps, h => .cons (h p (by simp)) (reps_of_mem fun q hq => h q (by simp [hq]))
theorem reps_mem {K : PySem.W.Frag} {Hs : Hp} : ∀ {ds : List D} {vs : List V}, Reps K Hs ds vs → ∀ p ∈ ds.zip vs, Rep K Hs p.1 p.2
  | _, _, .nil, p, h => by simp at h
  | _, _, .cons r t, p, h => by
    rcases List.mem_cons.mp h with e | h
    · subst e; exact r
    · exact reps_mem t p h
theorem zip_fst {K : PySem.W.Frag} {Hs : Hp} : ∀ {ds : List D} {vs : List V}, Reps K Hs ds vs → (ds.zip vs).map (·.1) = ds
  | _, _, .nil => rfl
  | _, _, .cons r t => by simp [zip_fst t]
theorem sortOk_al {ds : List D} (h : sortOk ds = true) : PySem.W.AllAlike (ds.map D.pd) ∧ PySem.W.Sortable (ds.map D.pd) ∧ (∀ d ∈ ds, d.pd.depth ≤ 60) ∧ D.nss ds = true := by
  unfold sortOk at h
  simp only [Bool.and_eq_true, List.all_eq_true, decide_eq_true_eq, Bool.or_eq_true] at h
  obtain ⟨⟨⟨h1, h2⟩, h3⟩, h4⟩ := h
  refine ⟨fun d hd d' hd' => ?_, ?_, h3, by rw [D.nss_eq, List.all_eq_true]; exact h1⟩
  · obtain ⟨a, ha, rfl⟩ := List.mem_map.mp hd
    obtain ⟨b, hb, rfl⟩ := List.mem_map.mp hd'
    exact h2 a ha b hb
  · rcases h4 with h4 | h4
    · refine .inl fun d hd => ?_
      obtain ⟨a, ha, rfl⟩ := List.mem_map.mp hd
      have := h4 a ha
      match a, this with
      | .tup (x :: r), _ => exact ⟨x.pd, D.pds r, rfl⟩
    · refine .inr fun d hd => ?_
      obtain ⟨a, ha, rfl⟩ := List.mem_map.mp hd
      have := h4 a ha
      cases a <;> first
        | (simp [D.noTup] at this; done)
        | exact ⟨fun z => by simp [D.pd] at z, fun xs z => by simp [D.pd] at z⟩
theorem cs_sorted (hu : X.A.units + 65 < cLine) : CallR X (.builtin "sorted") (rL X.K X.mg (f1 D.sorted)) := by
  intro pins s σ H xs us Q I r h
  obtain ⟨Hs, ds, E, he, rr, hp⟩ := h
  obtain ⟨d, v, rfl, rfl, rd, hp⟩ := one_in (f1_in _) rr hp
  cases d with
  | lst xs =>
    have hp : PstD X.K X.mg Hs H (if sortOk xs then .ok (.lst (xs.mergeSort leD)) else .stuck) Q E := hp
    by_cases hz : sortOk xs = true
    · rw [if_pos hz] at hp
      obtain ⟨p, vs, rfl, e1, r1⟩ := rd.lstI
      rw [Vals.ref1 r]
      obtain ⟨its, rv, hl, hlen⟩ := I.list (SqL.of (he _ _ e1))
      obtain ⟨o1, o2, o3, o4⟩ := sortOk_al hz
      have em : (xs.zip vs).map (fun p => p.1.pd) = xs.map D.pd := by
        rw [← zip_fst r1, List.map_map, zip_fst r1]
        rfl
      refine PySem.W.sorted_data (R := RZ) (enc := fun p : D × V => p.1.pd) hl.isList (each_zip r1 rv) (each_reads I he r1 rv o4) (by rw [em]; exact o1) (by rw [em]; exact o2) (by
        rw [List.length_zip, r1.length]
        omega) (fun b hb => ?_) fun out hlo ho => ?_
      · have : b.1 ∈ xs := by
          rw [← zip_fst r1]
          exact List.mem_map.mpr ⟨b, hb, rfl⟩
        have := o3 _ this
        omega
      · obtain ⟨ep, he'⟩ := PyProof.Rows.sortedAll_at s.heap its (List.toArray out)
        have hv := vals_of_each ho
        have hr : Reps X.K Hs (((xs.zip vs).mergeSort (PySem.W.dataLe false fun p : D × V => p.1.pd)).map (·.1)) (((xs.zip vs).mergeSort (PySem.W.dataLe false fun p : D × V => p.1.pd)).map (·.2)) :=
          reps_of_mem fun p hp => reps_mem r1 p ((List.mergeSort_perm _ _).mem_iff.mp hp)
        have es : ((xs.zip vs).mergeSort (PySem.W.dataLe false fun p : D × V => p.1.pd)).map (·.1) = xs.mergeSort leD := by
          rw [List.map_mergeSort (r := PySem.W.dataLe false fun p : D × V => p.1.pd) (s := leD) (f := fun p : D × V => p.1) (fun a _ b _ => rfl), zip_fst r1]
        rw [es] at hr
        have hn := I.hok.fresh (a := s.heap.objs.size + 1) (Nat.le_succ _)
        refine ⟨.ref _, upd H (s.heap.objs.size + 1) (.lst (((xs.zip vs).mergeSort (PySem.W.dataLe false fun p : D × V => p.1.pd)).map (·.2))), I.laid (t' := s.toks) (fun _ _ => PyProof.Rows.sortedAll_old) (Nat.le_succ _) ⟨?_, out, ep, hv, ?_⟩, rfl, hp _ _ _ (Le.new1 he hn) (mk_lst he hr hn)⟩
        · rw [List.length_map, (List.mergeSort_perm _ _).length_eq, List.length_zip, r1.length]
          omega
        · simpa using he'
    · rw [if_neg hz] at hp
      exact hp.elim
  | _ => exact hp.elim
end
end Py

namespace Py
open PySem PySem.Spec PyProof.Rows L2

/-! ## the small syntax of expressions -/
inductive Cst where
  | non | bl (b : Bool) | int (i : Int) | str (x : Str)
  deriving DecidableEq
def Cst.d : Cst → D
  | .non => .non | .bl b => .bl b | .int i => .int i | .str x => .str x
def Cst.v : Cst → V
  | .non => .non | .bl b => .bl b | .int i => .int i | .str x => .str x
def Cst.is : Cst → Const → Bool
  | .non, .none => true
  | .bl b, .bool c => b == c
  | .int i, .int j => decide (i = j)
  | .str x, .str y => decide (x = y)
  | _, _ => false
inductive Bi where
  | len | abs | max2 | min2 | minL | maxL | list | tuple | all | any | int | sorted
  deriving DecidableEq
def Bi.name : Bi → Str
  | .len => "len" | .abs => "abs" | .max2 => "max" | .min2 => "min" | .minL => "min" | .maxL => "max" | .list => "list" | .tuple => "tuple" | .all => "all" | .any => "any" | .int => "int" | .sorted => "sorted"
def Bi.f : Bi → List D → R D
  | .len => f1 D.len | .abs => f1 D.abs | .max2 => f2 D.max2 | .min2 => f2 D.min2 | .minL => f1 D.minL | .maxL => f1 D.maxL | .list => f1 D.listOf | .tuple => f1 D.tupOf
  | .all => f1 D.allL | .any => f1 D.anyL | .int => f1 D.intOf | .sorted => f1 D.sorted
/-- the types that isinstance is asked for -/
inductive Ty where
  | int | bool | str | tuple | list
  deriving DecidableEq
def Ty.name : Ty → String
  | .int => "int" | .bool => "bool" | .str => "str" | .tuple => "tuple" | .list => "list"
def D.isTy : D → Ty → Bool
  | .int _, .int => true | .bl _, .int => true | .bl _, .bool => true | .str _, .str => true | .tup _, .tuple => true | .lst _, .list => true | .scr _, .list => true
  | _, _ => false
inductive Tgt where
  | nm (i : Nat) | tp (is : List Nat)
mutual
inductive E where
  | var (i : Nat)
  | cst (c : Cst)
  | glo (x : Str) (c : Cst)
  | bin (o : Bop) (a b : E)
  | neg (a : E)
  | cmp (o : Cop) (a b : E)
  | isn (no : Bool) (a : E)
  | isb (no : Bool) (a : E) (b : Bool)
  | chain (o1 o2 : Cop) (a b c : E)
  | and (es : Es)
  | or (es : Es)
  | not (a : E)
  | tup (es : Es)
  | lst (es : Es)
  | ix (a b : E)
  | sl (a : E) (lo hi : Es)
  | call (k : Nat) (es : Es)
  | bi (b : Bi) (es : Es)
  | isi (a : E) (t : Ty)
  | minD (a : E)
  | lrange1 (a : E)
  | lrange2 (a b : E)
  | lc (t : Tgt) (it : It) (ifs : Es) (e : E)
inductive Es where
  | nil
  | cons (e : E) (es : Es)
inductive It where
  | val (a : E)
  | range (es : Es)
  | zip (a b : E)
end

/-! ## what it answers -/
def D.truth : D → R Bool
  | .non => .ok false
  | .bl b => .ok b
  | .int i => .ok (i != 0)
  | .str x => if x.length ≤ 16777216 then .ok ((x.length : Int) != 0) else .stuck
  | .lst xs => .ok (!xs.isEmpty)
  | .tup xs => .ok (!xs.isEmpty)
  | .scr xs => .ok (!xs.isEmpty)
def D.ix : D → D → R D
  | .lst xs, .int i => match atI xs i with
    | some d => .ok d
    | none => .stuck
  | .tup xs, .int i => match atI xs i with
    | some d => .ok d
    | none => .stuck
  | .scr ns, .int i => match atI ns i with
    | some n => .ok (.int n)
    | none => .stuck
  | .str x, .int i => if x.length ≤ 16777216 then (match atI x.cps.toList i with
    | some c => .ok (.str ⟨#[c]⟩)
    | none => .stuck) else .stuck
  | _, _ => .stuck
def cutA {α : Type} (xs : List α) (lo hi : Option Int) : List α := (xs.drop (HT.sIx xs.length 0 lo)).take (HT.sIx xs.length xs.length hi - HT.sIx xs.length 0 lo)
def D.sl (d : D) (lo hi : Option Int) : R D := match d with
  | .lst xs => .ok (.lst (cutA xs lo hi))
  | .tup xs => .ok (.tup (cutA xs lo hi))
  | .scr ns => .ok (.lst ((cutA ns lo hi).map D.int))
  | .str x => if x.length ≤ 16777216 then .ok (.str (cutS x lo hi)) else .stuck
  | _ => .stuck
def D.negI : D → R D
  | .int i => .ok (.int (-i))
  | _ => .stuck
def D.isNon : D → Bool
  | .non => true
  | _ => false
def D.isb (no b : Bool) : D → R D
  | .bl a => .ok (.bl (if no then !decide (a = b) else decide (a = b)))
  | _ => .stuck
def D.asI : D → R (Option Int)
  | .int i => .ok (some i)
  | _ => .stuck
def D.asB : D → R Bool
  | .bl b => .ok b
  | _ => .stuck
def rangeD (lo hi : Int) : R (List D) :=
  if -4611686018427387904 ≤ lo ∧ lo < 4611686018427387904 ∧ -4611686018427387904 ≤ hi ∧ hi < 4611686018427387904 then .ok ((List.range (hi - lo).toNat).map fun i => .int (lo + (i : Nat))) else .stuck
def D.rangeOf : List D → R (List D)
  | [.int n] => rangeD 0 n
  | [.int a, .int b] => rangeD a b
  | _ => .stuck
def D.items : D → R (List D)
  | .lst xs => .ok xs
  | .tup xs => .ok xs
  | .scr ns => .ok (ns.map D.int)
  | .str x => .ok (x.cps.toList.map fun c => D.str ⟨#[c]⟩)
  | _ => .stuck
def D.zipOf : D → D → R (List D)
  | .lst xs, .lst ys => .ok (xs.zipWith (fun x y => .tup [x, y]) ys)
  | _, _ => .stuck
def setAll : List Nat → List D → Env → Option Env
  | [], [], ρ => some ρ
  | i :: is, d :: ds, ρ => setAll is ds (ρ.set i (some d))
  | _, _, _ => none
def Tgt.bind : Tgt → D → Env → R Env
  | .nm i, d, ρ => .ok (ρ.set i (some d))
  | .tp is, d, ρ => match d with
    | .tup ds => match setAll is ds ρ with
      | some ρ' => .ok ρ'
      | none => .stuck
    | _ => .stuck
def Tgt.ixs : Tgt → List Nat
  | .nm i => [i]
  | .tp is => is
def R.nox {α : Type} : R α → R α
  | .ok a => .ok a
  | _ => .stuck
@[simp] theorem R.nox_ok {α : Type} (a : α) : (R.ok a).nox = .ok a := Eq.trans rfl rfl
def lcGo (f : D → R (Option D)) : List D → R (List D)
  | [] => .ok []
  | x :: xs => do
    let o ← (f x).nox
    let l ← lcGo f xs
    match o with
    | some d => .ok (d :: l)
    | none => .ok l
abbrev Fns := List (Nat × (List D → R D))
def Es.len : Es → Nat
  | .nil => 0
  | .cons _ es => es.len + 1
mutual
def ev (Φ : Fns) : E → Env → R D
  | .var i, ρ => match ρ[i]? with
    | some (some d) => .ok d
    | _ => .stuck
  | .cst c, _ => .ok c.d
  | .glo _ c, _ => .ok c.d
  | .bin o a b, ρ => do
    let x ← ev Φ a ρ
    let y ← ev Φ b ρ
    o.f x y
  | .neg a, ρ => do
    let x ← ev Φ a ρ
    D.negI x
  | .cmp o a b, ρ => do
    let x ← ev Φ a ρ
    let y ← ev Φ b ρ
    o.f x y
  | .isn no a, ρ => do
    let x ← ev Φ a ρ
    .ok (.bl (if no then !x.isNon else x.isNon))
  | .isb no a b, ρ => do
    let x ← ev Φ a ρ
    D.isb no b x
  | .chain o1 o2 a b c, ρ => do
    let x ← ev Φ a ρ
    let y ← ev Φ b ρ
    let r ← o1.f x y
    let k ← D.asB r
    if k then do
      let z ← ev Φ c ρ
      o2.f y z
    else .ok (.bl false)
  | .and es, ρ => evAnd Φ es ρ
  | .or es, ρ => evOr Φ es ρ
  | .not a, ρ => do
    let x ← ev Φ a ρ
    let k ← D.truth x
    .ok (.bl (!k))
  | .tup es, ρ => do
    let xs ← evs Φ es ρ
    .ok (.tup xs)
  | .lst es, ρ => do
    let xs ← evs Φ es ρ
    .ok (.lst xs)
  | .ix a b, ρ => do
    let x ← ev Φ a ρ
    let y ← ev Φ b ρ
    D.ix x y
  | .sl a lo hi, ρ => do
    let x ← ev Φ a ρ
    let l ← evPart Φ lo ρ
    let h ← evPart Φ hi ρ
    D.sl x l h
  | .call k es, ρ => do
    let xs ← evs Φ es ρ
    match Φ[k]? with
    | some (n, g) => if xs.length = n then g xs else .stuck
    | none => .stuck
  | .bi b es, ρ => do
    let xs ← evs Φ es ρ
    b.f xs
  | .isi a t, ρ => do
    let x ← ev Φ a ρ
    .ok (.bl (x.isTy t))
  | .minD a, ρ => do
    let x ← ev Φ a ρ
    D.minD x
  | .lrange1 a, ρ => do
    let x ← ev Φ a ρ
    let l ← D.rangeOf [x]
    if l.length ≤ 16777216 then .ok (.lst l) else .stuck
  | .lrange2 a b, ρ => do
    let x ← ev Φ a ρ
    let y ← ev Φ b ρ
    let l ← D.rangeOf [x, y]
    if l.length ≤ 16777216 then .ok (.lst l) else .stuck
  | .lc t it ifs e, ρ => do
    let xs ← evIt Φ it ρ
    if xs.length ≤ 16777215 then do
      let l ← lcGo (fun x => do
        let ρ' ← t.bind x ρ
        let k ← evTests Φ ifs ρ'
        if k then do
          let y ← ev Φ e ρ'
          .ok (some y)
        else .ok none) xs
      .ok (.lst l)
    else .stuck
def evs (Φ : Fns) : Es → Env → R (List D)
  | .nil, _ => .ok []
  | .cons e es, ρ => do
    let x ← ev Φ e ρ
    let xs ← evs Φ es ρ
    .ok (x :: xs)
def evAnd (Φ : Fns) : Es → Env → R D
  | .nil, _ => .stuck
  | .cons e es, ρ => match es with
    | .nil => ev Φ e ρ
    | .cons _ _ => do
      let x ← ev Φ e ρ
      let k ← D.truth x
      if k then evAnd Φ es ρ else .ok x
def evOr (Φ : Fns) : Es → Env → R D
  | .nil, _ => .stuck
  | .cons e es, ρ => match es with
    | .nil => ev Φ e ρ
    | .cons _ _ => do
      let x ← ev Φ e ρ
      let k ← D.truth x
      if k then .ok x else evOr Φ es ρ
def evPart (Φ : Fns) : Es → Env → R (Option Int)
  | .nil, _ => .ok none
  | .cons e _, ρ => do
    let x ← ev Φ e ρ
    D.asI x
def evTests (Φ : Fns) : Es → Env → R Bool
  | .nil, _ => .ok true
  | .cons e _, ρ => do
    let x ← ev Φ e ρ
    D.truth x
def evIt (Φ : Fns) : It → Env → R (List D)
  | .val a, ρ => do
    let x ← ev Φ a ρ
    D.items x
  | .range es, ρ => do
    let xs ← evs Φ es ρ
    D.rangeOf xs
  | .zip a b, ρ => do
    let x ← ev Φ a ρ
    let y ← ev Φ b ρ
    D.zipOf x y
end
end Py

namespace Py
open PySem PySem.Spec PyProof.Rows L2

/-! ## a def's promise by a pure function -/
def spOf (K : PySem.W.Frag) (mg : Str → Option Value) (n : Nat) (g : List D → R D) : Sp := fun vs H Q E =>
  ∃ (Hs : Hp) (ds : List D), Ex Hs H ∧ Reps K Hs ds vs ∧ ds.length = n ∧ PstD K mg Hs H (g ds) Q E
/-- a def that may be called -/
structure Cal where
  name : Str
  f : Addr
  fd : FuncData
  ps : List Str
  g : List D → R D
structure Cal.Ok (c : Cal) (P : Program) (w : World) (K : PySem.W.Frag) (mg : Str → Option Value) (base : Heap) (k : Nat) : Prop where
  ok : FnOk P w K mg base (L2.CX P w) k c.f c.fd c.ps (spOf K mg c.ps.length c.g)
  gl : mg c.name = some (.ref c.f)
  kp : PySem.W.keepIn K (.ref c.f) = true
  bd : Binds K c.fd c.ps []
/-- what the checker knows: the slots' names, the module's constants, the built-ins' names that are free, the callees' names and numbers of parameters -/
structure Cfg where
  N : List Str
  gl : List (Str × Cst)
  bl : List Str
  cn : List (Str × Nat)
structure XOk (X : Cx) (C : Cfg) (cs : List Cal) (k : Nat) : Prop where
  calm : X.calm = true
  names : X.N = C.N
  nd : C.N.Nodup
  room : Room k X.A
  fns : ∀ c ∈ cs, c.Ok X.prog X.w X.K X.mg X.base k
  cn : C.cn = cs.map fun c => (c.name, c.ps.length)
  free : ∀ x ∈ C.bl, X.mg x = none
  glob : ∀ p ∈ C.gl, ∃ u, X.mg p.1 = some u ∧ RelV p.2.v u
def fnsOf (cs : List Cal) : Fns := cs.map fun c => (c.ps.length, c.g)

/-! ## looking at the row's terms -/
def xName : Expr → Option Str
  | .Name x _ => some x
  | _ => none
def xConst : Expr → Option Const
  | .Constant c _ _ => some c
  | _ => none
def xBin : Expr → Option (Expr × Operator × Expr)
  | .BinOp a o b _ => some (a, o, b)
  | _ => none
def xUn : Expr → Option (UnaryOp × Expr)
  | .UnaryOp o a _ => some (o, a)
  | _ => none
def xCmp : Expr → Option (Expr × CmpOp × Expr)
  | .Compare a [o] [b] _ => some (a, o, b)
  | _ => none
def xChain : Expr → Option (Expr × CmpOp × CmpOp × Expr × Expr)
  | .Compare a [o, o'] [b, c] _ => some (a, o, o', b, c)
  | _ => none
def xBool : Expr → Option (BoolOp × List Expr)
  | .BoolOp o xs _ => some (o, xs)
  | _ => none
def xTup : Expr → Option (List Expr)
  | .Tuple xs _ _ => some xs
  | _ => none
def xLst : Expr → Option (List Expr)
  | .List xs _ => some xs
  | _ => none
def xSub : Expr → Option (Expr × Expr)
  | .Subscript a b _ => some (a, b)
  | _ => none
def xSlice : Expr → Option (Option Expr × Option Expr)
  | .Slice l h none _ => some (l, h)
  | _ => none
def xCall : Expr → Option (Str × List Expr)
  | .Call (.Name x _) args [] _ => some (x, args)
  | _ => none
def xCallK : Expr → Option (Str × List Expr × Str × Expr)
  | .Call (.Name x _) args [⟨some n, e, _⟩] _ => some (x, args, n, e)
  | _ => none
def xLc : Expr → Option (Expr × Expr × Expr × List Expr × Scope)
  | .ListComp e [⟨t, i, ifs, 0⟩] sc _ => some (e, t, i, ifs, sc)
  | _ => none
theorem xName_s {e : Expr} {x : Str} (h : xName e = some x) : ∃ p, e = .Name x p := by
  unfold xName at h; split at h <;> simp at h; subst h; exact ⟨_, rfl⟩
theorem xConst_s {e : Expr} {x : Const} (h : xConst e = some x) : ∃ j p, e = .Constant x j p := by
  unfold xConst at h; split at h <;> simp at h; subst h; exact ⟨_, _, rfl⟩
theorem xBin_s {e a b : Expr} {o : Operator} (h : xBin e = some (a, o, b)) : ∃ p, e = .BinOp a o b p := by
  unfold xBin at h; split at h <;> simp at h; obtain ⟨rfl, rfl, rfl⟩ := h; exact ⟨_, rfl⟩
theorem xUn_s {e a : Expr} {o : UnaryOp} (h : xUn e = some (o, a)) : ∃ p, e = .UnaryOp o a p := by
  unfold xUn at h; split at h <;> simp at h; obtain ⟨rfl, rfl⟩ := h; exact ⟨_, rfl⟩
theorem xCmp_s {e a b : Expr} {o : CmpOp} (h : xCmp e = some (a, o, b)) : ∃ p, e = .Compare a [o] [b] p := by
  unfold xCmp at h; split at h <;> simp at h; obtain ⟨rfl, rfl, rfl⟩ := h; exact ⟨_, rfl⟩
theorem xChain_s {e a b c : Expr} {o o' : CmpOp} (h : xChain e = some (a, o, o', b, c)) : ∃ p, e = .Compare a [o, o'] [b, c] p := by
  unfold xChain at h; split at h <;> simp at h; obtain ⟨rfl, rfl, rfl, rfl, rfl⟩ := h; exact ⟨_, rfl⟩
theorem xBool_s {e : Expr} {xs : List Expr} {o : BoolOp} (h : xBool e = some (o, xs)) : ∃ p, e = .BoolOp o xs p := by
  unfold xBool at h; split at h <;> simp at h; obtain ⟨rfl, rfl⟩ := h; exact ⟨_, rfl⟩
theorem xTup_s {e : Expr} {xs : List Expr} (h : xTup e = some xs) : ∃ k p, e = .Tuple xs k p := by
  unfold xTup at h; split at h <;> simp at h; subst h; exact ⟨_, _, rfl⟩
theorem xLst_s {e : Expr} {xs : List Expr} (h : xLst e = some xs) : ∃ p, e = .List xs p := by
  unfold xLst at h; split at h <;> simp at h; subst h; exact ⟨_, rfl⟩
theorem xSub_s {e a b : Expr} (h : xSub e = some (a, b)) : ∃ p, e = .Subscript a b p := by
  unfold xSub at h; split at h <;> simp at h; obtain ⟨rfl, rfl⟩ := h; exact ⟨_, rfl⟩
theorem xSlice_s {e : Expr} {l u : Option Expr} (h : xSlice e = some (l, u)) : ∃ p, e = .Slice l u none p := by
  unfold xSlice at h; split at h <;> simp at h; obtain ⟨rfl, rfl⟩ := h; exact ⟨_, rfl⟩
theorem xCall_s {e : Expr} {x : Str} {as : List Expr} (h : xCall e = some (x, as)) : ∃ p q, e = .Call (.Name x p) as [] q := by
  unfold xCall at h; split at h <;> simp at h; obtain ⟨rfl, rfl⟩ := h; exact ⟨_, _, rfl⟩
theorem xCallK_s {e d : Expr} {x n : Str} {as : List Expr} (h : xCallK e = some (x, as, n, d)) : ∃ p q r, e = .Call (.Name x p) as [⟨some n, d, r⟩] q := by
  unfold xCallK at h; split at h <;> simp at h; obtain ⟨rfl, rfl, rfl, rfl⟩ := h; exact ⟨_, _, _, rfl⟩
theorem xLc_s {e elt t i : Expr} {ifs : List Expr} {sc : Scope} (h : xLc e = some (elt, t, i, ifs, sc)) : ∃ p, e = .ListComp elt [⟨t, i, ifs, 0⟩] sc p := by
  unfold xLc at h; split at h <;> simp at h; obtain ⟨rfl, rfl, rfl, rfl, rfl⟩ := h; exact ⟨_, rfl⟩
/-- no star, no set display -/
def plain : Expr → Bool
  | .Starred _ _ => false
  | .Set _ _ _ => false
  | .Slice _ _ _ _ => false
  | _ => true
def visOk (sc : Scope) (x : Str) : Bool := (match sc.names.lookup x with
  | some .local => true | some .cell => true | some .free => true | _ => false) && !(x == ("__debug__" : Str)) && !(x == ("__classdict__" : Str))
def glOk (sc : Scope) (x : Str) : Bool := decide (sc.names.lookup x = some .globalImplicit) && !(x == ("__debug__" : Str)) && decide (x ≠ ("__name__" : Str))
/-- a target's name, stored -/
def locOk (sc raw : Scope) (x : Str) : Bool := match raw.names.lookup x with
  | some .local => decide (sc.names.lookup x = some .local)
  | some .cell => decide (sc.names.lookup x = some .cell)
  | _ => false
def chkNames (N : List Str) (sc raw : Scope) : List Nat → List Expr → Bool
  | [], [] => true
  | i :: is, e :: es => (match xName e with
    | some x => decide (N[i]? = some x) && locOk sc raw x
    | none => false) && chkNames N sc raw is es
  | _, _ => false
def chkTgt (N : List Str) (sc raw : Scope) : Tgt → Expr → Bool
  | .nm i, e => match xName e with
    | some x => decide (N[i]? = some x) && locOk sc raw x
    | none => false
  | .tp is, e => match xTup e with
    | some es => chkNames N sc raw is es
    | none => false
def ownOf (N : List Str) (t : Tgt) : List (Str × Nat) := t.ixs.filterMap fun i => (N[i]?).map fun x => (x, i)
def Bi.isTy : Bi → Bool
  | .list => true | .tuple => true | .int => true | _ => false
def tgtOk : It → Tgt → Bool
  | .zip _ _, .nm _ => false
  | _, _ => true
mutual
def chk (C : Cfg) (sc : Scope) : E → Expr → Bool
  | .var i, e => match xName e with
    | some x => decide (C.N[i]? = some x) && visOk sc x
    | none => false
  | .cst c, e => match xConst e with
    | some k => c.is k
    | none => false
  | .glo x c, e => match xName e with
    | some y => decide (x = y) && glOk sc x && C.gl.contains (x, c)
    | none => false
  | .bin o a b, e => match xBin e with
    | some (x, p, y) => decide (p = o.op) && chk C sc a x && chk C sc b y
    | none => false
  | .neg a, e => match xUn e with
    | some (o, x) => decide (o = .USub) && chk C sc a x
    | none => false
  | .cmp o a b, e => match xCmp e with
    | some (x, p, y) => decide (p = o.op) && plain y && chk C sc a x && chk C sc b y
    | none => false
  | .isn no a, e => match xCmp e with
    | some (x, p, y) => decide (p = if no then .IsNot else .Is) && (match xConst y with | some .none => true | _ => false) && chk C sc a x
    | none => false
  | .isb no a b, e => match xCmp e with
    | some (x, p, y) => decide (p = if no then .IsNot else .Is) && (match xConst y with | some (.bool c) => b == c | _ => false) && chk C sc a x
    | none => false
  | .chain o1 o2 a b c, e => match xChain e with
    | some (x, p, q, y, z) => decide (p = o1.op) && decide (q = o2.op) && plain y && plain z && chk C sc a x && chk C sc b y && chk C sc c z
    | none => false
  | .and es, e => match xBool e with
    | some (o, xs) => decide (o = .And) && decide (es.len ≠ 0) && chks C sc es xs
    | none => false
  | .or es, e => match xBool e with
    | some (o, xs) => decide (o = .Or) && decide (es.len ≠ 0) && chks C sc es xs
    | none => false
  | .not a, e => match xUn e with
    | some (o, x) => decide (o = .Not) && chk C sc a x
    | none => false
  | .tup es, e => match xTup e with
    | some xs => decide (es.len ≤ 1000) && chks C sc es xs
    | none => false
  | .lst es, e => match xLst e with
    | some xs => decide (es.len ≤ 1000) && chks C sc es xs
    | none => false
  | .ix a b, e => match xSub e with
    | some (x, y) => plain y && chk C sc a x && chk C sc b y
    | none => false
  | .sl a lo hi, e => match xSub e with
    | some (x, y) => match xSlice y with
      | some (l, h) => chk C sc a x && chkPart C sc lo l && chkPart C sc hi h
      | none => false
    | none => false
  | .call k es, e => match xCall e with
    | some (x, xs) => decide (C.cn[k]? = some (x, es.len)) && decide (es.len ≠ 0) && glOk sc x && chks C sc es xs
    | none => false
  | .bi b es, e => match xCall e with
    | some (x, xs) => decide (x = b.name) && C.bl.contains x && decide (es.len ≠ 0) && glOk sc x && chks C sc es xs
    | none => false
  | .isi a t, e => match xCall e with
    | some (x, xs) => decide (x = ("isinstance" : Str)) && C.bl.contains x && glOk sc x && (match xs with
      | [y, z] => (match xName z with
        | some n => decide (n = Str.ofString t.name) && C.bl.contains n && glOk sc n
        | none => false) && plain y && chk C sc a y
      | _ => false)
    | none => false
  | .minD a, e => match xCallK e with
    | some (x, xs, n, d) => decide (x = ("min" : Str)) && C.bl.contains x && glOk sc x && decide (n = ("default" : Str)) && (match xConst d with | some .none => true | _ => false) && (match xs with
      | [y] => plain y && chk C sc a y
      | _ => false)
    | none => false
  | .lrange1 a, e => match xCall e with
    | some (x, xs) => decide (x = ("list" : Str)) && C.bl.contains x && glOk sc x && (match xs with
      | [y] => (match xCall y with
        | some (r, ys) => decide (r = ("range" : Str)) && C.bl.contains r && glOk sc r && (match ys with
          | [z] => plain z && chk C sc a z
          | _ => false)
        | none => false)
      | _ => false)
    | none => false
  | .lrange2 a b, e => match xCall e with
    | some (x, xs) => decide (x = ("list" : Str)) && C.bl.contains x && glOk sc x && (match xs with
      | [y] => (match xCall y with
        | some (r, ys) => decide (r = ("range" : Str)) && C.bl.contains r && glOk sc r && (match ys with
          | [z, u] => plain z && plain u && chk C sc a z && chk C sc b u
          | _ => false)
        | none => false)
      | _ => false)
    | none => false
  | .lc t it ifs el, e => match xLc e with
    | some (x, tg, i, fs, raw) => blkC C.N sc raw (ownOf C.N t) && chkIt C sc it i && tgtOk it t && chkTgt C.N (relS raw sc) raw t tg && chkTests C (relS raw sc) ifs fs && chk C (relS raw sc) el x && decide ((ownOf C.N t).map (·.2) = t.ixs) && decide (t.ixs.Nodup)
    | none => false
def chks (C : Cfg) (sc : Scope) : Es → List Expr → Bool
  | .nil, es => es.isEmpty
  | .cons a as, es => match es with
    | e :: es => plain e && chk C sc a e && chks C sc as es
    | [] => false
def chkPart (C : Cfg) (sc : Scope) : Es → Option Expr → Bool
  | .nil, o => o.isNone
  | .cons a as, o => match as, o with
    | .nil, some e => chk C sc a e
    | _, _ => false
def chkTests (C : Cfg) (sc : Scope) : Es → List Expr → Bool
  | .nil, es => es.isEmpty
  | .cons a as, es => match as, es with
    | .nil, [e] => chk C sc a e
    | _, _ => false
def chkIt (C : Cfg) (sc : Scope) : It → Expr → Bool
  | .val a, e => plain e && chk C sc a e
  | .range es, e => match xCall e with
    | some (x, xs) => decide (x = ("range" : Str)) && C.bl.contains x && glOk sc x && decide (es.len = 1 ∨ es.len = 2) && chks C sc es xs
    | none => false
  | .zip a b, e => match xCall e with
    | some (x, xs) => decide (x = ("zip" : Str)) && C.bl.contains x && glOk sc x && (match xs with
      | [y, z] => plain y && plain z && chk C sc a y && chk C sc b z
      | _ => false)
    | none => false
end
end Py

namespace Py
open PySem PySem.Spec PyProof.Rows L2

section
variable {X : Cx} {W : WX} {e a b c : Expr} {pos : Pos} {fa fb fc : Env → R D}

/-! ## one construct each -/
theorem se_var {i : Nat} {x : Str} (hN : X.N[i]? = some x) (hv : visOk X.env.scope x = true) : PE X (.Name x pos) (tD X.K X.mg W fun ρ => match ρ[i]? with | some (some d) => .ok d | _ => .stuck) := by
  unfold visOk at hv
  simp only [Bool.and_eq_true, Bool.not_eq_true'] at hv
  obtain ⟨⟨h1, h2⟩, h3⟩ := hv
  refine PE.imp (pe_var hN ?_ h2 h3) fun σ H Q ⟨ρ, Hs, he, hr, hp⟩ => ?_
  · unfold Vis
    split at h1 <;> first | (exact .inl (by assumption)) | (exact .inr (.inl (by assumption))) | (exact .inr (.inr (by assumption))) | cases h1
  · cases q : ρ[i]? with
    | none => simp only [q] at hp; exact hp.elim
    | some o =>
      cases o with
      | none => simp only [q] at hp; exact hp.elim
      | some d =>
        simp only [q] at hp
        obtain ⟨v, e1, r1⟩ := hr.2 i d q
        exact ⟨v, e1, hp.now he r1⟩
theorem cst_rep {K : PySem.W.Frag} {H : Hp} : ∀ c : Cst, Rep K H c.d c.v
  | .non => .non
  | .bl b => .bl b
  | .int i => .int i
  | .str x => .str x
theorem se_cst {k : Cst} {x : Const} {j : Nat} (h : k.is x = true) : PE X (.Constant x j pos) (tD X.K X.mg W fun _ => .ok k.d) := by
  have go : PE X (.Constant x j pos) (tC k.v) := by
    cases k <;> cases x <;> first
      | (simp [Cst.is] at h; done)
      | exact pe_non
      | (simp [Cst.is] at h; subst h; exact pe_bl)
      | (simp [Cst.is] at h; subst h; exact pe_int)
      | (simp [Cst.is] at h; subst h; exact pe_str)
  exact PE.imp go fun σ H Q ⟨ρ, Hs, he, hr, hp⟩ => hp.now he (cst_rep k)
theorem gl_of {x : Str} (h : glOk X.env.scope x = true) : Gl X x ∧ (x == ("__debug__" : Str)) = false ∧ x ≠ "__name__" := by
  unfold glOk at h
  simp only [Bool.and_eq_true, decide_eq_true_eq, Bool.not_eq_true'] at h
  exact ⟨h.1.1, h.1.2, h.2⟩
theorem se_glo {x : Str} {k : Cst} {u : Value} (h : glOk X.env.scope x = true) (hm : X.mg x = some u) (r : RelV k.v u) : PE X (.Name x pos) (tD X.K X.mg W fun _ => .ok k.d) := by
  obtain ⟨h1, h2, _⟩ := gl_of h
  exact PE.imp (pe_glob h1 hm r h2) fun σ H Q ⟨ρ, Hs, he, hr, hp⟩ => hp.now he (cst_rep k)
/-- two values, then an operator -/
theorem op_imp {g : D → D → R D} {σ : L2.St} {H : Hp} {Q : VK} (h : tD X.K X.mg W (fun ρ => do
    let x ← fa ρ
    let y ← fb ρ
    g x y) σ H Q) : tOp (rD X.K X.mg g) (tD X.K X.mg W fa) (tD X.K X.mg W fb) σ H Q := by
  obtain ⟨ρ, Hs, he, hr, hp⟩ := h
  exact ⟨ρ, Hs, he, hr, hp.bind fun d _ v Hi H1 l rv hp1 => ⟨ρ, Hi, l.sub, hr.mono l.old, hp1.bind fun d2 _ v2 Hj H2 l2 rv2 hp2 => ⟨Hj, d, d2, _, l2.sub, rv.mono l2.old, rv2, hp2⟩⟩⟩
theorem se_bin {o : Bop} (ha : SE X W a fa) (hb : SE X W b fb) : SE X W (.BinOp a o.op b pos) (fun ρ => do
    let x ← fa ρ
    let y ← fb ρ
    o.f x y) := PE.imp (pe_op (bs_all o) ha hb) fun _ _ _ h => op_imp h
theorem se_neg (ha : SE X W a fa) : SE X W (.UnaryOp .USub a pos) (fun ρ => do
    let x ← fa ρ
    D.negI x) := by
  refine PE.imp (pe_un un_neg ha) fun σ H Q ⟨ρ, Hs, he, hr, hp⟩ => ⟨ρ, Hs, he, hr, hp.bind fun d _ v Hi H1 l rv hp1 => ?_⟩
  cases d with
  | int i => exact ⟨i, rv.intI, hp1.now l.sub (.int _)⟩
  | _ => exact hp1.elim
theorem nomk {o : Cop} (h : plain b = true) : behindInMarks o.op b = false := by
  cases b <;> first | rfl | cases h
theorem se_cmp {o : Cop} (hu : X.A.units + 65 < cLine) (hpl : plain b = true) (ha : SE X W a fa) (hb : SE X W b fb) : SE X W (.Compare a [o.op] [b] pos) (fun ρ => do
    let x ← fa ρ
    let y ← fb ρ
    o.f x y) := PE.imp (pe_cmpR (cs_all hu o) ha hb (nomk hpl)) fun _ _ _ h => op_imp h
theorem eq_bl {a b : D} {d : D} (h : D.eq a b = .ok d) : ∃ k, d = .bl k := by
  unfold D.eq at h
  split at h
  · cases h; exact ⟨_, rfl⟩
  · cases h; exact ⟨_, rfl⟩
  · cases h; exact ⟨_, rfl⟩
  · split at h <;> cases h
    exact ⟨_, rfl⟩
theorem neg_bl {r : R D} {d : D} (h : D.neg r = .ok d) : ∃ k, d = .bl k := by
  unfold D.neg at h
  split at h <;> cases h
  exact ⟨_, rfl⟩
theorem cop_bl {o : Cop} {x y d : D} (h : o.f x y = .ok d) : ∃ k, d = .bl k := by
  cases o with
  | eq => exact eq_bl h
  | ne => exact neg_bl h
  | notin => exact neg_bl h
  | lt =>
    have h : D.lt x y = .ok d := h
    unfold D.lt at h
    split at h
    · cases h; exact ⟨_, rfl⟩
    · split at h <;> cases h
      exact ⟨_, rfl⟩
  | le =>
    have h : D.cmpI _ x y = .ok d := h
    unfold D.cmpI at h
    split at h <;> cases h
    exact ⟨_, rfl⟩
  | gt =>
    have h : D.cmpI _ x y = .ok d := h
    unfold D.cmpI at h
    split at h <;> cases h
    exact ⟨_, rfl⟩
  | ge =>
    have h : D.cmpI _ x y = .ok d := h
    unfold D.cmpI at h
    split at h <;> cases h
    exact ⟨_, rfl⟩
  | isin =>
    have h : D.isin x y = .ok d := h
    unfold D.isin at h
    split at h
    · split at h <;> cases h
      exact ⟨_, rfl⟩
    · split at h <;> cases h
      exact ⟨_, rfl⟩
    · split at h <;> cases h
      exact ⟨_, rfl⟩
    · cases h
theorem sb_cmp {o : Cop} (hu : X.A.units + 65 < cLine) (hpl : plain b = true) (ha : SE X W a fa) (hb : SE X W b fb) : SB X W (.Compare a [o.op] [b] pos) (fun ρ => (do
    let x ← fa ρ
    let y ← fb ρ
    o.f x y) >>= D.truth) := by
  refine PT.imp (pt_cmpR (cs_all hu o) ha hb (nomk hpl)) fun σ H Q h => ?_
  obtain ⟨ρ, Hs, he, hr, hp⟩ := h
  simp only [R.bind_assoc] at hp
  refine ⟨ρ, Hs, he, hr, hp.bind fun d _ v Hi H1 l rv hp1 => ⟨ρ, Hi, l.sub, hr.mono l.old, hp1.bind fun d2 _ v2 Hj H2 l2 rv2 hp2 => ⟨Hj, d, d2, _, l2.sub, rv.mono l2.old, rv2, hp2.bind fun d3 e3 v3 Hk H3 l3 rv3 hp3 => ?_⟩⟩⟩
  obtain ⟨k, rfl⟩ := cop_bl e3
  exact ⟨k, rv3.blI, Pst.now (d := k) hp3 l3.sub rfl⟩
/-- truth -/
theorem tru_of {K : PySem.W.Frag} {Hs H : Hp} {d : D} {v : V} {k : Bool} (r : Rep K Hs d v) (he : Ex Hs H) (h : D.truth d = .ok k) : TruV K v H k := by
  cases d with
  | non => cases h; rw [r.nonI]; exact rfl
  | bl b => cases h; rw [r.blI]; exact rfl
  | int i => cases h; rw [r.intI]; exact rfl
  | str x =>
    have h : (if x.length ≤ 16777216 then .ok ((x.length : Int) != 0) else .stuck) = R.ok k := h
    split at h <;> cases h
    rw [r.strI]
    exact ⟨by rw [size_eq]; assumption, rfl⟩
  | lst xs =>
    cases h
    obtain ⟨p, vs, rfl, e1, r1⟩ := r.lstI
    exact .inl ⟨vs, SqL.of (he _ _ e1), by cases r1 <;> rfl⟩
  | tup xs =>
    cases h
    obtain ⟨p, vs, rfl, e1, r1⟩ := r.tupI
    exact .inr (.inl ⟨vs, SqT.of (he _ _ e1), by cases r1 <;> rfl⟩)
  | scr ns =>
    cases h
    obtain ⟨p, rfl, q⟩ := (r.mono he).scrI
    exact .inl ⟨_, q, by cases ns <;> rfl⟩
theorem truth_cases (d : D) : (∃ k, D.truth d = .ok k) ∨ D.truth d = .stuck := by
  cases d with
  | str x =>
    show (∃ k, (if x.length ≤ 16777216 then .ok ((x.length : Int) != 0) else .stuck) = R.ok k) ∨ (if x.length ≤ 16777216 then .ok ((x.length : Int) != 0) else .stuck) = R.stuck
    split
    · exact .inl ⟨_, rfl⟩
    · exact .inr rfl
  | _ => exact .inl ⟨_, rfl⟩
theorem se_not (ha : SE X W a fa) : SE X W (.UnaryOp .Not a pos) (fun ρ => do
    let x ← fa ρ
    let k ← D.truth x
    .ok (.bl (!k))) := by
  refine PE.imp (pe_notT ha) fun σ H Q ⟨ρ, Hs, he, hr, hp⟩ => ⟨ρ, Hs, he, hr, hp.bind fun d _ v Hi H1 l rv hp1 => ?_⟩
  rcases truth_cases d with ⟨k, e⟩ | e
  · rw [e] at hp1
    exact ⟨k, tru_of rv l.sub e, Pst.now (d := D.bl _) hp1 l.sub (.bl _)⟩
  · rw [e] at hp1
    exact hp1.elim
/-- a test by its value's truth -/
theorem sb_of (ha : SE X W a fa) (he : ∀ whole, isTrue a X.env whole = (do let v ← whole; standAt a.pos; holding [v] (truthy v))) : SB X W a (fun ρ => fa ρ >>= D.truth) := by
  refine PT.imp (pt_truth ha he) fun σ H Q ⟨ρ, Hs, he, hr, hp⟩ => ⟨ρ, Hs, he, hr, hp.bind fun d _ v Hi H1 l rv hp1 => ?_⟩
  rcases truth_cases d with ⟨k, e⟩ | e
  · rw [e] at hp1
    exact ⟨k, tru_of rv l.sub e, Pst.now (d := k) hp1 l.sub rfl⟩
  · rw [e] at hp1
    exact hp1.elim
theorem sb_not (ha : SB X W a (fun ρ => fa ρ >>= D.truth)) : SB X W (.UnaryOp .Not a pos) (fun ρ => (do
    let x ← fa ρ
    let k ← D.truth x
    .ok (.bl (!k))) >>= D.truth) := by
  have e : ∀ r : R D, ((do
    let x ← r
    let k ← D.truth x
    R.ok (D.bl (!k))) >>= D.truth) = ((r >>= D.truth) >>= fun k => R.ok (!k)) := fun r => by
    cases r with
    | ok x =>
      simp only [R.bind_ok]
      rcases truth_cases x with ⟨k, q⟩ | q <;> rw [q] <;> rfl
    | exc _ => rfl
    | stuck => rfl
  refine PT.imp (pt_not ha) fun σ H Q ⟨ρ, Hs, he, hr, hp⟩ => ⟨ρ, Hs, he, hr, ?_⟩
  simp only [e] at hp
  exact Pst.bind (Rel2 := RB) hp fun k _ c Hi H1 l rc hp1 => by
    cases rc
    exact Pst.now (d := !k) hp1 l.sub rfl
theorem se_isn {no : Bool} {j : Nat} {p2 : Pos} (ha : SE X W a fa) : SE X W (.Compare a [if no then .IsNot else .Is] [.Constant .none j p2] pos) (fun ρ => do
    let x ← fa ρ
    .ok (.bl (if no then !x.isNon else x.isNon))) := by
  have nn : ∀ {d : D} {v : V} {Hi : Hp}, Rep X.K Hi d v → decide (v = V.non) = d.isNon := fun {d v Hi} r => by
    cases r <;> simp [D.isNon]
  cases no with
  | true =>
    refine PE.imp (pe_cmp (pc_notN ha)) fun σ H Q ⟨ρ, Hs, he, hr, hp⟩ => ⟨ρ, Hs, he, hr, hp.bind fun d _ v Hi H1 l rv hp1 => ?_⟩
    rw [nn rv]
    exact Pst.now (d := D.bl _) hp1 l.sub (.bl _)
  | false =>
    refine PE.imp (pe_cmp (pc_isN ha)) fun σ H Q ⟨ρ, Hs, he, hr, hp⟩ => ⟨ρ, Hs, he, hr, hp.bind fun d _ v Hi H1 l rv hp1 => ?_⟩
    rw [nn rv]
    exact Pst.now (d := D.bl _) hp1 l.sub (.bl _)
theorem sb_isn {no : Bool} {j : Nat} {p2 : Pos} (ha : SE X W a fa) : SB X W (.Compare a [if no then .IsNot else .Is] [.Constant .none j p2] pos) (fun ρ => (do
    let x ← fa ρ
    .ok (.bl (if no then !x.isNon else x.isNon))) >>= D.truth) := by
  have nn : ∀ {d : D} {v : V} {Hi : Hp}, Rep X.K Hi d v → decide (v = V.non) = d.isNon := fun {d v Hi} r => by
    cases r <;> simp [D.isNon]
  cases no with
  | true =>
    refine PT.imp (pt_cmp (pc_notN ha)) fun σ H Q ⟨ρ, Hs, he, hr, hp⟩ => ?_
    simp only [R.bind_assoc] at hp
    refine ⟨ρ, Hs, he, hr, hp.bind fun d _ v Hi H1 l rv hp1 => ?_⟩
    rw [nn rv]
    exact ⟨_, rfl, Pst.now (d := !d.isNon) hp1 l.sub rfl⟩
  | false =>
    refine PT.imp (pt_cmp (pc_isN ha)) fun σ H Q ⟨ρ, Hs, he, hr, hp⟩ => ?_
    simp only [R.bind_assoc] at hp
    refine ⟨ρ, Hs, he, hr, hp.bind fun d _ v Hi H1 l rv hp1 => ?_⟩
    rw [nn rv]
    exact ⟨_, rfl, Pst.now (d := d.isNon) hp1 l.sub rfl⟩
theorem se_isb {no b : Bool} {j : Nat} {p2 : Pos} (ha : SE X W a fa) : SE X W (.Compare a [if no then .IsNot else .Is] [.Constant (.bool b) j p2] pos) (fun ρ => do
    let x ← fa ρ
    D.isb no b x) := by
  cases no with
  | true =>
    refine PE.imp (pe_cmpR op_isnot_bl ha pe_bl rfl) fun σ H Q ⟨ρ, Hs, he, hr, hp⟩ => ⟨ρ, Hs, he, hr, hp.bind fun d _ v Hi H1 l rv hp1 => ?_⟩
    cases d with
    | bl k => exact ⟨k, b, rv.blI, rfl, Pst.now (d := D.bl _) hp1 l.sub (.bl _)⟩
    | _ => exact hp1.elim
  | false =>
    refine PE.imp (pe_cmpR op_is_bl ha pe_bl rfl) fun σ H Q ⟨ρ, Hs, he, hr, hp⟩ => ⟨ρ, Hs, he, hr, hp.bind fun d _ v Hi H1 l rv hp1 => ?_⟩
    cases d with
    | bl k => exact ⟨k, b, rv.blI, rfl, Pst.now (d := D.bl _) hp1 l.sub (.bl _)⟩
    | _ => exact hp1.elim
theorem isb_bl {no b : Bool} {x d : D} (h : D.isb no b x = .ok d) : ∃ k, d = .bl k := by
  unfold D.isb at h
  split at h <;> cases h
  exact ⟨_, rfl⟩
theorem sb_isb {no b : Bool} {j : Nat} {p2 : Pos} (ha : SE X W a fa) : SB X W (.Compare a [if no then .IsNot else .Is] [.Constant (.bool b) j p2] pos) (fun ρ => (do
    let x ← fa ρ
    D.isb no b x) >>= D.truth) := by
  cases no with
  | true =>
    refine PT.imp (pt_cmpR op_isnot_bl ha pe_bl rfl) fun σ H Q ⟨ρ, Hs, he, hr, hp⟩ => ?_
    simp only [R.bind_assoc] at hp
    refine ⟨ρ, Hs, he, hr, hp.bind fun d _ v Hi H1 l rv hp1 => ?_⟩
    cases d with
    | bl k => exact ⟨k, b, rv.blI, rfl, _, rfl, Pst.now (d := !decide (k = b)) hp1 l.sub rfl⟩
    | _ => exact hp1.elim
  | false =>
    refine PT.imp (pt_cmpR op_is_bl ha pe_bl rfl) fun σ H Q ⟨ρ, Hs, he, hr, hp⟩ => ?_
    simp only [R.bind_assoc] at hp
    refine ⟨ρ, Hs, he, hr, hp.bind fun d _ v Hi H1 l rv hp1 => ?_⟩
    cases d with
    | bl k => exact ⟨k, b, rv.blI, rfl, _, rfl, Pst.now (d := decide (k = b)) hp1 l.sub rfl⟩
    | _ => exact hp1.elim
theorem lmk {o1 o2 : Cop} (h : plain c = true) : lastMarks [o1.op, o2.op] [b, c] = false := by
  show behindInMarks o2.op c = false
  exact nomk h
theorem chain_imp {o1 o2 : Cop} {σ : L2.St} {H : Hp} {Q : VK} (h : tD X.K X.mg W (fun ρ => do
    let x ← fa ρ
    let y ← fb ρ
    let r ← o1.f x y
    let k ← D.asB r
    if k then do
      let z ← fc ρ
      o2.f y z
    else .ok (.bl false)) σ H Q) : tChain (rD X.K X.mg o1.f) (rD X.K X.mg o2.f) (tD X.K X.mg W fa) (tD X.K X.mg W fb) (tD X.K X.mg W fc) σ H Q := by
  obtain ⟨ρ, Hs, he, hr, hp⟩ := h
  refine ⟨ρ, Hs, he, hr, hp.bind fun d _ v Hi H1 l rv hp1 => ⟨ρ, Hi, l.sub, hr.mono l.old, hp1.bind fun d2 _ v2 Hj H2 l2 rv2 hp2 => ⟨Hj, d, d2, _, l2.sub, rv.mono l2.old, rv2, hp2.bind fun d3 e3 v3 Hk H3 l3 rv3 hp3 => ?_⟩⟩⟩
  obtain ⟨k, rfl⟩ := cop_bl e3
  refine ⟨k, rv3.blI, ?_⟩
  cases k with
  | true =>
    refine iteT ⟨ρ, Hk, l3.sub, ((hr.mono l.old).mono l2.old).mono l3.old, ?_⟩
    have hp3 : PstD X.K X.mg Hk H3 (fc ρ >>= fun z => o2.f d2 z) Q _ := hp3
    exact hp3.bind fun d4 _ v4 Hm H4 l4 rv4 hp4 => ⟨Hm, d2, d4, _, l4.sub, (rv2.mono l3.old).mono l4.old, rv4, hp4⟩
  | false => exact iteF (Pst.now (d := D.bl false) hp3 l3.sub (.bl _))
theorem se_chain {o1 o2 : Cop} (hu : X.A.units + 65 < cLine) (hc : plain c = true) (ha : SE X W a fa) (hb : SE X W b fb) (hcc : SE X W c fc) : SE X W (.Compare a [o1.op, o2.op] [b, c] pos) (fun ρ => do
    let x ← fa ρ
    let y ← fb ρ
    let r ← o1.f x y
    let k ← D.asB r
    if k then do
      let z ← fc ρ
      o2.f y z
    else .ok (.bl false)) := PE.imp (pe_chain (cs_all hu o1) (cs_all hu o2) ha hb hcc (lmk hc)) fun _ _ _ h => chain_imp h
theorem sb_chain {o1 o2 : Cop} (hu : X.A.units + 65 < cLine) (hc : plain c = true) (ha : SE X W a fa) (hb : SE X W b fb) (hcc : SE X W c fc) : SB X W (.Compare a [o1.op, o2.op] [b, c] pos) (fun ρ => (do
    let x ← fa ρ
    let y ← fb ρ
    let r ← o1.f x y
    let k ← D.asB r
    if k then do
      let z ← fc ρ
      o2.f y z
    else .ok (.bl false)) >>= D.truth) := by
  refine PT.imp (pt_chain (cs_all hu o1) (cs_all hu o2) ha hb hcc (lmk hc)) fun σ H Q h => ?_
  obtain ⟨ρ, Hs, he, hr, hp⟩ := h
  refine chain_imp ⟨ρ, Hs, he, hr, hp.bind fun d e v Hi H1 l rv hp1 => ?_⟩
  have hb : ∃ k, d = .bl k := by
    clear hp hp1
    cases q1 : fa ρ with
    | ok x =>
      rw [q1] at e
      cases q2 : fb ρ with
      | ok y =>
        rw [q2] at e
        cases q3 : o1.f x y with
        | ok r =>
          obtain ⟨k, rfl⟩ := cop_bl q3
          simp only [R.bind_ok, q3, D.asB] at e
          cases k with
          | true =>
            simp only [if_pos] at e
            cases q4 : fc ρ with
            | ok z => rw [q4] at e; exact cop_bl e
            | exc _ => rw [q4] at e; cases e
            | stuck => rw [q4] at e; cases e
          | false => cases e; exact ⟨_, rfl⟩
        | exc _ => simp only [R.bind_ok, q3] at e; cases e
        | stuck => simp only [R.bind_ok, q3] at e; cases e
      | exc _ => rw [q2] at e; cases e
      | stuck => rw [q2] at e; cases e
    | exc _ => rw [q1] at e; cases e
    | stuck => rw [q1] at e; cases e
  obtain ⟨k, rfl⟩ := hb
  exact ⟨k, rv.blI, Pst.now (d := k) hp1 l.sub rfl⟩
end
end Py

namespace Py
open PySem PySem.Spec PyProof.Rows L2

section
variable {X : Cx} {W : WX} {e a b c : Expr} {es : List Expr} {pos : Pos} {fa fb fc : Env → R D} {fs : Env → R (List D)}

/-! ## argument lists, displays -/
theorem star_cons {env : PySem.Env} (h : plain e = true) : starEach (e :: es) env = (false, eval e env) :: starEach es env := by
  cases e <;> first | rfl | cases h
theorem star_any {env : PySem.Env} : ∀ {es : List Expr}, (∀ e ∈ es, plain e = true) → (backTo pos (starEach es env)).any (·.1) = false
  | [], _ => rfl
  | e :: es, h => by
    rw [star_cons (h e (by simp))]
    show ((false, _) :: backTo pos (starEach es env)).any (·.1) = false
    rw [List.any_cons, star_any fun x hx => h x (by simp [hx])]
    rfl
theorem sa_nil : SA X W [] (fun _ => .ok []) := PA.imp pa_nil fun σ H Q ⟨ρ, Hs, he, hr, hp⟩ => hp.now he .nil
theorem sa_cons (hpl : plain e = true) (ha : SE X W e fa) (hs : SA X W es fs) : SA X W (e :: es) (fun ρ => do
    let x ← fa ρ
    let xs ← fs ρ
    .ok (x :: xs)) := by
  refine PA.imp (pa_cons ha hs (star_cons hpl)) fun σ H Q ⟨ρ, Hs, he, hr, hp⟩ => ⟨ρ, Hs, he, hr, hp.bind fun d _ v Hi H1 l rv hp1 => ⟨ρ, Hi, l.sub, hr.mono l.old, hp1.bind fun d2 _ v2 Hj H2 l2 rv2 hp2 => ?_⟩⟩
  exact hp2.now l2.sub (.cons (rv.mono l2.old) rv2)
theorem se_tup {k : Nat} (hs : SA X W es fs) (hl : ∀ ρ ds, fs ρ = .ok ds → ds.length ≤ 1000) : SE X W (.Tuple es k pos) (fun ρ => do
    let xs ← fs ρ
    .ok (.tup xs)) := by
  refine PE.imp (pe_tup hs) fun σ H Q ⟨ρ, Hs, he, hr, hp⟩ => ⟨ρ, Hs, he, hr, hp.bind fun ds e vs Hi H1 l rv hp1 => ⟨?_, fun p hn => hp1 _ _ _ (Le.new1 l.sub hn) (mk_tup l.sub rv hn)⟩⟩
  rw [size_eq, ← rv.length]
  have := hl ρ ds e
  omega
theorem se_lst (hs : SA X W es fs) (hl : ∀ ρ ds, fs ρ = .ok ds → ds.length ≤ 1000) : SE X W (.List es pos) (fun ρ => do
    let xs ← fs ρ
    .ok (.lst xs)) := by
  refine PE.imp (pe_lst hs) fun σ H Q ⟨ρ, Hs, he, hr, hp⟩ => ⟨ρ, Hs, he, hr, hp.bind fun ds e vs Hi H1 l rv hp1 => ⟨?_, fun p hn => hp1 _ _ _ (Le.new1 l.sub hn) (mk_lst l.sub rv hn)⟩⟩
  rw [size_eq, ← rv.length]
  have := hl ρ ds e
  omega

/-! ## and, or -/
theorem se_and1 (ha : SE X W a fa) : SE X W (.BoolOp .And [a] pos) fa := pe_one ha
theorem se_or1 (ha : SE X W a fa) : SE X W (.BoolOp .Or [a] pos) fa := pe_one ha
theorem se_and (ha : SE X W a fa) (hb : SE X W (.BoolOp .And (b :: es) pos) fb) : SE X W (.BoolOp .And (a :: b :: es) pos) (fun ρ => do
    let x ← fa ρ
    let k ← D.truth x
    if k then fb ρ else .ok x) := by
  refine PE.imp (pe_andT ha hb) fun σ H Q ⟨ρ, Hs, he, hr, hp⟩ => ⟨ρ, Hs, he, hr, hp.bind fun d _ v Hi H1 l rv hp1 => ?_⟩
  rcases truth_cases d with ⟨k, e⟩ | e
  · rw [e] at hp1
    refine ⟨k, tru_of rv l.sub e, ?_⟩
    cases k with
    | true => exact iteT ⟨ρ, Hi, l.sub, hr.mono l.old, hp1⟩
    | false => exact iteF (Pst.now (d := d) hp1 l.sub rv)
  · rw [e] at hp1
    exact hp1.elim
theorem se_or (ha : SE X W a fa) (hb : SE X W (.BoolOp .Or (b :: es) pos) fb) : SE X W (.BoolOp .Or (a :: b :: es) pos) (fun ρ => do
    let x ← fa ρ
    let k ← D.truth x
    if k then .ok x else fb ρ) := by
  refine PE.imp (pe_orT ha hb) fun σ H Q ⟨ρ, Hs, he, hr, hp⟩ => ⟨ρ, Hs, he, hr, hp.bind fun d _ v Hi H1 l rv hp1 => ?_⟩
  rcases truth_cases d with ⟨k, e⟩ | e
  · rw [e] at hp1
    refine ⟨k, tru_of rv l.sub e, ?_⟩
    cases k with
    | false => exact iteF ⟨ρ, Hi, l.sub, hr.mono l.old, hp1⟩
    | true => exact iteT (Pst.now (d := d) hp1 l.sub rv)
  · rw [e] at hp1
    exact hp1.elim
abbrev SW (X : Cx) (W : WX) (e : Expr) (f : Env → R Bool) : Prop := PW X e (tDB X.K X.mg W f)
theorem sw_and1 (ha : SB X W a (fun ρ => fa ρ >>= D.truth)) : SW X W (.BoolOp .And [a] pos) (fun ρ => fa ρ >>= D.truth) := pw_and1 ha
theorem sw_or1 (ha : SB X W a (fun ρ => fa ρ >>= D.truth)) : SW X W (.BoolOp .Or [a] pos) (fun ρ => fa ρ >>= D.truth) := pw_or1 ha
theorem tru_and (r s : R D) : ((do
    let x ← r
    let k ← D.truth x
    if k then s else .ok x) >>= D.truth) = ((r >>= D.truth) >>= fun k => if k then s >>= D.truth else .ok false) := by
  cases r with
  | ok x =>
    simp only [R.bind_ok]
    rcases truth_cases x with ⟨k, e⟩ | e
    · rw [e]
      cases k with
      | true => rfl
      | false => simp only [R.bind_ok]; exact e
    · rw [e]; rfl
  | exc _ => rfl
  | stuck => rfl
theorem tru_or (r s : R D) : ((do
    let x ← r
    let k ← D.truth x
    if k then .ok x else s) >>= D.truth) = ((r >>= D.truth) >>= fun k => if k then .ok true else s >>= D.truth) := by
  cases r with
  | ok x =>
    simp only [R.bind_ok]
    rcases truth_cases x with ⟨k, e⟩ | e
    · rw [e]
      cases k with
      | false => rfl
      | true => simp only [R.bind_ok]; exact e
    · rw [e]; rfl
  | exc _ => rfl
  | stuck => rfl
theorem sw_and (ha : SB X W a (fun ρ => fa ρ >>= D.truth)) (hb : SW X W (.BoolOp .And (b :: es) pos) (fun ρ => fb ρ >>= D.truth)) : SW X W (.BoolOp .And (a :: b :: es) pos) (fun ρ => (do
    let x ← fa ρ
    let k ← D.truth x
    if k then fb ρ else .ok x) >>= D.truth) := by
  refine PW.imp (pw_and ha hb) fun σ H Q ⟨ρ, Hs, he, hr, hp⟩ => ⟨ρ, Hs, he, hr, ?_⟩
  simp only [tru_and] at hp
  refine Pst.bind (Rel2 := RB) hp fun k _ c Hi H1 l rc hp1 => ?_
  cases rc
  cases k with
  | true => exact iteT ⟨ρ, Hi, l.sub, hr.mono l.old, hp1⟩
  | false => exact iteF (Pst.now (d := false) hp1 l.sub rfl)
theorem sw_or (ha : SB X W a (fun ρ => fa ρ >>= D.truth)) (hb : SW X W (.BoolOp .Or (b :: es) pos) (fun ρ => fb ρ >>= D.truth)) : SW X W (.BoolOp .Or (a :: b :: es) pos) (fun ρ => (do
    let x ← fa ρ
    let k ← D.truth x
    if k then .ok x else fb ρ) >>= D.truth) := by
  refine PW.imp (pw_or ha hb) fun σ H Q ⟨ρ, Hs, he, hr, hp⟩ => ⟨ρ, Hs, he, hr, ?_⟩
  simp only [tru_or] at hp
  refine Pst.bind (Rel2 := RB) hp fun k _ c Hi H1 l rc hp1 => ?_
  cases rc
  cases k with
  | false => exact iteF ⟨ρ, Hi, l.sub, hr.mono l.old, hp1⟩
  | true => exact iteT (Pst.now (d := true) hp1 l.sub rfl)

/-! ## places, slices -/
theorem atI_V {K : PySem.W.Frag} {H : Hp} {ds : List D} {vs : List V} {i : Int} {d : D} (r : Reps K H ds vs) (h : atI ds i = some d) : ∃ v, atI vs i = some v ∧ Rep K H d v := by
  unfold atI at h ⊢
  rw [← r.length]
  cases q : ixN ds.length i with
  | none => rw [q] at h; cases h
  | some j =>
    rw [q] at h
    exact r.get h
theorem ixP (hpl : plain b = true) : PlainIx b := by
  intro o i
  cases b <;> first | rfl | cases hpl
theorem se_ix (hpl : plain b = true) (ha : SE X W a fa) (hb : SE X W b fb) : SE X W (.Subscript a b pos) (fun ρ => do
    let x ← fa ρ
    let y ← fb ρ
    D.ix x y) := by
  refine PE.imp (pe_ix (ix_seq (X := X)) ha hb (ixP hpl)) fun σ H Q ⟨ρ, Hs, he, hr, hp⟩ => ⟨ρ, Hs, he, hr, hp.bind fun d _ v Hi H1 l rv hp1 => ⟨ρ, Hi, l.sub, hr.mono l.old, hp1.bind fun d2 _ v2 Hj H2 l2 rv2 hp2 => ?_⟩⟩
  have rv' := rv.mono l2.old
  cases d2 with
  | int i =>
    rw [rv2.intI]
    cases d with
    | lst xs =>
      cases q : atI xs i with
      | none => simp only [D.ix, q] at hp2; exact hp2.elim
      | some d =>
        simp only [D.ix, q] at hp2
        obtain ⟨p, vs, rfl, e1, r1⟩ := rv'.lstI
        obtain ⟨u, e2, r2⟩ := atI_V r1 q
        exact .inl ⟨p, vs, i, u, rfl, rfl, SqL.of (l2.sub _ _ e1), e2, hp2.now l2.sub r2⟩
    | tup xs =>
      cases q : atI xs i with
      | none => simp only [D.ix, q] at hp2; exact hp2.elim
      | some d =>
        simp only [D.ix, q] at hp2
        obtain ⟨p, vs, rfl, e1, r1⟩ := rv'.tupI
        obtain ⟨u, e2, r2⟩ := atI_V r1 q
        exact .inr (.inl ⟨p, vs, i, u, rfl, rfl, SqT.of (l2.sub _ _ e1), e2, hp2.now l2.sub r2⟩)
    | scr ns =>
      cases q : atI ns i with
      | none => simp only [D.ix, q] at hp2; exact hp2.elim
      | some n =>
        simp only [D.ix, q] at hp2
        obtain ⟨p, rfl, s1⟩ := (rv'.mono l2.sub).scrI
        refine .inl ⟨p, _, i, .int n, rfl, rfl, s1, ?_, hp2.now l2.sub (.int _)⟩
        unfold atI at q ⊢
        rw [List.length_map]
        cases z : ixN ns.length i with
        | none => rw [z] at q; cases q
        | some j =>
          rw [z] at q
          have q : ns[j]? = some n := q
          show (ns.map V.int)[j]? = some (.int n)
          rw [List.getElem?_map, q]
          rfl
    | str x =>
      have hp2 : PstD X.K X.mg Hj H2 (if x.length ≤ 16777216 then (match atI x.cps.toList i with | some c => .ok (.str ⟨#[c]⟩) | none => .stuck) else .stuck) Q _ := hp2
      by_cases hz : x.length ≤ 16777216
      · rw [if_pos hz] at hp2
        cases q : atI x.cps.toList i with
        | none => simp only [q] at hp2; exact hp2.elim
        | some c =>
          simp only [q] at hp2
          rw [rv'.strI]
          exact .inr (.inr ⟨x, i, c, rfl, rfl, by rw [size_eq]; exact hz, q, hp2.now l2.sub (.str _)⟩)
      · rw [if_neg hz] at hp2
        exact hp2.elim
    | _ => exact hp2.elim
  | _ => cases d <;> exact hp2.elim
def tDO (K : PySem.W.Frag) (mg : Str → Option Value) (W : WX) (f : Env → R (Option Int)) : TO := fun σ H Q =>
  ∃ (ρ : Env) (Hs : Hp), Ex Hs H ∧ ERel K Hs ρ σ ∧ Pst (fun _ o p => o = p) K mg Hs H (f ρ) Q (fun c d H' => W c d σ H')
abbrev SO (X : Cx) (W : WX) (e : Option Expr) (f : Env → R (Option Int)) : Prop := PO X e (tDO X.K X.mg W f)
theorem PO.imp {X : Cx} {e : Option Expr} {t u : TO} (h : PO X e t) (f : ∀ σ H Q, u σ H Q → t σ H Q) : PO X e u := by
  obtain ⟨run⟩ := h
  constructor
  intros
  apply run <;> first | assumption | exact f _ _ _ ‹_›
theorem so_none : SO X W none (fun _ => .ok none) := PO.imp po_none fun σ H Q ⟨ρ, Hs, he, hr, hp⟩ => hp.now he rfl
theorem so_some (ha : SE X W a fa) : SO X W (some a) (fun ρ => do
    let x ← fa ρ
    D.asI x) := by
  refine PO.imp (po_some ha) fun σ H Q ⟨ρ, Hs, he, hr, hp⟩ => ⟨ρ, Hs, he, hr, hp.bind fun d _ v Hi H1 l rv hp1 => ?_⟩
  cases d with
  | int i => exact ⟨i, rv.intI, Pst.now (d := some i) hp1 l.sub rfl⟩
  | _ => exact hp1.elim
theorem cutA_V {K : PySem.W.Frag} {H : Hp} {ds : List D} {vs : List V} (r : Reps K H ds vs) (lo hi : Option Int) : Reps K H (cutA ds lo hi) (cutV vs lo hi) := by
  unfold cutA cutV
  rw [← r.length]
  exact (r.dropN _).take _
theorem cutA_whole {α : Type} {xs : List α} {lo hi : Option Int} (h : HT.sIx xs.length 0 lo = 0 ∧ HT.sIx xs.length xs.length hi = xs.length) : cutA xs lo hi = xs := by
  unfold cutA
  rw [h.1, h.2, List.drop_zero, Nat.sub_zero, List.take_length]
theorem se_sl {lo hi : Option Expr} {p2 : Pos} {fl fh : Env → R (Option Int)} (ha : SE X W a fa) (hl : SO X W lo fl) (hh : SO X W hi fh) : SE X W (.Subscript a (.Slice lo hi none p2) pos) (fun ρ => do
    let x ← fa ρ
    let l ← fl ρ
    let h ← fh ρ
    D.sl x l h) := by
  refine PE.imp (pe_slice (sl_list.or (sl_tupA.or sl_str)) ha hl hh) fun σ H Q ⟨ρ, Hs, he, hr, hp⟩ => ⟨ρ, Hs, he, hr, hp.bind fun d _ v Hi H1 l rv hp1 => ⟨ρ, Hi, l.sub, hr.mono l.old, hp1.bind fun lo _ lo' Hj H2 l2 rl hp2 => ⟨ρ, Hj, l2.sub, (hr.mono l.old).mono l2.old, hp2.bind fun hi _ hi' Hk H3 l3 rh hp3 => ?_⟩⟩⟩
  subst rl
  subst rh
  have rv' := (rv.mono l2.old).mono l3.old
  have he3 := l3.sub
  cases d with
  | lst xs =>
    obtain ⟨p, vs, rfl, e1, r1⟩ := rv'.lstI
    exact .inl ⟨p, vs, rfl, SqL.of (he3 _ _ e1), fun q hn => hp3 _ _ _ (Le.new1 he3 hn) (mk_lst he3 (cutA_V r1 lo hi) hn)⟩
  | tup xs =>
    obtain ⟨p, vs, rfl, e1, r1⟩ := rv'.tupI
    refine .inr (.inl ⟨p, vs, rfl, SqT.of (he3 _ _ e1), fun hw => ?_, fun _ q hn => hp3 _ _ _ (Le.new1 he3 hn) (mk_tup he3 (cutA_V r1 lo hi) hn)⟩)
    rw [← r1.length] at hw
    have hp3 : PstD X.K X.mg Hk H3 (.ok (.tup (cutA xs lo hi))) Q _ := hp3
    rw [cutA_whole hw] at hp3
    exact hp3.now he3 (.tup e1 r1)
  | scr ns =>
    obtain ⟨p, rfl, s1⟩ := (rv'.mono he3).scrI
    refine .inl ⟨p, _, rfl, s1, fun q hn => hp3 _ _ _ (Le.new1 he3 hn) (mk_lst he3 ?_ hn)⟩
    have : cutV (ns.map V.int) lo hi = (cutA ns lo hi).map V.int := by
      unfold cutV cutA
      rw [List.length_map, List.map_take, List.map_drop]
    rw [this]
    exact Reps.ints
  | str x =>
    have hp3 : PstD X.K X.mg Hk H3 (if x.length ≤ 16777216 then .ok (.str (cutS x lo hi)) else .stuck) Q _ := hp3
    by_cases hz : x.length ≤ 16777216
    · rw [if_pos hz] at hp3
      rw [rv'.strI]
      exact .inr (.inr ⟨x, rfl, by rw [size_eq]; exact hz, hp3.now he3 (.str _)⟩)
    · rw [if_neg hz] at hp3
      exact hp3.elim
  | _ => exact hp3.elim

/-! ## calls -/
theorem se_call {cal : Cal} {k : Nat} {p : Pos} (tk : Takes X W) (F : cal.Ok X.prog X.w X.K X.mg X.base k) (hr : Room k X.A) (hg : glOk X.env.scope cal.name = true) (hpl : ∀ x ∈ e :: es, plain x = true) (hs : SA X W (e :: es) fs) :
    SE X W (.Call (.Name cal.name p) (e :: es) [] pos) (fun ρ => do
    let xs ← fs ρ
    if xs.length = cal.ps.length then cal.g xs else .stuck) := by
  obtain ⟨g1, g2, g3⟩ := gl_of hg
  refine PE.imp (pe_callS F.ok hr g1 F.gl F.kp F.bd (fun σ => passAt tk σ) hs g2 (star_cons (hpl e (by simp))) (star_any fun x hx => hpl x (by simp [hx]))) fun σ H Q ⟨ρ, Hs, he, hr, hp⟩ => ⟨ρ, Hs, he, hr, hp.bind fun ds _ vs Hi H1 l rv hp1 => ?_⟩
  by_cases hn : ds.length = cal.ps.length
  · rw [if_pos hn] at hp1
    exact ⟨Hi, ds, l.sub, rv, hn, hp1⟩
  · rw [if_neg hn] at hp1
    exact hp1.elim
theorem bi_imp {g : List D → R D} {σ : L2.St} {H : Hp} {Q : VK} (h : tD X.K X.mg W (fun ρ => do
    let xs ← fs ρ
    g xs) σ H Q) : tCB (rL X.K X.mg g) (tDL X.K X.mg W fs) σ H Q := by
  obtain ⟨ρ, Hs, he, hr, hp⟩ := h
  exact ⟨ρ, Hs, he, hr, hp.bind fun ds _ vs Hi H1 l rv hp1 => ⟨Hi, ds, _, l.sub, rv, hp1⟩⟩
theorem se_bi {bi : Bi} {p : Pos} (hc : X.calm = true) (hu : X.A.units + 65 < cLine) (hg : glOk X.env.scope bi.name = true) (hm : X.mg bi.name = none) (hpl : ∀ x ∈ e :: es, plain x = true) (hs : SA X W (e :: es) fs) :
    SE X W (.Call (.Name bi.name p) (e :: es) [] pos) (fun ρ => do
    let xs ← fs ρ
    bi.f xs) := by
  obtain ⟨g1, g2, g3⟩ := gl_of hg
  have s1 := star_cons (env := X.env) (es := es) (hpl e (by simp))
  have s2 := star_any (pos := pos) (env := X.env) fun x hx => hpl x (List.mem_cons_of_mem e hx)
  refine PE.imp ?_ fun _ _ _ h => bi_imp h
  cases bi with
  | len => exact pe_callB cs_len g1 hm PySem.boot_len hs g3 g2 s1 s2
  | abs => exact pe_callB cs_abs g1 hm (by decide +kernel) hs g3 g2 s1 s2
  | max2 => exact pe_callB (cs_max2 hc) g1 hm (by decide +kernel) hs g3 g2 s1 s2
  | min2 => exact pe_callB (cs_min2 hc) g1 hm (by decide +kernel) hs g3 g2 s1 s2
  | minL => exact pe_callB (cs_minL hc hu) g1 hm (by decide +kernel) hs g3 g2 s1 s2
  | maxL => exact pe_callB (cs_maxL hc hu) g1 hm (by decide +kernel) hs g3 g2 s1 s2
  | list => exact pe_callTy cs_list g1 hm (by decide +kernel) hs g3 g2 s1 s2
  | tuple => exact pe_callTy cs_tuple g1 hm (by decide +kernel) hs g3 g2 s1 s2
  | all => exact pe_callB (cs_allL hc) g1 hm (by decide +kernel) hs g3 g2 s1 s2
  | any => exact pe_callB (cs_anyL hc) g1 hm (by decide +kernel) hs g3 g2 s1 s2
  | int => exact pe_callTy cs_int g1 hm (by decide +kernel) hs g3 g2 s1 s2
  | sorted => exact pe_callB (cs_sorted hu) g1 hm (by decide +kernel) hs g3 g2 s1 s2

/-! isinstance -/
def D.tyName : D → String
  | .non => "NoneType" | .bl _ => "bool" | .int _ => "int" | .str _ => "str" | .tup _ => "tuple" | .lst _ => "list" | .scr _ => "list"
theorem ty_of {K : PySem.W.Frag} {Hs H : Hp} {d : D} {v : V} (r : Rep K Hs d v) (he : Ex Hs H) : TyX K H v (.type d.tyName) := by
  cases r with
  | non => exact .base .non
  | bl b => exact .base (.bl b)
  | int i => exact .base (.int i)
  | str x => exact .base (.str x)
  | tup h r => exact .base (.tup (he _ _ h))
  | lst h r => exact .base (.lst (he _ _ h))
  | @scr a ns h =>
    have q : SqL K H a (ns.map V.int) := by
      rcases h with ⟨o, h⟩ | h
      · exact .inl (.inr ⟨o, he _ _ h⟩)
      · exact h H
    rcases q with (q | ⟨o, q⟩) | ⟨o, its, n, q, c, _⟩
    · exact .base (.lst q)
    · exact .base (.frz q)
    · exact .kList q c
theorem kit_all (d : D) (t : Ty) : kitB d.tyName t.name = some (d.isTy t) := by
  cases d with
  | non => cases t <;> (show kitB "NoneType" _ = some false; decide +kernel)
  | bl b => cases t <;> first | (show kitB "bool" _ = some true; decide +kernel) | (show kitB "bool" _ = some false; decide +kernel)
  | int b => cases t <;> first | (show kitB "int" _ = some true; decide +kernel) | (show kitB "int" _ = some false; decide +kernel)
  | str b => cases t <;> first | (show kitB "str" _ = some true; decide +kernel) | (show kitB "str" _ = some false; decide +kernel)
  | tup b => cases t <;> first | (show kitB "tuple" _ = some true; decide +kernel) | (show kitB "tuple" _ = some false; decide +kernel)
  | lst b => cases t <;> first | (show kitB "list" _ = some true; decide +kernel) | (show kitB "list" _ = some false; decide +kernel)
  | scr b => cases t <;> first | (show kitB "list" _ = some true; decide +kernel) | (show kitB "list" _ = some false; decide +kernel)
theorem boot_ty (t : Ty) : bootBuiltins (Str.ofString t.name) = some (.type t.name) := by
  cases t <;> decide +kernel
theorem se_isi {t : Ty} {p q : Pos} (hg : glOk X.env.scope "isinstance" = true) (hm : X.mg "isinstance" = none) (hg2 : glOk X.env.scope (Str.ofString t.name) = true) (hm2 : X.mg (Str.ofString t.name) = none) (hpl : plain a = true) (ha : SE X W a fa) :
    SE X W (.Call (.Name "isinstance" p) [a, .Name (Str.ofString t.name) q] [] pos) (fun ρ => do
    let x ← fa ρ
    .ok (.bl (x.isTy t))) := by
  obtain ⟨g1, g2, g3⟩ := gl_of hg
  obtain ⟨k1, k2, k3⟩ := gl_of hg2
  have hz : PE X (.Name (Str.ofString t.name) q) (tC (.ty t.name)) := pe_bltn k1 hm2 (boot_ty t) rfl k3 k2
  refine PE.imp (pe_callB call_isi g1 hm (by decide +kernel) (pa_cons ha (pa_cons hz pa_nil (star_cons rfl)) (star_cons hpl)) g3 g2 (star_cons hpl) (star_any fun x hx => by
    have e : x = .Name (Str.ofString t.name) q := by simpa using hx
    subst e
    rfl)) fun σ H Q ⟨ρ, Hs, he, hr, hp⟩ => ⟨ρ, Hs, he, hr, hp.bind fun d _ v Hi H1 l rv hp1 => ?_⟩
  exact ⟨v, .ty t.name, .type d.tyName, .type t.name, d.isTy t, rfl, .ty _, ty_of rv l.sub, kit_ty (kit_all d t), Pst.now (d := D.bl _) hp1 l.sub (.bl _)⟩

/-! min(xs, default=None) -/
theorem cs_minD (hc : X.calm = true) (hu : X.A.units + 65 < cLine) : CallRK X (.builtin "min") [("default" : Str)] (fun vs zs H Q => zs = [.non] ∧ rL X.K X.mg (f1 D.minD) vs H Q) := by
  intro pins s σ H xs zs us ws Q I r rz h
  obtain ⟨rfl, Hs, ds, E, he, rr, hp⟩ := h
  obtain ⟨d, v, rfl, rfl, rd, hp⟩ := one_in (f1_in _) rr hp
  obtain ⟨w, rfl, rw'⟩ := vals1 rz
  cases (show w = Value.none from rw')
  cases d with
  | lst xs =>
    cases q : asInts xs with
    | none => simp [D.minD, q] at hp; exact hp.elim
    | some l =>
      obtain ⟨p, vs, rfl, e1, r1⟩ := rd.lstI
      have e := asInts_some q
      rw [e] at r1
      have ev := r1.intsI
      subst ev
      rw [Vals.ref1 r]
      obtain ⟨its, rv, hl, hz⟩ := I.list (SqL.of (he _ _ e1))
      obtain ⟨as, q1⟩ := Dp.readsAll I _ _ _ (dp_ints (K := X.K) (H := H) l) rv
      refine PySem.W.min_list_default (as := as) (xs := l.map .int) (d := .none) (I.ok.hd hc) hl.isList (by simpa using q1) (alike_ints' l) (by rw [PySem.W.depth_ints]; omega) (fun h0 h' tk k => ?_) fun y ys i v h' tk bs e2 _ rv k => ?_
      · have : l = [] := by simpa using h0
        subst this
        have hq : PstD X.K X.mg Hs H (.ok .non) Q E := by simpa [D.minD, q] using hp
        exact ⟨.non, H, I.kept (t' := tk) k, rfl, hq.now he .non⟩
      · cases l with
        | nil => cases e2
        | cons n ns =>
          have hq : PstD X.K X.mg Hs H (.ok (.int (ns.foldl min n))) Q E := by simpa [D.minD, q] using hp
          rw [List.map_cons] at e2
          injection e2 with e3 e4
          subst e3
          subst e4
          rw [PySem.W.minD_ints] at rv
          obtain ⟨t, rfl⟩ := reads_int rv
          exact ⟨.int _, H, I.kept (t' := tk) k, ⟨t, rfl⟩, hq.now he (.int _)⟩
  | _ => exact hp.elim
theorem se_minD {p r p2 : Pos} {j : Nat} (hc : X.calm = true) (hu : X.A.units + 65 < cLine) (hg : glOk X.env.scope "min" = true) (hm : X.mg "min" = none) (hpl : plain a = true) (ha : SE X W a fa) :
    SE X W (.Call (.Name "min" p) [a] [⟨some "default", .Constant .none j p2, r⟩] pos) (fun ρ => do
    let x ← fa ρ
    D.minD x) := by
  obtain ⟨g1, g2, g3⟩ := gl_of hg
  refine PE.imp (pe_callBK (cs_minD hc hu) g1 hm (by decide +kernel) (pa_cons ha pa_nil (star_cons hpl)) (pk_cons pe_non pk_nil) g3 g2 (by rw [star_cons hpl]; rfl) (by rw [star_cons hpl]; rfl)) fun σ H Q ⟨ρ, Hs, he, hr, hp⟩ => ⟨ρ, Hs, he, hr, hp.bind fun d _ v Hi H1 l rv hp1 => ?_⟩
  exact ⟨rfl, Hi, [d], _, l.sub, .cons rv .nil, hp1⟩
end
end Py

namespace Py
open PySem PySem.Spec PyProof.Rows L2

/-! ## targets -/
def gNames : List Nat → TGs
  | [] => gNil
  | i :: is => gCons (gName i) (gNames is)
def gOf (K : PySem.W.Frag) : Tgt → TG
  | .nm i => gName i
  | .tp is => gTup K is.length (gNames is)
section
variable {X : Cx}
theorem loc_of {sc raw : Scope} {x : Str} (h : locOk sc raw x = true) (hs : X.env.scope = sc) (hf : ∀ x, raw.names.lookup x = some .cell → X.fn x = true) : Loc X.env.scope x ∧ (X.fn x = true ∨ X.env.scope.names.lookup x = some .local) := by
  unfold locOk at h
  subst hs
  split at h
  · have h := of_decide_eq_true h
    exact ⟨.inl h, .inr h⟩
  · have h := of_decide_eq_true h
    exact ⟨.inr h, .inl (hf x (by assumption))⟩
  · cases h
theorem pgs_of {N : List Str} {sc raw : Scope} (hN : X.N = N) (nd : N.Nodup) (hs : X.env.scope = sc) (hf : ∀ x, raw.names.lookup x = some .cell → X.fn x = true) : ∀ {is : List Nat} {es : List Expr}, chkNames N sc raw is es = true → PGs X es (gNames is) ∧ (assignEach es X.env).length = is.length ∧ (assignEach es X.env).findIdx? (·.1) = none
  | [], [], _ => ⟨pgs_nil, rfl, rfl⟩
  | [], _ :: _, h => by cases h
  | _ :: _, [], h => by cases h
  | i :: is, e :: es, h => by
    unfold chkNames at h
    rw [Bool.and_eq_true] at h
    cases q : xName e with
    | none => rw [q] at h; cases h.1
    | some x =>
      rw [q] at h
      obtain ⟨p, rfl⟩ := xName_s q
      obtain ⟨h1, h2⟩ := h
      simp only [Bool.and_eq_true, decide_eq_true_eq] at h1
      obtain ⟨h3, h4⟩ := loc_of (X := X) h1.2 hs hf
      obtain ⟨r1, r2, r3⟩ := pgs_of hN nd hs hf h2
      subst hN
      refine ⟨pgs_cons (pg_name nd h1.1 h3 h4) r1, ?_, ?_⟩
      · show (assignEach es X.env).length + 1 = is.length + 1
        rw [r2]
      · show ((false, assign (.Name x p) X.env) :: assignEach es X.env).findIdx? (·.1) = none
        rw [List.findIdx?_cons, r3]
        rfl
theorem pg_of {N : List Str} {sc raw : Scope} {t : Tgt} {e : Expr} (hc : X.calm = true) (hN : X.N = N) (nd : N.Nodup) (hs : X.env.scope = sc) (hf : ∀ x, raw.names.lookup x = some .cell → X.fn x = true) (h : chkTgt N sc raw t e = true) : PG X e (gOf X.K t) := by
  cases t with
  | nm i =>
    have h : (match xName e with | some x => decide (N[i]? = some x) && locOk sc raw x | none => false) = true := h
    cases q : xName e with
    | none => rw [q] at h; cases h
    | some x =>
      rw [q] at h
      obtain ⟨p, rfl⟩ := xName_s q
      have h : (decide (N[i]? = some x) && locOk sc raw x) = true := h
      simp only [Bool.and_eq_true, decide_eq_true_eq] at h
      obtain ⟨h3, h4⟩ := loc_of (X := X) h.2 hs hf
      subst hN
      exact pg_name nd h.1 h3 h4
  | tp is =>
    have h : (match xTup e with | some es => chkNames N sc raw is es | none => false) = true := h
    cases q : xTup e with
    | none => rw [q] at h; cases h
    | some es =>
      rw [q] at h
      obtain ⟨k, p, rfl⟩ := xTup_s q
      obtain ⟨r1, r2, r3⟩ := pgs_of hN nd hs hf h
      exact pg_tup hc r1 r2 r3
end
/-- what is known of all slots but those at is -/
def ERelX (K : PySem.W.Frag) (Hs : Hp) (is : List Nat) (ρ : Env) (σ : L2.St) : Prop := ρ.length ≤ σ.length ∧ ∀ (i : Nat) (d : D), ρ[i]? = some (some d) → i ∈ is ∨ ∃ v, σ[i]? = some (some v) ∧ Rep K Hs d v
section
variable {K : PySem.W.Frag} {Hs H : Hp} {ρ ρ' : Env} {σ : L2.St}
theorem ERelX.set {is : List Nat} {i : Nat} {d : D} {v : V} (h : ERelX K Hs (i :: is) ρ σ) (r : Rep K Hs d v) : ERelX K Hs is (ρ.set i (some d)) (σ.set i (some v)) := by
  refine ⟨by simpa using h.1, fun j e q => ?_⟩
  by_cases hj : j = i
  · subst hj
    have hl : j < ρ.length := by
      have := (List.getElem?_eq_some_iff.mp q).1
      simpa using this
    rw [List.getElem?_set_self hl] at q
    cases q
    exact .inr ⟨v, List.getElem?_set_self (Nat.lt_of_lt_of_le hl h.1), r⟩
  · rw [List.getElem?_set_ne (Ne.symm hj)] at q
    rcases h.2 j e q with z | ⟨v, a, b⟩
    · rcases List.mem_cons.mp z with z | z
      · exact absurd z hj
      · exact .inl z
    · exact .inr ⟨v, by rw [List.getElem?_set_ne (Ne.symm hj)]; exact a, b⟩
theorem ERelX.nil (h : ERelX K Hs [] ρ σ) : ERel K Hs ρ σ := ⟨h.1, fun i d q => (h.2 i d q).resolve_left (by simp)⟩
theorem names_run : ∀ {is : List Nat} {ds : List D} {vs : List V} {ρ : Env} {σ : L2.St} {Q : L2.St → Hp → Prop}, setAll is ds ρ = some ρ' → Reps K Hs ds vs → ERelX K Hs is ρ σ → (∀ σ', ERel K Hs ρ' σ' → (∃ us : List V, σ' = (is.zip us).foldl (fun s p => s.set p.1 (some p.2)) σ) → Q σ' H) → gNames is vs σ H Q
  | [], [], _, ρ, σ, Q, h, .nil, hr, k => by
    have e : ρ = ρ' := Option.some.inj h
    subst e
    exact ⟨rfl, k σ hr.nil ⟨[], rfl⟩⟩
  | i :: is, d :: ds, _, ρ, σ, Q, h, .cons (v := v) (vs := vs) r t, hr, k => by
    refine ⟨v, vs, rfl, ?_⟩
    show gNames is vs (σ.set i (some v)) H Q
    refine names_run (ρ := ρ.set i (some d)) h t (hr.set r) fun σ' h1 ⟨us, h2⟩ => k σ' h1 ⟨v :: us, h2⟩
  | [], _ :: _, _, _, _, _, h, _, _, _ => by cases h
  | _ :: _, [], _, _, _, _, h, _, _, _ => by cases h
theorem setAll_len : ∀ {is : List Nat} {ds : List D} {ρ : Env}, setAll is ds ρ = some ρ' → is.length = ds.length ∧ ρ'.length = ρ.length
  | [], [], ρ, h => by
    have e : ρ = ρ' := Option.some.inj h
    subst e
    exact ⟨rfl, rfl⟩
  | i :: is, d :: ds, ρ, h => by
    have := setAll_len (is := is) (ds := ds) (ρ := ρ.set i (some d)) h
    simp only [List.length_set] at this
    exact ⟨congrArg (· + 1) this.1, this.2⟩
  | [], _ :: _, _, h => by cases h
  | _ :: _, [], _, h => by cases h
theorem tgt_run {t : Tgt} {d : D} {v : V} {Q : L2.St → Hp → Prop} (h : t.bind d ρ = .ok ρ') (r : Rep K Hs d v) (he : Ex Hs H) (hr : ERelX K Hs t.ixs ρ σ) (k : ∀ σ', ERel K Hs ρ' σ' → (∃ us : List V, σ' = (t.ixs.zip us).foldl (fun s p => s.set p.1 (some p.2)) σ) → Q σ' H) : gOf K t v σ H Q := by
  cases t with
  | nm i =>
    have e : ρ.set i (some d) = ρ' := R.ok.inj h
    subst e
    exact k _ (hr.set r).nil ⟨[v], rfl⟩
  | tp is =>
    cases d with
    | tup ds =>
      have h : (match setAll is ds ρ with | some ρ' => R.ok ρ' | none => .stuck) = .ok ρ' := h
      cases q : setAll is ds ρ with
      | none => rw [q] at h; cases h
      | some ρ2 =>
        rw [q] at h
        cases h
        obtain ⟨p, vs, rfl, e1, r1⟩ := r.tupI
        exact ⟨p, vs, rfl, SqT.of (he _ _ e1), by rw [← r1.length, (setAll_len q).1], names_run q r1 hr k⟩
    | _ => cases h
end

/-! ## what is walked -/
structure Walk (K : PySem.W.Frag) (J : L2.It) (Hs : Hp) (ds : List D) : Prop where
  go : ∀ i H, Ex Hs H → i < ds.length → J.go i H
  yld : ∀ i Ht H x H' d, Ex Hs Ht → Ex Ht H → ds[i]? = some d → J.yld i H x H' → ∃ Hi, Le Ht H Hi H' ∧ Rep K Hi d x
  stop : ∀ i H, Ex Hs H → ds.length ≤ i → J.stop i H
section
variable {K : PySem.W.Frag} {Hs H : Hp}
theorem Walk.mono {J : L2.It} {ds : List D} {Ht : Hp} (w : Walk K J Hs ds) (e : Ex Hs Ht) : Walk K J Ht ds :=
  ⟨fun i H h => w.go i H (e.trans h), fun i Hu H x H' d h1 h2 => w.yld i Hu H x H' d (e.trans h1) h2, fun i H h => w.stop i H (e.trans h)⟩
theorem walk_lst {a : Addr} {vs : List V} {ds : List D} (h : Hs a = some (.lst vs)) (r : Reps K Hs ds vs) : Walk K (Itl K a) Hs ds := by
  refine ⟨fun i H e hi => ?_, fun i Ht H x H' d e1 e2 hd ⟨e, y⟩ => ?_, fun i H e hi => ⟨vs, SqL.of (e _ _ h), by rw [← r.length]; exact hi⟩⟩
  · have : i < vs.length := by rw [← r.length]; exact hi
    exact ⟨vs, vs[i], SqL.of (e _ _ h), List.getElem?_eq_getElem this⟩
  · subst e
    obtain ⟨v, q, rv⟩ := r.get hd
    have := y vs (SqL.of (e2 _ _ (e1 _ _ h)))
    rw [q] at this
    cases this
    exact ⟨Ht, Le.refl e2, rv.mono e1⟩
theorem walk_tup {a : Addr} {vs : List V} {ds : List D} (h : Hs a = some (.tup vs)) (r : Reps K Hs ds vs) : Walk K (Itt K a) Hs ds := by
  refine ⟨fun i H e hi => ?_, fun i Ht H x H' d e1 e2 hd ⟨e, y⟩ => ?_, fun i H e hi => ⟨vs, SqT.of (e _ _ h), by rw [← r.length]; exact hi⟩⟩
  · have : i < vs.length := by rw [← r.length]; exact hi
    exact ⟨vs, vs[i], SqT.of (e _ _ h), List.getElem?_eq_getElem this⟩
  · subst e
    obtain ⟨v, q, rv⟩ := r.get hd
    have := y vs (SqT.of (e2 _ _ (e1 _ _ h)))
    rw [q] at this
    cases this
    exact ⟨Ht, Le.refl e2, rv.mono e1⟩
theorem walk_scr {a : Addr} {ns : List Int} (h : ∀ H, Ex Hs H → SqL K H a (ns.map V.int)) : Walk K (Itl K a) Hs (ns.map D.int) := by
  refine ⟨fun i H e hi => ?_, fun i Ht H x H' d e1 e2 hd ⟨e, y⟩ => ?_, fun i H e hi => ⟨_, h H e, by simpa using hi⟩⟩
  · have hi' : i < (ns.map V.int).length := by simpa using hi
    exact ⟨_, (ns.map V.int)[i], h H e, List.getElem?_eq_getElem hi'⟩
  · subst e
    have := y _ (h _ (e1.trans e2))
    rw [List.getElem?_map] at this hd
    cases q : ns[i]? with
    | none => rw [q] at hd; cases hd
    | some n =>
      rw [q] at hd this
      cases hd
      cases this
      exact ⟨Ht, Le.refl e2, .int _⟩
theorem walk_str (x : Str) : Walk K (Its x) Hs (x.cps.toList.map fun c => D.str ⟨#[c]⟩) := by
  refine ⟨fun i H e hi => show i < x.cps.size by simpa using hi, fun i Ht H y H' d e1 e2 hd ⟨e, c, h1, h2⟩ => ?_, fun i H e hi => show x.cps.size ≤ i by simpa using hi⟩
  subst e
  subst h2
  rw [List.getElem?_map, Array.getElem?_toList, h1] at hd
  cases hd
  exact ⟨Ht, Le.refl e2, .str _⟩
theorem walk_rng (lo : Int) (n : Nat) : Walk K (Itr lo n) Hs ((List.range n).map fun i => D.int (lo + (i : Nat))) := by
  refine ⟨fun i H e hi => show i < n by simpa using hi, fun i Ht H y H' d e1 e2 hd ⟨e, h2⟩ => ?_, fun i H e hi => show n ≤ i by simpa using hi⟩
  subst e
  subst h2
  rw [List.getElem?_map] at hd
  cases q : (List.range n)[i]? with
  | none => rw [q] at hd; cases hd
  | some j =>
    rw [q] at hd
    cases hd
    obtain ⟨h1, h2⟩ := List.getElem?_eq_some_iff.mp q
    rw [List.getElem_range] at h2
    subst h2
    exact ⟨Ht, Le.refl e2, .int _⟩
theorem walk_zip {a b : Addr} {vs ws : List V} {ds es : List D} (h : Hs a = some (.lst vs)) (r : Reps K Hs ds vs) (h2 : Hs b = some (.lst ws)) (r2 : Reps K Hs es ws) : Walk K (Itz K a b) Hs (ds.zipWith (fun x y => D.tup [x, y]) es) := by
  refine ⟨fun i H e hi => ?_, fun i Ht H x H' d e1 e2 hd ⟨T, x1, x2, hx, hn, hH, y1, y2⟩ => ?_, fun i H e hi => ⟨vs, ws, SqL.of (e _ _ h), SqL.of (e _ _ h2), ?_⟩⟩
  · rw [List.length_zipWith] at hi
    have l1 : i < vs.length := by rw [← r.length]; omega
    have l2 : i < ws.length := by rw [← r2.length]; omega
    exact ⟨vs, ws, vs[i], ws[i], SqL.of (e _ _ h), SqL.of (e _ _ h2), List.getElem?_eq_getElem l1, List.getElem?_eq_getElem l2⟩
  · subst hx
    subst hH
    rw [List.getElem?_zipWith] at hd
    cases q1 : ds[i]? with
    | none => rw [q1] at hd; cases hd
    | some d1 =>
      cases q2 : es[i]? with
      | none => rw [q1, q2] at hd; cases hd
      | some d2 =>
        rw [q1, q2] at hd
        cases hd
        obtain ⟨v1, p1, rv1⟩ := r.get q1
        obtain ⟨v2, p2, rv2⟩ := r2.get q2
        have z1 := y1 vs (SqL.of (e2 _ _ (e1 _ _ h)))
        have z2 := y2 ws (SqL.of (e2 _ _ (e1 _ _ h2)))
        rw [p1] at z1
        rw [p2] at z2
        cases z1
        cases z2
        exact ⟨_, Le.new1 e2 hn, mk_tup e2 (.cons (rv1.mono e1) (.cons (rv2.mono e1) .nil)) hn⟩
  · rw [List.length_zipWith] at hi
    rw [← r.length, ← r2.length]
    omega
end
def iD (K : PySem.W.Frag) (mg : Str → Option Value) (W : WX) (f : Env → R (List D)) : TI := fun σ H R =>
  ∃ (ρ : Env) (Hs : Hp), Ex Hs H ∧ ERel K Hs ρ σ ∧ Pst (fun Hi ds J => Walk K J Hi ds) K mg Hs H (f ρ) R (fun c d H' => W c d σ H')
abbrev SI (X : Cx) (W : WX) (tg e : Expr) (f : Env → R (List D)) : Prop := PI X tg e (iD X.K X.mg W f)
section
variable {X : Cx} {W : WX} {e a b tg : Expr} {es : List Expr} {pos : Pos} {fa fb : Env → R D} {fs : Env → R (List D)}
theorem PI.imp {t u : TI} (h : PI X tg e t) (f : ∀ σ H Q, u σ H Q → t σ H Q) : PI X tg e u := ⟨fun pins s σ H Q I q => h.run pins s σ H Q I (f σ H Q q)⟩
theorem si_val (ha : SE X W a fa) : SI X W tg a (fun ρ => do
    let x ← fa ρ
    D.items x) := by
  refine ⟨fun pins s σ H Q I h => ?_⟩
  obtain ⟨ρ, Hs, he, hr, hp⟩ := h
  cases q : fa ρ with
  | stuck => simp only [q] at hp; exact hp.elim
  | exc x =>
    exact (pi_list (tg := tg) ha).run pins s σ H Q I ⟨ρ, Hs, he, hr, by simp only [q] at hp ⊢; exact hp⟩
  | ok d =>
    cases d with
    | lst xs =>
      refine (pi_list (tg := tg) ha).run pins s σ H Q I ⟨ρ, Hs, he, hr, hp.bind fun d e v Hi H1 l rv hp1 => ?_⟩
      rw [q] at e
      cases e
      obtain ⟨p, vs, rfl, e1, r1⟩ := rv.lstI
      exact ⟨p, rfl, ⟨vs, SqL.of (l.sub _ _ e1)⟩, Pst.now (d := xs) hp1 l.sub (walk_lst e1 r1)⟩
    | tup xs =>
      refine (pi_tup (tg := tg) ha).run pins s σ H Q I ⟨ρ, Hs, he, hr, hp.bind fun d e v Hi H1 l rv hp1 => ?_⟩
      rw [q] at e
      cases e
      obtain ⟨p, vs, rfl, e1, r1⟩ := rv.tupI
      exact ⟨p, rfl, ⟨vs, SqT.of (l.sub _ _ e1)⟩, Pst.now (d := xs) hp1 l.sub (walk_tup e1 r1)⟩
    | scr ns =>
      refine (pi_list (tg := tg) ha).run pins s σ H Q I ⟨ρ, Hs, he, hr, hp.bind fun d e v Hi H1 l rv hp1 => ?_⟩
      rw [q] at e
      cases e
      obtain ⟨p, rfl, s1⟩ := (rv.mono l.sub).scrI
      refine ⟨p, rfl, ⟨_, s1⟩, Pst.now (d := ns.map D.int) hp1 l.sub (walk_scr fun H' e' => ?_)⟩
      obtain ⟨p', ep, s2⟩ := (rv.mono e').scrI
      cases ep
      exact s2
    | str x =>
      refine (pi_str (tg := tg) ha).run pins s σ H Q I ⟨ρ, Hs, he, hr, hp.bind fun d e v Hi H1 l rv hp1 => ?_⟩
      rw [q] at e
      cases e
      exact ⟨x, rv.strI, Pst.now (d := x.cps.toList.map fun c => D.str ⟨#[c]⟩) hp1 l.sub (walk_str x)⟩
    | _ => simp only [q] at hp; exact hp.elim
theorem rng_items {lo hi : Int} {l : List D} (h : rangeD lo hi = .ok l) : (-(2 ^ 62) ≤ lo ∧ lo < 2 ^ 62 ∧ -(2 ^ 62) ≤ hi ∧ hi < 2 ^ 62) ∧ l = (List.range (hi - lo).toNat).map fun i => D.int (lo + (i : Nat)) := by
  unfold rangeD at h
  split at h
  · cases h
    exact ⟨by omega, rfl⟩
  · cases h
theorem rangeOf_cases (ds : List D) : (∃ n, ds = [.int n]) ∨ (∃ a b, ds = [.int a, .int b]) ∨ D.rangeOf ds = .stuck := by
  unfold D.rangeOf
  split
  · exact .inl ⟨_, rfl⟩
  · exact .inr (.inl ⟨_, _, rfl⟩)
  · exact .inr (.inr rfl)
theorem rangeD_cases (lo hi : Int) : (∃ l, rangeD lo hi = .ok l) ∨ rangeD lo hi = .stuck := by
  unfold rangeD
  split
  · exact .inl ⟨_, rfl⟩
  · exact .inr rfl
theorem si_range1 {p : Pos} (hg : glOk X.env.scope "range" = true) (hm : X.mg "range" = none) (hpl : plain a = true) (hs : SA X W [a] fs) (hl : ∀ ρ ds, fs ρ = .ok ds → ds.length = 1) : SI X W tg (.Call (.Name "range" p) [a] [] pos) (fun ρ => do
    let xs ← fs ρ
    D.rangeOf xs) := by
  obtain ⟨g1, g2, g3⟩ := gl_of hg
  refine PI.imp (pi_range1 g1 hm hs (star_cons hpl)) fun σ H Q ⟨ρ, Hs, he, hr, hp⟩ => ⟨ρ, Hs, he, hr, hp.bind fun ds eds vs Hi H1 l rv hp1 => ?_⟩
  rcases rangeOf_cases ds with ⟨n, rfl⟩ | ⟨a, b, rfl⟩ | e
  · cases rv with
    | cons r1 t =>
      cases t
      have hp1 : Pst _ X.K X.mg Hi H1 (rangeD 0 n) Q _ := hp1
      rcases rangeD_cases 0 n with ⟨l2, q⟩ | q
      · rw [q] at hp1
        obtain ⟨⟨b1, b2, b3, b4⟩, rfl⟩ := rng_items q
        refine ⟨n, by rw [r1.intI], b3, b4, hp1.now l.sub ?_⟩
        have := walk_rng (K := X.K) (Hs := Hi) 0 n.toNat
        simpa using this
      · rw [q] at hp1
        exact hp1.elim
  · exact absurd (hl ρ _ eds) (by simp)
  · rw [e] at hp1
    exact hp1.elim
theorem si_range2 {p : Pos} (hg : glOk X.env.scope "range" = true) (hm : X.mg "range" = none) (hpl : plain a = true) (hpl2 : plain b = true) (hs : SA X W [a, b] fs) (hl : ∀ ρ ds, fs ρ = .ok ds → ds.length = 2) : SI X W tg (.Call (.Name "range" p) [a, b] [] pos) (fun ρ => do
    let xs ← fs ρ
    D.rangeOf xs) := by
  obtain ⟨g1, g2, g3⟩ := gl_of hg
  refine PI.imp (pi_range2 g1 hm hs (by rw [star_cons hpl, star_cons hpl2]; rfl) (by rw [star_cons hpl2]; rfl)) fun σ H Q ⟨ρ, Hs, he, hr, hp⟩ => ⟨ρ, Hs, he, hr, hp.bind fun ds eds vs Hi H1 l rv hp1 => ?_⟩
  rcases rangeOf_cases ds with ⟨n, rfl⟩ | ⟨a, b, rfl⟩ | e
  · exact absurd (hl ρ _ eds) (by simp)
  · cases rv with
    | cons r1 t =>
      cases t with
      | cons r2 t =>
        cases t
        have hp1 : Pst _ X.K X.mg Hi H1 (rangeD a b) Q _ := hp1
        rcases rangeD_cases a b with ⟨l2, q⟩ | q
        · rw [q] at hp1
          obtain ⟨bb, rfl⟩ := rng_items q
          exact ⟨a, b, by rw [r1.intI, r2.intI], bb, hp1.now l.sub (walk_rng _ _)⟩
        · rw [q] at hp1
          exact hp1.elim
  · rw [e] at hp1
    exact hp1.elim
theorem si_zip {p : Pos} {ks : List Expr} {kk : Nat} {tp : Pos} (hg : glOk X.env.scope "zip" = true) (hm : X.mg "zip" = none) (hpl : plain a = true) (hpl2 : plain b = true) (ha : SE X W a fa) (hb : SE X W b fb) : SI X W (.Tuple ks kk tp) (.Call (.Name "zip" p) [a, b] [] pos) (fun ρ => do
    let x ← fa ρ
    let y ← fb ρ
    D.zipOf x y) := by
  obtain ⟨g1, g2, g3⟩ := gl_of hg
  refine PI.imp (pi_zip g1 hm (pa_cons ha (pa_cons hb pa_nil (star_cons hpl2)) (star_cons hpl)) (star_cons hpl) (star_any fun x hx => by
    have e : x = b := by simpa using hx
    rw [e]; exact hpl2)) fun σ H Q ⟨ρ, Hs, he, hr, hp⟩ => ⟨ρ, Hs, he, hr, hp.bind fun d _ v Hi H1 l rv hp1 => ⟨ρ, Hi, l.sub, hr.mono l.old, hp1.bind fun d2 _ v2 Hj H2 l2 rv2 hp2 => ?_⟩⟩
  cases d with
  | lst xs =>
    cases d2 with
    | lst ys =>
      obtain ⟨p1, vs, rfl, e1, r1⟩ := (rv.mono l2.old).lstI
      obtain ⟨p2, ws, rfl, e2, r2⟩ := rv2.lstI
      exact ⟨p1, p2, vs, ws, rfl, SqL.of (l2.sub _ _ e1), SqL.of (l2.sub _ _ e2), hp2.now l2.sub (walk_zip e1 r1 e2 r2)⟩
    | _ => exact hp2.elim
  | _ => exact hp2.elim
/-- list(range(..)) -/
theorem rgV_rep {K : PySem.W.Frag} {H : Hp} (lo hi : Int) : Reps K H ((List.range (hi - lo).toNat).map fun i => D.int (lo + (i : Nat))) (rgV lo hi) := by
  unfold rgV
  have : ∀ l : List Nat, Reps K H (l.map fun i => D.int (lo + (i : Nat))) (l.map fun i => V.int (lo + (i : Nat))) := fun l => by
    induction l with
    | nil => exact .nil
    | cons a l ih => exact .cons (.int _) ih
  exact this _
theorem se_lrange1 {p p2 q2 : Pos} (hc : X.calm = true) (hgl : glOk X.env.scope "list" = true) (hml : X.mg "list" = none) (hg : glOk X.env.scope "range" = true) (hm : X.mg "range" = none) (hpl : plain a = true) (ha : SE X W a fa) :
    SE X W (.Call (.Name "list" p2) [.Call (.Name "range" p) [a] [] q2] [] pos) (fun ρ => do
    let x ← fa ρ
    let l ← D.rangeOf [x]
    if l.length ≤ 16777216 then .ok (.lst l) else .stuck) := by
  obtain ⟨g1, g2, g3⟩ := gl_of hg
  obtain ⟨k1, k2, k3⟩ := gl_of hgl
  refine PE.imp (pe_listRg hc k1 hml (prg_1 g1 hm ha (star_cons hpl))) fun σ H Q ⟨ρ, Hs, he, hr, hp⟩ => ⟨ρ, Hs, he, hr, hp.bind fun d _ v Hi H1 l rv hp1 => ?_⟩
  cases d with
  | int n =>
    have hp1 : PstD X.K X.mg Hi H1 (rangeD 0 n >>= fun l => if l.length ≤ 16777216 then .ok (.lst l) else .stuck) Q _ := hp1
    rcases rangeD_cases 0 n with ⟨l2, q⟩ | q
    · rw [q] at hp1
      obtain ⟨⟨b1, b2, b3, b4⟩, rfl⟩ := rng_items q
      simp only [R.bind_ok] at hp1
      split at hp1
      · refine ⟨n, rv.intI, ⟨b1, b2, b3, b4, ?_⟩, fun t hn => hp1 _ _ _ (Le.new1 l.sub hn) (mk_lst l.sub (rgV_rep 0 n) hn)⟩
        have : ((List.range (n - 0).toNat).map fun i => D.int (0 + (i : Nat))).length ≤ 16777216 := by assumption
        simpa using this
      · exact hp1.elim
    · rw [q] at hp1
      exact hp1.elim
  | _ => exact hp1.elim
theorem se_lrange2 {p p2 q2 : Pos} (hc : X.calm = true) (hgl : glOk X.env.scope "list" = true) (hml : X.mg "list" = none) (hg : glOk X.env.scope "range" = true) (hm : X.mg "range" = none) (hpl : plain a = true) (hpl2 : plain b = true) (ha : SE X W a fa) (hb : SE X W b fb) :
    SE X W (.Call (.Name "list" p2) [.Call (.Name "range" p) [a, b] [] q2] [] pos) (fun ρ => do
    let x ← fa ρ
    let y ← fb ρ
    let l ← D.rangeOf [x, y]
    if l.length ≤ 16777216 then .ok (.lst l) else .stuck) := by
  obtain ⟨g1, g2, g3⟩ := gl_of hg
  obtain ⟨k1, k2, k3⟩ := gl_of hgl
  refine PE.imp (pe_listRg hc k1 hml (prg_2 g1 hm ha hb (star_cons hpl) (star_cons hpl2) (star_any fun x hx => by
    have e : x = b := by simpa using hx
    rw [e]; exact hpl2))) fun σ H Q ⟨ρ, Hs, he, hr, hp⟩ => ⟨ρ, Hs, he, hr, hp.bind fun d _ v Hi H1 l rv hp1 => ⟨ρ, Hi, l.sub, hr.mono l.old, hp1.bind fun d2 _ v2 Hj H2 l2 rv2 hp2 => ?_⟩⟩
  cases d with
  | int m =>
    cases d2 with
    | int n =>
      have hp2 : PstD X.K X.mg Hj H2 (rangeD m n >>= fun l => if l.length ≤ 16777216 then .ok (.lst l) else .stuck) Q _ := hp2
      rcases rangeD_cases m n with ⟨l3, q⟩ | q
      · rw [q] at hp2
        obtain ⟨⟨b1, b2, b3, b4⟩, rfl⟩ := rng_items q
        simp only [R.bind_ok] at hp2
        split at hp2
        · refine ⟨m, n, rv.intI, rv2.intI, ⟨b1, b2, b3, b4, ?_⟩, fun t hn => hp2 _ _ _ (Le.new1 l2.sub hn) (mk_lst l2.sub (rgV_rep m n) hn)⟩
          have : ((List.range (n - m).toNat).map fun i => D.int (m + (i : Nat))).length ≤ 16777216 := by assumption
          simpa using this
        · exact hp2.elim
      · rw [q] at hp2
        exact hp2.elim
    | _ => exact hp2.elim
  | _ => cases d2 <;> exact hp2.elim
end
end Py

namespace Py
open PySem PySem.Spec PyProof.Rows L2

/-! ## slots forgotten -/
theorem wipe_get : ∀ (vs : List Nat) (σ : L2.St) (j : Nat), (wipe σ vs)[j]? = if j ∈ vs then (σ[j]?).map (fun _ => none) else σ[j]?
  | [], σ, j => by simp [wipe]
  | v :: vs, σ, j => by
    unfold wipe
    by_cases h : v = j
    · subst h
      rw [if_pos (by simp)]
      by_cases hl : v < (wipe σ vs).length
      · rw [List.getElem?_set_self hl]
        rw [wipe_length] at hl
        rw [List.getElem?_eq_getElem hl]
        rfl
      · rw [List.getElem?_eq_none (by simpa using hl)]
        rw [wipe_length] at hl
        rw [List.getElem?_eq_none (by omega)]
        rfl
    · rw [List.getElem?_set_ne h, wipe_get vs σ j]
      by_cases h2 : j ∈ vs
      · rw [if_pos h2, if_pos (by simp [h2])]
      · rw [if_neg h2, if_neg (by simp [h2, Ne.symm h])]
theorem wipe_set {σ : L2.St} {vs : List Nat} {i : Nat} {x : Option V} (h : i ∈ vs) : wipe (σ.set i x) vs = wipe σ vs := by
  apply List.ext_getElem?
  intro j
  rw [wipe_get, wipe_get]
  by_cases hj : j ∈ vs
  · rw [if_pos hj, if_pos hj]
    by_cases e : i = j
    · subst e
      by_cases hl : i < σ.length
      · rw [List.getElem?_set_self hl, List.getElem?_eq_getElem hl]
        rfl
      · rw [List.getElem?_eq_none (by simpa using hl), List.getElem?_eq_none (by omega)]
    · rw [List.getElem?_set_ne e]
  · rw [if_neg hj, if_neg hj, List.getElem?_set_ne (fun (e : i = j) => hj (e ▸ h))]
theorem wipe_wipe {σ : L2.St} {vs : List Nat} : wipe (wipe σ vs) vs = wipe σ vs := by
  apply List.ext_getElem?
  intro j
  rw [wipe_get]
  by_cases hj : j ∈ vs
  · rw [if_pos hj, wipe_get, if_pos hj]
    cases σ[j]? <;> rfl
  · rw [if_neg hj]
theorem wipe_fold {vs : List Nat} : ∀ (ps : List (Nat × V)) (σ : L2.St), (∀ p ∈ ps, p.1 ∈ vs) → wipe (ps.foldl (fun s p => s.set p.1 (some p.2)) σ) vs = wipe σ vs
  | [], _, _ => rfl
  | p :: ps, σ, h => by
    rw [List.foldl_cons, wipe_fold ps _ fun q hq => h q (by simp [hq]), wipe_set (h p (by simp))]
theorem erel_wipe {K : PySem.W.Frag} {Hs : Hp} {ρ : Env} {σ : L2.St} {vs : List Nat} (h : ERel K Hs ρ σ) : ERelX K Hs vs ρ (wipe σ vs) := by
  refine ⟨by rw [wipe_length]; exact h.1, fun i d q => ?_⟩
  by_cases hi : i ∈ vs
  · exact .inl hi
  · obtain ⟨v, a, b⟩ := h.2 i d q
    exact .inr ⟨v, by rw [wipe_get, if_neg hi]; exact a, b⟩

/-! ## a list comprehension -/
theorem bind_some {α β : Type} {r : R α} {f : α → R β} {b : β} (h : (r >>= f) = .ok b) : ∃ a, r = .ok a ∧ f a = .ok b := by
  cases r with
  | ok a => exact ⟨a, rfl, h⟩
  | exc x => cases h
  | stuck => cases h
def lcF (ft : Env → R Bool) (fe : Env → R D) (t : Tgt) (ρ : Env) (x : D) : R (Option D) := do
  let ρ' ← t.bind x ρ
  let k ← ft ρ'
  if k then do
    let y ← fe ρ'
    .ok (some y)
  else .ok none
theorem lcGo_cons {f : D → R (Option D)} {x : D} {xs : List D} {acc : List D} (g : List D → R D) : (lcGo f (x :: xs) >>= fun l => g (acc ++ l)) = ((f x).nox >>= fun o => match o with
    | some y => lcGo f xs >>= fun l => g ((acc ++ [y]) ++ l)
    | none => lcGo f xs >>= fun l => g (acc ++ l)) := by
  show ((do
    let o ← (f x).nox
    let l ← lcGo f xs
    match o with
    | some d => .ok (d :: l)
    | none => .ok l) >>= _) = _
  rw [R.bind_assoc]
  congr 1
  funext o
  rw [R.bind_assoc]
  cases o with
  | some y => simp
  | none => simp
abbrev WN : WX := fun _ _ _ _ => False
section
variable {X : Cx} {W : WX} {tg iter elt : Expr} {ifs : List Expr} {raw : Scope} {pos : Pos} {fi : Env → R (List D)} {ft : Env → R Bool} {fe : Env → R D} {t : Tgt}
theorem lc_imp {σ : L2.St} {H : Hp} {Q : VK} (nd : t.ixs.Nodup) (h : tD X.K X.mg W (fun ρ => do
    let xs ← fi ρ
    if xs.length ≤ 16777215 then do
      let l ← lcGo (lcF ft fe t ρ) xs
      .ok (.lst l)
    else .stuck) σ H Q) : tLc (iD X.K X.mg W fi) (gOf X.K t) (tDB X.K X.mg WN ft) (tD X.K X.mg WN fe) t.ixs σ H Q := by
  obtain ⟨ρ, Hs, he, hr, hp⟩ := h
  refine ⟨ρ, Hs, he, hr, Pst.bind (Rel2 := Rep X.K) hp fun ds _ J Hs1 H1 l1 wk hp1 => ?_⟩
  intro DD hD
  by_cases hz : ds.length ≤ 16777215
  · rw [if_pos hz] at hp1
    have hr1 := hr.mono l1.old
    refine ⟨fun i m H' => m = ds.length - i ∧ i ≤ ds.length ∧ ∃ Hi acc vacc, Le Hs1 H1 Hi H' ∧ Hi DD = none ∧ H' DD = some (.lst vacc) ∧ Reps X.K Hi acc vacc ∧ acc.length ≤ i ∧
      PstD X.K X.mg Hs1 H1 (lcGo (lcF ft fe t ρ) (ds.drop i) >>= fun l => .ok (.lst (acc ++ l))) Q (fun c d H' => W c d σ H'),
      ⟨ds.length, by simp, Nat.zero_le _, Hs1, [], [], Le.new0 l1.sub hD, fresh_s l1.sub hD, upd_same, .nil, Nat.le_refl _, by simpa using hp1⟩, ?_⟩
    rintro i m H' ⟨rfl, hi, Hi, acc, vacc, le, hDi, hDl, ra, hacc, hrest⟩
    by_cases hlt : i < ds.length
    · refine .inr ⟨wk.go i H' (le.old.trans le.sub) hlt, fun H'' => ∃ m', m' < ds.length - i ∧ (m' = ds.length - (i + 1) ∧ i + 1 ≤ ds.length ∧ ∃ Hi acc vacc, Le Hs1 H1 Hi H'' ∧ Hi DD = none ∧ H'' DD = some (.lst vacc) ∧ Reps X.K Hi acc vacc ∧ acc.length ≤ i + 1 ∧
        PstD X.K X.mg Hs1 H1 (lcGo (lcF ft fe t ρ) (ds.drop (i + 1)) >>= fun l => .ok (.lst (acc ++ l))) Q (fun c d H' => W c d σ H')), fun H'' h => h, fun x H2 hy => ?_⟩
      have hd : ds[i]? = some ds[i] := List.getElem?_eq_getElem hlt
      obtain ⟨Hj, l2, rx⟩ := wk.yld i Hi H' x H2 _ le.old le.sub hd hy
      rw [List.drop_eq_getElem_cons hlt] at hrest
      rw [lcGo_cons (fun l => .ok (.lst l))] at hrest
      have hDj : Hj DD = none := by
        cases z : Hj DD with
        | none => rfl
        | some o =>
          rcases l2.new DD o z with q | q
          · rw [hDi] at q; cases q
          · rw [hDl] at q; cases q
      cases q0 : lcF ft fe t ρ ds[i] with
      | stuck => rw [q0] at hrest; exact hrest.elim
      | exc x => rw [q0] at hrest; exact hrest.elim
      | ok o =>
        rw [q0] at hrest
        simp only [R.nox_ok, R.bind_ok] at hrest
        obtain ⟨ρ', q1, q2⟩ := bind_some q0
        obtain ⟨k, q3, q4⟩ := bind_some q2
        refine tgt_run (ρ := ρ) q1 rx l2.sub ((erel_wipe ((hr1.mono le.old).mono l2.old))) fun σ' hr' ⟨us, hus⟩ => ?_
        refine ⟨?_, ρ', Hj, l2.sub, hr', ?_⟩
        · rw [hus, wipe_fold _ _ fun p hp => (List.of_mem_zip hp).1, wipe_wipe]
        · rw [q3]
          intro b Hk H3 l3 hb
          subst hb
          have hDk : Hk DD = none := by
            cases z : Hk DD with
            | none => rfl
            | some o =>
              rcases l3.new DD o z with q | q
              · rw [hDj] at q; cases q
              · rw [l2.ex DD _ hDl] at q; cases q
          cases k with
          | true =>
            have q4 : (do
              let y ← fe ρ'
              R.ok (some y)) = .ok o := q4
            obtain ⟨y, q5, q6⟩ := bind_some q4
            cases q6
            refine iteT ⟨ρ', Hk, l3.sub, hr'.mono l3.old, ?_⟩
            rw [q5]
            intro v Hm H4 l4 rv
            have hD4 : H4 DD = some (.lst vacc) := l4.ex _ _ (l3.ex _ _ (l2.ex _ _ hDl))
            have hDm : Hm DD = none := by
              cases z : Hm DD with
              | none => rfl
              | some o =>
                rcases l4.new DD o z with q | q
                · rw [hDk] at q; cases q
                · rw [l3.ex DD _ (l2.ex DD _ hDl)] at q; cases q
            have lall : Le Hs1 H1 Hm H4 := ((le.trans l2).trans l3).trans l4
            have hlen : vacc.length < sizeLine := by
              rw [size_eq, ← ra.length]
              omega
            refine ⟨vacc, hD4, hlen, ds.length - (i + 1), by omega, rfl, by omega, Hm, acc ++ [y], vacc ++ [v], ⟨lall.old, fun a o h => ?_, fun a o h => ?_, lall.new⟩, hDm, upd_same, (((ra.mono l2.old).mono l3.old).mono l4.old).append (.cons rv .nil), by simp; omega, hrest⟩
            · rw [upd_ne (ne_of_none h hD)]
              exact lall.ex a o h
            · rw [upd_ne (ne_of_none h hDm)]
              exact lall.sub a o h
          | false =>
            have q4 : R.ok none = R.ok o := q4
            cases q4
            have lall : Le Hs1 H1 Hk H3 := (le.trans l2).trans l3
            exact iteF ⟨ds.length - (i + 1), by omega, rfl, by omega, Hk, acc, vacc, lall, hDk, l3.ex _ _ (l2.ex _ _ hDl), (ra.mono l2.old).mono l3.old, by omega, hrest⟩
    · refine .inl ⟨wk.stop i H' (le.old.trans le.sub) (by omega), ?_⟩
      have e : ds.drop i = [] := List.drop_eq_nil_of_le (by omega)
      rw [e] at hrest
      have hrest : PstD X.K X.mg Hs1 H1 (.ok (.lst (acc ++ []))) Q _ := hrest
      rw [List.append_nil] at hrest
      have ns : Hs1 DD = none := fresh_s l1.sub hD
      refine hrest (.ref DD) (upd Hi DD (.lst vacc)) H' ⟨fun a o h => ?_, le.ex, fun a o h => ?_, fun a o h => ?_⟩ (.lst upd_same (ra.mono (Ex.new hDi)))
      · rw [upd_ne (ne_of_none h ns)]
        exact le.old a o h
      · by_cases e : a = DD
        · subst e
          rw [upd_same] at h
          cases h
          exact hDl
        · rw [upd_ne e] at h
          exact le.sub a o h
      · by_cases e : a = DD
        · subst e
          exact .inr hD
        · rw [upd_ne e] at h
          exact le.new a o h
  · rw [if_neg hz] at hp1
    exact hp1.elim
theorem folded_ok {iter : Expr} {env : PySem.Env} (h : plain iter = true) : ∀ x, foldedSetIterable iter env x = pure x := by
  intro x
  cases iter <;> first | rfl | cases h
end
end Py

namespace Py
open PySem PySem.Spec PyProof.Rows L2

theorem XOk.blk {X : Cx} {C : Cfg} {cs : List Cal} {k : Nat} {s : Shared} {H : Hp} {scope : Scope} {env : PySem.Env} {fp : List Addr} (h : XOk X C cs k) : XOk (X.blk s H scope env fp) C cs k :=
  ⟨h.calm, h.names, h.nd, h.room, h.fns, h.cn, h.free, h.glob⟩
theorem XOk.units {X : Cx} {C : Cfg} {cs : List Cal} {k : Nat} (h : XOk X C cs k) : X.A.units + 65 < cLine := by
  have := h.room.un
  omega
section
variable {C : Cfg} {cs : List Cal} {kk : Nat}
def EOk (C : Cfg) (cs : List Cal) (kk : Nat) (a : E) : Prop := ∀ (X : Cx) (W : WX) (e : Expr), XOk X C cs kk → Takes X W → chk C X.env.scope a e = true →
  SE X W e (ev (fnsOf cs) a) ∧ SB X W e (fun ρ => ev (fnsOf cs) a ρ >>= D.truth)
structure EsOk (C : Cfg) (cs : List Cal) (kk : Nat) (es : Es) : Prop where
  args : ∀ (X : Cx) (W : WX) (xs : List Expr), XOk X C cs kk → Takes X W → chks C X.env.scope es xs = true → SA X W xs (evs (fnsOf cs) es) ∧ (∀ x ∈ xs, plain x = true) ∧ xs.length = es.len ∧
    (es.len ≠ 0 → ∀ pos, SE X W (.BoolOp .And xs pos) (evAnd (fnsOf cs) es) ∧ SE X W (.BoolOp .Or xs pos) (evOr (fnsOf cs) es) ∧ SW X W (.BoolOp .And xs pos) (fun ρ => evAnd (fnsOf cs) es ρ >>= D.truth) ∧ SW X W (.BoolOp .Or xs pos) (fun ρ => evOr (fnsOf cs) es ρ >>= D.truth))
  part : ∀ (X : Cx) (W : WX) (o : Option Expr), XOk X C cs kk → Takes X W → chkPart C X.env.scope es o = true → SO X W o (evPart (fnsOf cs) es)
  tests : ∀ (X : Cx) (W : WX) (xs : List Expr), XOk X C cs kk → Takes X W → chkTests C X.env.scope es xs = true → PTs X xs (tDB X.K X.mg W (evTests (fnsOf cs) es))
def ItOk (C : Cfg) (cs : List Cal) (kk : Nat) (it : It) : Prop := ∀ (X : Cx) (W : WX) (tg e : Expr), XOk X C cs kk → Takes X W → chkIt C X.env.scope it e = true → (∀ a b, it = .zip a b → ∃ ks k p, tg = .Tuple ks k p) → SI X W tg e (evIt (fnsOf cs) it) ∧ plain e = true
theorem evs_len {Φ : Fns} : ∀ {es : Es} {ρ : Env} {ds : List D}, evs Φ es ρ = .ok ds → ds.length = es.len
  | .nil, ρ, ds, h => by
    rw [evs] at h
    cases h
    rfl
  | .cons e es, ρ, ds, h => by
    rw [evs] at h
    obtain ⟨x, h1, h⟩ := bind_some h
    obtain ⟨xs, h2, h⟩ := bind_some h
    cases h
    show xs.length + 1 = es.len + 1
    rw [evs_len h2]
theorem sb_plain {X : Cx} {W : WX} {e : Expr} {f : Env → R D} (h : SE X W e f) (he : ∀ whole, isTrue e X.env whole = (do let v ← whole; standAt e.pos; holding [v] (truthy v))) : SE X W e f ∧ SB X W e (fun ρ => f ρ >>= D.truth) := ⟨h, sb_of h he⟩
theorem glob_free {X : Cx} (h : XOk X C cs kk) {x : Str} (hx : C.bl.contains x = true) : X.mg x = none := h.free x (List.contains_iff_mem.mp hx)

theorem ok_var (i : Nat) : EOk C cs kk (.var i) := fun X W e hX tk h => by
  rw [chk] at h
  cases q : xName e with
  | none => rw [q] at h; cases h
  | some x =>
    rw [q] at h
    obtain ⟨p, rfl⟩ := xName_s q
    simp only [Bool.and_eq_true, decide_eq_true_eq] at h
    refine sb_plain ?_ fun _ => rfl
    have := se_var (W := W) (pos := p) (show X.N[i]? = some x by rw [hX.names]; exact h.1) h.2
    refine PE.imp this fun σ H Q hh => ?_
    obtain ⟨ρ, Hs, he, hr, hp⟩ := hh
    rw [ev] at hp
    exact ⟨ρ, Hs, he, hr, hp⟩
theorem ok_cst (c : Cst) : EOk C cs kk (.cst c) := fun X W e hX tk h => by
  rw [chk] at h
  cases q : xConst e with
  | none => rw [q] at h; cases h
  | some x =>
    rw [q] at h
    obtain ⟨j, p, rfl⟩ := xConst_s q
    refine sb_plain ?_ fun _ => rfl
    have e : ev (fnsOf cs) (.cst c) = fun _ => .ok c.d := by funext ρ; rw [ev]
    rw [e]
    exact se_cst h
theorem ok_glo (x : Str) (c : Cst) : EOk C cs kk (.glo x c) := fun X W e hX tk h => by
  rw [chk] at h
  cases q : xName e with
  | none => rw [q] at h; cases h
  | some y =>
    rw [q] at h
    obtain ⟨p, rfl⟩ := xName_s q
    simp only [Bool.and_eq_true, decide_eq_true_eq] at h
    obtain ⟨⟨rfl, h2⟩, h3⟩ := h
    obtain ⟨u, hm, r⟩ := hX.glob (x, c) (List.contains_iff_mem.mp h3)
    refine sb_plain ?_ fun _ => rfl
    have e : ev (fnsOf cs) (.glo x c) = fun _ => .ok c.d := by funext ρ; rw [ev]
    rw [e]
    exact se_glo h2 hm r
theorem ok_bin (o : Bop) {a b : E} (ha : EOk C cs kk a) (hb : EOk C cs kk b) : EOk C cs kk (.bin o a b) := fun X W e hX tk h => by
  rw [chk] at h
  cases q : xBin e with
  | none => rw [q] at h; cases h
  | some t =>
    obtain ⟨x, p, y⟩ := t
    rw [q] at h
    obtain ⟨pos, rfl⟩ := xBin_s q
    simp only [Bool.and_eq_true, decide_eq_true_eq] at h
    obtain ⟨⟨rfl, h2⟩, h3⟩ := h
    refine sb_plain ?_ fun _ => rfl
    have e : ev (fnsOf cs) (.bin o a b) = fun ρ => (do
      let x ← ev (fnsOf cs) a ρ
      let y ← ev (fnsOf cs) b ρ
      o.f x y) := by funext ρ; rw [ev]
    rw [e]
    exact se_bin (ha X W x hX tk h2).1 (hb X W y hX tk h3).1
theorem ok_neg {a : E} (ha : EOk C cs kk a) : EOk C cs kk (.neg a) := fun X W e hX tk h => by
  rw [chk] at h
  cases q : xUn e with
  | none => rw [q] at h; cases h
  | some t =>
    obtain ⟨o, x⟩ := t
    rw [q] at h
    obtain ⟨pos, rfl⟩ := xUn_s q
    simp only [Bool.and_eq_true, decide_eq_true_eq] at h
    obtain ⟨rfl, h2⟩ := h
    refine sb_plain ?_ fun _ => rfl
    have e : ev (fnsOf cs) (.neg a) = fun ρ => (do
      let x ← ev (fnsOf cs) a ρ
      D.negI x) := by funext ρ; rw [ev]
    rw [e]
    exact se_neg (ha X W x hX tk h2).1
theorem ok_cmp (o : Cop) {a b : E} (ha : EOk C cs kk a) (hb : EOk C cs kk b) : EOk C cs kk (.cmp o a b) := fun X W e hX tk h => by
  rw [chk] at h
  cases q : xCmp e with
  | none => rw [q] at h; cases h
  | some t =>
    obtain ⟨x, p, y⟩ := t
    rw [q] at h
    obtain ⟨pos, rfl⟩ := xCmp_s q
    simp only [Bool.and_eq_true, decide_eq_true_eq] at h
    obtain ⟨⟨⟨rfl, h1⟩, h2⟩, h3⟩ := h
    have e : ev (fnsOf cs) (.cmp o a b) = fun ρ => (do
      let x ← ev (fnsOf cs) a ρ
      let y ← ev (fnsOf cs) b ρ
      o.f x y) := by funext ρ; rw [ev]
    rw [e]
    exact ⟨se_cmp hX.units h1 (ha X W x hX tk h2).1 (hb X W y hX tk h3).1, sb_cmp hX.units h1 (ha X W x hX tk h2).1 (hb X W y hX tk h3).1⟩
theorem ok_isn (no : Bool) {a : E} (ha : EOk C cs kk a) : EOk C cs kk (.isn no a) := fun X W e hX tk h => by
  rw [chk] at h
  cases q : xCmp e with
  | none => rw [q] at h; cases h
  | some t =>
    obtain ⟨x, p, y⟩ := t
    rw [q] at h
    obtain ⟨pos, rfl⟩ := xCmp_s q
    simp only [Bool.and_eq_true, decide_eq_true_eq] at h
    obtain ⟨⟨rfl, h1⟩, h2⟩ := h
    cases q2 : xConst y with
    | none => rw [q2] at h1; cases h1
    | some c =>
      rw [q2] at h1
      obtain ⟨j, p2, rfl⟩ := xConst_s q2
      cases c with
      | none =>
        have e : ev (fnsOf cs) (.isn no a) = fun ρ => (do
          let x ← ev (fnsOf cs) a ρ
          .ok (.bl (if no then !x.isNon else x.isNon))) := by funext ρ; rw [ev]
        rw [e]
        exact ⟨se_isn (ha X W x hX tk h2).1, sb_isn (ha X W x hX tk h2).1⟩
      | _ => cases h1
theorem ok_isb (no : Bool) {a : E} (b : Bool) (ha : EOk C cs kk a) : EOk C cs kk (.isb no a b) := fun X W e hX tk h => by
  rw [chk] at h
  cases q : xCmp e with
  | none => rw [q] at h; cases h
  | some t =>
    obtain ⟨x, p, y⟩ := t
    rw [q] at h
    obtain ⟨pos, rfl⟩ := xCmp_s q
    simp only [Bool.and_eq_true, decide_eq_true_eq] at h
    obtain ⟨⟨rfl, h1⟩, h2⟩ := h
    cases q2 : xConst y with
    | none => rw [q2] at h1; cases h1
    | some c =>
      rw [q2] at h1
      obtain ⟨j, p2, rfl⟩ := xConst_s q2
      cases c with
      | bool c =>
        have h1 : (b == c) = true := h1
        have h1 := beq_iff_eq.mp h1
        subst h1
        have e : ev (fnsOf cs) (.isb no a b) = fun ρ => (do
          let x ← ev (fnsOf cs) a ρ
          D.isb no b x) := by funext ρ; rw [ev]
        rw [e]
        exact ⟨se_isb (ha X W x hX tk h2).1, sb_isb (ha X W x hX tk h2).1⟩
      | _ => cases h1
theorem ok_chain (o1 o2 : Cop) {a b c : E} (ha : EOk C cs kk a) (hb : EOk C cs kk b) (hc : EOk C cs kk c) : EOk C cs kk (.chain o1 o2 a b c) := fun X W e hX tk h => by
  rw [chk] at h
  cases q : xChain e with
  | none => rw [q] at h; cases h
  | some t =>
    obtain ⟨x, p1, p2, y, z⟩ := t
    rw [q] at h
    obtain ⟨pos, rfl⟩ := xChain_s q
    simp only [Bool.and_eq_true, decide_eq_true_eq] at h
    obtain ⟨⟨⟨⟨⟨⟨rfl, rfl⟩, h1⟩, h2⟩, h3⟩, h4⟩, h5⟩ := h
    have e : ev (fnsOf cs) (.chain o1 o2 a b c) = fun ρ => (do
      let x ← ev (fnsOf cs) a ρ
      let y ← ev (fnsOf cs) b ρ
      let r ← o1.f x y
      let k ← D.asB r
      if k then do
        let z ← ev (fnsOf cs) c ρ
        o2.f y z
      else .ok (.bl false)) := by funext ρ; rw [ev]
    rw [e]
    exact ⟨se_chain hX.units h2 (ha X W x hX tk h3).1 (hb X W y hX tk h4).1 (hc X W z hX tk h5).1, sb_chain hX.units h2 (ha X W x hX tk h3).1 (hb X W y hX tk h4).1 (hc X W z hX tk h5).1⟩
theorem ok_and {es : Es} (hs : EsOk C cs kk es) : EOk C cs kk (.and es) := fun X W e hX tk h => by
  rw [chk] at h
  cases q : xBool e with
  | none => rw [q] at h; cases h
  | some t =>
    obtain ⟨o, xs⟩ := t
    rw [q] at h
    obtain ⟨pos, rfl⟩ := xBool_s q
    simp only [Bool.and_eq_true, decide_eq_true_eq] at h
    obtain ⟨⟨rfl, h1⟩, h2⟩ := h
    have e : ev (fnsOf cs) (.and es) = evAnd (fnsOf cs) es := by funext ρ; rw [ev]
    rw [e]
    obtain ⟨_, _, _, q⟩ := hs.args X W xs hX tk h2
    obtain ⟨q1, q2, q3, q4⟩ := q h1 pos
    exact ⟨q1, q3.pt⟩
theorem ok_or {es : Es} (hs : EsOk C cs kk es) : EOk C cs kk (.or es) := fun X W e hX tk h => by
  rw [chk] at h
  cases q : xBool e with
  | none => rw [q] at h; cases h
  | some t =>
    obtain ⟨o, xs⟩ := t
    rw [q] at h
    obtain ⟨pos, rfl⟩ := xBool_s q
    simp only [Bool.and_eq_true, decide_eq_true_eq] at h
    obtain ⟨⟨rfl, h1⟩, h2⟩ := h
    have e : ev (fnsOf cs) (.or es) = evOr (fnsOf cs) es := by funext ρ; rw [ev]
    rw [e]
    obtain ⟨_, _, _, q⟩ := hs.args X W xs hX tk h2
    obtain ⟨q1, q2, q3, q4⟩ := q h1 pos
    exact ⟨q2, q4.pt⟩
theorem ok_not {a : E} (ha : EOk C cs kk a) : EOk C cs kk (.not a) := fun X W e hX tk h => by
  rw [chk] at h
  cases q : xUn e with
  | none => rw [q] at h; cases h
  | some t =>
    obtain ⟨o, x⟩ := t
    rw [q] at h
    obtain ⟨pos, rfl⟩ := xUn_s q
    simp only [Bool.and_eq_true, decide_eq_true_eq] at h
    obtain ⟨rfl, h2⟩ := h
    have e : ev (fnsOf cs) (.not a) = fun ρ => (do
      let x ← ev (fnsOf cs) a ρ
      let k ← D.truth x
      .ok (.bl (!k))) := by funext ρ; rw [ev]
    rw [e]
    exact ⟨se_not (ha X W x hX tk h2).1, sb_not (ha X W x hX tk h2).2⟩
theorem ok_tup {es : Es} (hs : EsOk C cs kk es) : EOk C cs kk (.tup es) := fun X W e hX tk h => by
  rw [chk] at h
  cases q : xTup e with
  | none => rw [q] at h; cases h
  | some xs =>
    rw [q] at h
    obtain ⟨k, pos, rfl⟩ := xTup_s q
    simp only [Bool.and_eq_true, decide_eq_true_eq] at h
    refine sb_plain ?_ fun _ => rfl
    have e : ev (fnsOf cs) (.tup es) = fun ρ => (do
      let xs ← evs (fnsOf cs) es ρ
      .ok (.tup xs)) := by funext ρ; rw [ev]
    rw [e]
    exact se_tup (hs.args X W xs hX tk h.2).1 fun ρ ds q => by rw [evs_len q]; exact h.1
theorem ok_lst {es : Es} (hs : EsOk C cs kk es) : EOk C cs kk (.lst es) := fun X W e hX tk h => by
  rw [chk] at h
  cases q : xLst e with
  | none => rw [q] at h; cases h
  | some xs =>
    rw [q] at h
    obtain ⟨pos, rfl⟩ := xLst_s q
    simp only [Bool.and_eq_true, decide_eq_true_eq] at h
    refine sb_plain ?_ fun _ => rfl
    have e : ev (fnsOf cs) (.lst es) = fun ρ => (do
      let xs ← evs (fnsOf cs) es ρ
      .ok (.lst xs)) := by funext ρ; rw [ev]
    rw [e]
    exact se_lst (hs.args X W xs hX tk h.2).1 fun ρ ds q => by rw [evs_len q]; exact h.1
theorem ok_ix {a b : E} (ha : EOk C cs kk a) (hb : EOk C cs kk b) : EOk C cs kk (.ix a b) := fun X W e hX tk h => by
  rw [chk] at h
  cases q : xSub e with
  | none => rw [q] at h; cases h
  | some t =>
    obtain ⟨x, y⟩ := t
    rw [q] at h
    obtain ⟨pos, rfl⟩ := xSub_s q
    simp only [Bool.and_eq_true] at h
    refine sb_plain ?_ fun _ => rfl
    have e : ev (fnsOf cs) (.ix a b) = fun ρ => (do
      let x ← ev (fnsOf cs) a ρ
      let y ← ev (fnsOf cs) b ρ
      D.ix x y) := by funext ρ; rw [ev]
    rw [e]
    exact se_ix h.1.1 (ha X W x hX tk h.1.2).1 (hb X W y hX tk h.2).1
theorem ok_sl {a : E} {lo hi : Es} (ha : EOk C cs kk a) (hl : EsOk C cs kk lo) (hh : EsOk C cs kk hi) : EOk C cs kk (.sl a lo hi) := fun X W e hX tk h => by
  rw [chk] at h
  cases q : xSub e with
  | none => rw [q] at h; cases h
  | some t =>
    obtain ⟨x, y⟩ := t
    rw [q] at h
    obtain ⟨pos, rfl⟩ := xSub_s q
    cases q2 : xSlice y with
    | none => simp only [q2] at h; cases h
    | some t =>
      obtain ⟨l, u⟩ := t
      simp only [q2, Bool.and_eq_true] at h
      obtain ⟨p2, rfl⟩ := xSlice_s q2
      refine sb_plain ?_ fun _ => rfl
      have e : ev (fnsOf cs) (.sl a lo hi) = fun ρ => (do
        let x ← ev (fnsOf cs) a ρ
        let l ← evPart (fnsOf cs) lo ρ
        let h ← evPart (fnsOf cs) hi ρ
        D.sl x l h) := by funext ρ; rw [ev]
      rw [e]
      exact se_sl (ha X W x hX tk h.1.1).1 (hl.part X W l hX tk h.1.2) (hh.part X W u hX tk h.2)
theorem ok_call (k : Nat) {es : Es} (hs : EsOk C cs kk es) : EOk C cs kk (.call k es) := fun X W e hX tk h => by
  rw [chk] at h
  cases q : xCall e with
  | none => rw [q] at h; cases h
  | some t =>
    obtain ⟨x, xs⟩ := t
    rw [q] at h
    obtain ⟨p, pos, rfl⟩ := xCall_s q
    simp only [Bool.and_eq_true, decide_eq_true_eq] at h
    obtain ⟨⟨⟨h1, h2⟩, h3⟩, h4⟩ := h
    rw [hX.cn, List.getElem?_map] at h1
    cases q2 : cs[k]? with
    | none => rw [q2] at h1; cases h1
    | some cal =>
      rw [q2] at h1
      have h1 : some (cal.name, cal.ps.length) = some (x, es.len) := h1
      simp only [Option.some.injEq, Prod.mk.injEq] at h1
      obtain ⟨rfl, h5⟩ := h1
      obtain ⟨a1, a2, a3, _⟩ := hs.args X W xs hX tk h4
      refine sb_plain ?_ fun _ => rfl
      have e : ev (fnsOf cs) (.call k es) = fun ρ => (do
        let xs ← evs (fnsOf cs) es ρ
        if xs.length = cal.ps.length then cal.g xs else .stuck) := by
        funext ρ
        rw [ev]
        congr 1
        funext ds
        show (match (fnsOf cs)[k]? with | some (n, g) => if ds.length = n then g ds else .stuck | none => .stuck) = _
        unfold fnsOf
        rw [List.getElem?_map, q2]
        rfl
      rw [e]
      cases xs with
      | nil => exact absurd a3.symm h2
      | cons y ys => exact se_call tk (hX.fns cal (List.mem_of_getElem? q2)) hX.room h3 a2 a1
theorem ok_bi (b : Bi) {es : Es} (hs : EsOk C cs kk es) : EOk C cs kk (.bi b es) := fun X W e hX tk h => by
  rw [chk] at h
  cases q : xCall e with
  | none => rw [q] at h; cases h
  | some t =>
    obtain ⟨x, xs⟩ := t
    rw [q] at h
    obtain ⟨p, pos, rfl⟩ := xCall_s q
    simp only [Bool.and_eq_true, decide_eq_true_eq] at h
    obtain ⟨⟨⟨⟨rfl, h1⟩, h2⟩, h3⟩, h4⟩ := h
    obtain ⟨a1, a2, a3, _⟩ := hs.args X W xs hX tk h4
    refine sb_plain ?_ fun _ => rfl
    have e : ev (fnsOf cs) (.bi b es) = fun ρ => (do
      let xs ← evs (fnsOf cs) es ρ
      b.f xs) := by funext ρ; rw [ev]
    rw [e]
    cases xs with
    | nil => exact absurd a3.symm h2
    | cons y ys => exact se_bi hX.calm hX.units h3 (glob_free hX h1) a2 a1
theorem ok_isi {a : E} (t : Ty) (ha : EOk C cs kk a) : EOk C cs kk (.isi a t) := fun X W e hX tk h => by
  rw [chk] at h
  cases q : xCall e with
  | none => rw [q] at h; cases h
  | some u =>
    obtain ⟨x, xs⟩ := u
    rw [q] at h
    obtain ⟨p, pos, rfl⟩ := xCall_s q
    simp only [Bool.and_eq_true, decide_eq_true_eq] at h
    obtain ⟨⟨⟨rfl, h1⟩, h2⟩, h3⟩ := h
    match xs, h3 with
    | [y, z], h3 =>
      simp only [Bool.and_eq_true] at h3
      obtain ⟨⟨h4, h5⟩, h6⟩ := h3
      cases q2 : xName z with
      | none => rw [q2] at h4; cases h4
      | some n =>
        rw [q2] at h4
        obtain ⟨p2, rfl⟩ := xName_s q2
        simp only [Bool.and_eq_true, decide_eq_true_eq] at h4
        obtain ⟨⟨rfl, h7⟩, h8⟩ := h4
        refine sb_plain ?_ fun _ => rfl
        have e : ev (fnsOf cs) (.isi a t) = fun ρ => (do
          let x ← ev (fnsOf cs) a ρ
          .ok (.bl (x.isTy t))) := by funext ρ; rw [ev]
        rw [e]
        exact se_isi h2 (glob_free hX h1) h8 (glob_free hX h7) h5 (ha X W y hX tk h6).1
    | [], h3 => cases h3
    | [_], h3 => cases h3
    | _ :: _ :: _ :: _, h3 => cases h3
theorem ok_minD {a : E} (ha : EOk C cs kk a) : EOk C cs kk (.minD a) := fun X W e hX tk h => by
  rw [chk] at h
  cases q : xCallK e with
  | none => rw [q] at h; cases h
  | some u =>
    obtain ⟨x, xs, n, d⟩ := u
    rw [q] at h
    obtain ⟨p, pos, r, rfl⟩ := xCallK_s q
    simp only [Bool.and_eq_true, decide_eq_true_eq] at h
    obtain ⟨⟨⟨⟨⟨rfl, h1⟩, h2⟩, rfl⟩, h4⟩, h3⟩ := h
    cases q2 : xConst d with
    | none => rw [q2] at h4; cases h4
    | some c =>
      rw [q2] at h4
      obtain ⟨j, p2, rfl⟩ := xConst_s q2
      cases c with
      | none =>
        match xs, h3 with
        | [y], h3 =>
          simp only [Bool.and_eq_true] at h3
          refine sb_plain ?_ fun _ => rfl
          have e : ev (fnsOf cs) (.minD a) = fun ρ => (do
            let x ← ev (fnsOf cs) a ρ
            D.minD x) := by funext ρ; rw [ev]
          rw [e]
          exact se_minD hX.calm hX.units h2 (glob_free hX h1) h3.1 (ha X W y hX tk h3.2).1
        | [], h3 => cases h3
        | _ :: _ :: _, h3 => cases h3
      | _ => cases h4
theorem ok_lrange1 {a : E} (ha : EOk C cs kk a) : EOk C cs kk (.lrange1 a) := fun X W e hX tk h => by
  rw [chk] at h
  cases q : xCall e with
  | none => rw [q] at h; cases h
  | some u =>
    obtain ⟨x, xs⟩ := u
    rw [q] at h
    obtain ⟨p, pos, rfl⟩ := xCall_s q
    simp only [Bool.and_eq_true, decide_eq_true_eq] at h
    obtain ⟨⟨⟨rfl, h1⟩, h2⟩, h3⟩ := h
    match xs, h3 with
    | [y], h3 =>
      cases q2 : xCall y with
      | none => simp only [q2] at h3; cases h3
      | some u =>
        obtain ⟨x2, ys⟩ := u
        simp only [q2, Bool.and_eq_true, decide_eq_true_eq] at h3
        obtain ⟨p2, pos2, rfl⟩ := xCall_s q2
        obtain ⟨⟨⟨rfl, h4⟩, h5⟩, h6⟩ := h3
        match ys, h6 with
        | [z], h6 =>
          simp only [Bool.and_eq_true] at h6
          refine sb_plain ?_ fun _ => rfl
          have e : ev (fnsOf cs) (.lrange1 a) = fun ρ => (do
            let x ← ev (fnsOf cs) a ρ
            let l ← D.rangeOf [x]
            if l.length ≤ 16777216 then .ok (.lst l) else .stuck) := by funext ρ; rw [ev]
          rw [e]
          exact se_lrange1 hX.calm h2 (glob_free hX h1) h5 (glob_free hX h4) h6.1 (ha X W z hX tk h6.2).1
        | [], h6 => cases h6
        | _ :: _ :: _, h6 => cases h6
    | [], h3 => cases h3
    | _ :: _ :: _, h3 => cases h3
theorem ok_lrange2 {a b : E} (ha : EOk C cs kk a) (hb : EOk C cs kk b) : EOk C cs kk (.lrange2 a b) := fun X W e hX tk h => by
  rw [chk] at h
  cases q : xCall e with
  | none => rw [q] at h; cases h
  | some u =>
    obtain ⟨x, xs⟩ := u
    rw [q] at h
    obtain ⟨p, pos, rfl⟩ := xCall_s q
    simp only [Bool.and_eq_true, decide_eq_true_eq] at h
    obtain ⟨⟨⟨rfl, h1⟩, h2⟩, h3⟩ := h
    match xs, h3 with
    | [y], h3 =>
      cases q2 : xCall y with
      | none => simp only [q2] at h3; cases h3
      | some u =>
        obtain ⟨x2, ys⟩ := u
        simp only [q2, Bool.and_eq_true, decide_eq_true_eq] at h3
        obtain ⟨p2, pos2, rfl⟩ := xCall_s q2
        obtain ⟨⟨⟨rfl, h4⟩, h5⟩, h6⟩ := h3
        match ys, h6 with
        | [z, z2], h6 =>
          simp only [Bool.and_eq_true] at h6
          obtain ⟨⟨⟨h7, h8⟩, h9⟩, h10⟩ := h6
          refine sb_plain ?_ fun _ => rfl
          have e : ev (fnsOf cs) (.lrange2 a b) = fun ρ => (do
            let x ← ev (fnsOf cs) a ρ
            let y ← ev (fnsOf cs) b ρ
            let l ← D.rangeOf [x, y]
            if l.length ≤ 16777216 then .ok (.lst l) else .stuck) := by funext ρ; rw [ev]
          rw [e]
          exact se_lrange2 hX.calm h2 (glob_free hX h1) h5 (glob_free hX h4) h7 h8 (ha X W z hX tk h9).1 (hb X W z2 hX tk h10).1
        | [], h6 => cases h6
        | [_], h6 => cases h6
        | _ :: _ :: _ :: _, h6 => cases h6
    | [], h3 => cases h3
    | _ :: _ :: _, h3 => cases h3
theorem blk_fn {X : Cx} {s : Shared} {H : Hp} {raw : Scope} {env : PySem.Env} {fp : List Addr} : ∀ x, raw.names.lookup x = some .cell → (X.blk s H raw env fp).fn x = true := fun x h => by
  show (raw.names.lookup x == some .cell) = true
  rw [h]
  rfl
theorem ok_lc (t : Tgt) {it : It} {ifs : Es} {el : E} (hi : ItOk C cs kk it) (hf : EsOk C cs kk ifs) (he : EOk C cs kk el) : EOk C cs kk (.lc t it ifs el) := fun X W e hX tk h => by
  rw [chk] at h
  cases q : xLc e with
  | none => rw [q] at h; cases h
  | some u =>
    obtain ⟨x, tg, i, fs, raw⟩ := u
    rw [q] at h
    obtain ⟨pos, rfl⟩ := xLc_s q
    simp only [Bool.and_eq_true, decide_eq_true_eq] at h
    obtain ⟨⟨⟨⟨⟨⟨⟨h1, h2⟩, h3⟩, h4⟩, h5⟩, h6⟩, h7⟩, h8⟩ := h
    refine sb_plain ?_ fun _ => rfl
    have e : ev (fnsOf cs) (.lc t it ifs el) = fun ρ => (do
      let xs ← evIt (fnsOf cs) it ρ
      if xs.length ≤ 16777215 then do
        let l ← lcGo (lcF (evTests (fnsOf cs) ifs) (ev (fnsOf cs) el) t ρ) xs
        .ok (.lst l)
      else .stuck) := by
      funext ρ
      rw [ev]
      rfl
    rw [e]
    obtain ⟨i1, i2⟩ := hi X W tg i hX tk h2 fun a b z => by
      subst z
      cases t with
      | nm i => cases h3
      | tp is =>
        have h4 : (match xTup tg with | some es => chkNames C.N (relS raw X.env.scope) raw is es | none => false) = true := h4
        cases q3 : xTup tg with
        | none => rw [q3] at h4; cases h4
        | some ks =>
          obtain ⟨k, p, rfl⟩ := xTup_s q3
          exact ⟨_, _, _, rfl⟩
    refine PE.imp (pe_lc (own := ownOf C.N t) (g := gOf X.K t) (tt := tDB X.K X.mg WN (evTests (fnsOf cs) ifs)) (te := tD X.K X.mg WN (ev (fnsOf cs) el)) hX.calm (by rw [hX.names]; exact hX.nd) i1 (blkOk_by (by rw [hX.names]; exact h1)) (fun s H C' cl fp => ?_) (fun s H C' cl fp => ?_) (fun s H C' cl fp => ?_) (folded_ok i2)) fun σ H Q hh => ?_
    · exact pg_of (X := X.blk s H raw (compEnvC raw cl C' X.env) fp) hX.calm (by exact hX.names) hX.nd rfl blk_fn h4
    · exact hf.tests (X.blk s H raw (compEnvC raw cl C' X.env) fp) WN fs hX.blk takes0 h5
    · exact (he (X.blk s H raw (compEnvC raw cl C' X.env) fp) WN x hX.blk takes0 h6).1
    · rw [h7]
      exact lc_imp h8 hh
theorem oks_nil : EsOk C cs kk .nil where
  args := fun X W xs hX tk h => by
    rw [chks] at h
    have e : xs = [] := by simpa using h
    subst e
    refine ⟨?_, by simp, rfl, fun h => absurd rfl h⟩
    have e : evs (fnsOf cs) .nil = fun _ => .ok [] := by funext ρ; rw [evs]
    rw [e]
    exact sa_nil
  part := fun X W o hX tk h => by
    rw [chkPart] at h
    have e : o = none := by simpa using h
    subst e
    have e : evPart (fnsOf cs) .nil = fun _ => .ok none := by funext ρ; rw [evPart]
    rw [e]
    exact so_none
  tests := fun X W xs hX tk h => by
    rw [chkTests] at h
    have e : xs = [] := by simpa using h
    subst e
    have e : evTests (fnsOf cs) .nil = fun _ => .ok true := by funext ρ; rw [evTests]
    rw [e]
    exact ⟨fun pins s σ H Q I ⟨ρ, Hs, he, hr, hp⟩ => pts_nil.run pins s σ H Q I (Pst.now (d := true) hp he rfl)⟩
theorem oks_cons {a : E} {as : Es} (ha : EOk C cs kk a) (hs : EsOk C cs kk as) : EsOk C cs kk (.cons a as) where
  args := fun X W xs hX tk h => by
    cases xs with
    | nil => rw [chks] at h; cases h
    | cons x xs =>
      rw [chks] at h
      simp only [Bool.and_eq_true] at h
      obtain ⟨⟨h1, h2⟩, h3⟩ := h
      obtain ⟨a1, a2⟩ := ha X W x hX tk h2
      obtain ⟨b1, b2, b3, b4⟩ := hs.args X W xs hX tk h3
      have e : evs (fnsOf cs) (.cons a as) = fun ρ => (do
        let x ← ev (fnsOf cs) a ρ
        let xs ← evs (fnsOf cs) as ρ
        .ok (x :: xs)) := by funext ρ; rw [evs]
      refine ⟨by rw [e]; exact sa_cons h1 a1 b1, fun y hy => ?_, congrArg (· + 1) b3, fun _ pos => ?_⟩
      · rcases List.mem_cons.mp hy with rfl | hy
        · exact h1
        · exact b2 y hy
      · cases as with
        | nil =>
          have e0 : xs = [] := List.eq_nil_of_length_eq_zero b3
          subst e0
          have e1 : evAnd (fnsOf cs) (.cons a .nil) = ev (fnsOf cs) a := by funext ρ; rw [evAnd]
          have e2 : evOr (fnsOf cs) (.cons a .nil) = ev (fnsOf cs) a := by funext ρ; rw [evOr]
          rw [e1, e2]
          exact ⟨se_and1 a1, se_or1 a1, sw_and1 a2, sw_or1 a2⟩
        | cons a' as' =>
          cases xs with
          | nil => cases b3
          | cons y ys =>
            obtain ⟨c1, c2, c3, c4⟩ := b4 (by show as'.len + 1 ≠ 0; omega) pos
            have e1 : evAnd (fnsOf cs) (.cons a (.cons a' as')) = fun ρ => (do
              let x ← ev (fnsOf cs) a ρ
              let k ← D.truth x
              if k then evAnd (fnsOf cs) (.cons a' as') ρ else .ok x) := by funext ρ; rw [evAnd]
            have e2 : evOr (fnsOf cs) (.cons a (.cons a' as')) = fun ρ => (do
              let x ← ev (fnsOf cs) a ρ
              let k ← D.truth x
              if k then .ok x else evOr (fnsOf cs) (.cons a' as') ρ) := by funext ρ; rw [evOr]
            rw [e1, e2]
            exact ⟨se_and a1 c1, se_or a1 c2, sw_and a2 c3, sw_or a2 c4⟩
  part := fun X W o hX tk h => by
    cases as with
    | cons _ _ => simp [chkPart] at h
    | nil =>
      cases o with
      | none => simp [chkPart] at h
      | some x =>
        have h : chk C X.env.scope a x = true := by simpa [chkPart] using h
        have e : evPart (fnsOf cs) (.cons a .nil) = fun ρ => (do
          let x ← ev (fnsOf cs) a ρ
          D.asI x) := by funext ρ; rw [evPart]
        rw [e]
        exact so_some (ha X W x hX tk h).1
  tests := fun X W xs hX tk h => by
    match as, xs, h with
    | .nil, [x], h =>
      have h : chk C X.env.scope a x = true := by simpa [chkTests] using h
      have e : evTests (fnsOf cs) (.cons a .nil) = fun ρ => ev (fnsOf cs) a ρ >>= D.truth := by funext ρ; rw [evTests]
      rw [e]
      exact pts_one (ha X W x hX tk h).2
    | .nil, [], h => simp [chkTests] at h
    | .nil, _ :: _ :: _, h => simp [chkTests] at h
    | .cons _ _, _, h => simp [chkTests] at h
theorem oki_val {a : E} (ha : EOk C cs kk a) : ItOk C cs kk (.val a) := fun X W tg e hX tk h hz => by
  rw [chkIt] at h
  simp only [Bool.and_eq_true] at h
  refine ⟨?_, h.1⟩
  have e : evIt (fnsOf cs) (.val a) = fun ρ => (do
    let x ← ev (fnsOf cs) a ρ
    D.items x) := by funext ρ; rw [evIt]
  rw [e]
  exact si_val (ha X W _ hX tk h.2).1
theorem oki_range {es : Es} (hs : EsOk C cs kk es) : ItOk C cs kk (.range es) := fun X W tg e hX tk h hz => by
  rw [chkIt] at h
  cases q : xCall e with
  | none => rw [q] at h; cases h
  | some u =>
    obtain ⟨x, xs⟩ := u
    rw [q] at h
    obtain ⟨p, pos, rfl⟩ := xCall_s q
    simp only [Bool.and_eq_true, decide_eq_true_eq] at h
    obtain ⟨⟨⟨⟨rfl, h1⟩, h2⟩, h3⟩, h4⟩ := h
    refine ⟨?_, rfl⟩
    obtain ⟨a1, a2, a3, _⟩ := hs.args X W xs hX tk h4
    have e : evIt (fnsOf cs) (.range es) = fun ρ => (do
      let xs ← evs (fnsOf cs) es ρ
      D.rangeOf xs) := by funext ρ; rw [evIt]
    rw [e]
    match xs, a1, a2, a3 with
    | [y], a1, a2, a3 => exact si_range1 h2 (glob_free hX h1) (a2 y (by simp)) a1 fun ρ ds q => by rw [evs_len q, ← a3]; rfl
    | [y, z], a1, a2, a3 => exact si_range2 h2 (glob_free hX h1) (a2 y (by simp)) (a2 z (by simp)) a1 fun ρ ds q => by rw [evs_len q, ← a3]; rfl
    | [], a1, a2, a3 => rcases h3 with h3 | h3 <;> (rw [← a3] at h3; cases h3)
    | _ :: _ :: _ :: _, a1, a2, a3 => rcases h3 with h3 | h3 <;> (rw [← a3] at h3; simp at h3)
theorem oki_zip {a b : E} (ha : EOk C cs kk a) (hb : EOk C cs kk b) : ItOk C cs kk (.zip a b) := fun X W tg e hX tk h hz => by
  rw [chkIt] at h
  obtain ⟨ks, k, tp, rfl⟩ := hz a b rfl
  cases q : xCall e with
  | none => rw [q] at h; cases h
  | some u =>
    obtain ⟨x, xs⟩ := u
    rw [q] at h
    obtain ⟨p, pos, rfl⟩ := xCall_s q
    simp only [Bool.and_eq_true, decide_eq_true_eq] at h
    obtain ⟨⟨⟨rfl, h1⟩, h2⟩, h3⟩ := h
    refine ⟨?_, rfl⟩
    have e : evIt (fnsOf cs) (.zip a b) = fun ρ => (do
      let x ← ev (fnsOf cs) a ρ
      let y ← ev (fnsOf cs) b ρ
      D.zipOf x y) := by funext ρ; rw [evIt]
    rw [e]
    match xs, h3 with
    | [y, z], h3 =>
      simp only [Bool.and_eq_true] at h3
      obtain ⟨⟨⟨h4, h5⟩, h6⟩, h7⟩ := h3
      exact si_zip h2 (glob_free hX h1) h4 h5 (ha X W y hX tk h6).1 (hb X W z hX tk h7).1
    | [], h3 => cases h3
    | [_], h3 => cases h3
    | _ :: _ :: _ :: _, h3 => cases h3
mutual
theorem ok_E : ∀ a : E, EOk C cs kk a
  | .var i => ok_var i
  | .cst c => ok_cst c
  | .glo x c => ok_glo x c
  | .bin o a b => ok_bin o (ok_E a) (ok_E b)
  | .neg a => ok_neg (ok_E a)
  | .cmp o a b => ok_cmp o (ok_E a) (ok_E b)
  | .isn no a => ok_isn no (ok_E a)
  | .isb no a b => ok_isb no b (ok_E a)
  | .chain o1 o2 a b c => ok_chain o1 o2 (ok_E a) (ok_E b) (ok_E c)
  | .and es => ok_and (ok_Es es)
  | .or es => ok_or (ok_Es es)
  | .not a => ok_not (ok_E a)
  | .tup es => ok_tup (ok_Es es)
  | .lst es => ok_lst (ok_Es es)
  | .ix a b => ok_ix (ok_E a) (ok_E b)
  | .sl a lo hi => ok_sl (ok_E a) (ok_Es lo) (ok_Es hi)
  | .call k es => ok_call k (ok_Es es)
  | .bi b es => ok_bi b (ok_Es es)
  | .isi a t => ok_isi t (ok_E a)
  | .minD a => ok_minD (ok_E a)
  | .lrange1 a => ok_lrange1 (ok_E a)
  | .lrange2 a b => ok_lrange2 (ok_E a) (ok_E b)
  | .lc t it ifs e => ok_lc t (ok_It it) (ok_Es ifs) (ok_E e)
theorem ok_Es : ∀ es : Es, EsOk C cs kk es
  | .nil => oks_nil
  | .cons e es => oks_cons (ok_E e) (ok_Es es)
theorem ok_It : ∀ it : It, ItOk C cs kk it
  | .val a => oki_val (ok_E a)
  | .range es => oki_range (ok_Es es)
  | .zip a b => oki_zip (ok_E a) (ok_E b)
end
end
end Py

namespace Py
open PySem PySem.Spec PyProof.Rows L2

/-! ## the small syntax of statements -/
inductive O where
  | disp (es : Es) | listOf (a : E) | add (a b : E)
mutual
inductive S where
  | asg (cl : Bool) (t : Tgt) (e : E)
  | own (cl : Bool) (i : Nat) (o : O)
  | app (cl : Bool) (i : Nat) (e : E)
  | ext (cl : Bool) (i : Nat) (e : E)
  | put (cl : Bool) (i : Nat) (j e : E)
  | ex (e : E)
  | ite (c : E) (a b : Ss)
  | whl (n : Nat) (c : E) (b : Ss)
  | for_ (cl : Bool) (t : Tgt) (it : It) (b : Ss)
  | ret (e : E)
  | retN
  | pass
  | brk
  | cont
inductive Ss where
  | nil
  | cons (s : S) (ss : Ss)
end

/-! ## what it does -/
inductive Fl where
  | nx (ρ : Env) | rt (d : D) | bk (ρ : Env) | ct (ρ : Env) | xc (x : XD) (ρ : Env)
def XD.lf (x : XD) : Bool := match x.fld with
  | none => true
  | some (_, d) => d.lf
def mask (M : List Nat) (ρ : Env) : Env := M.foldl (fun ρ i => ρ.set i none) ρ
def view (M : List Nat) (cl : Bool) (ρ : Env) : Env := if cl then mask M ρ else ρ
def lift {α : Type} (cl : Bool) (l : α → Bool) (r : R α) (ρ : Env) (k : α → R Fl) : R Fl := match r with
  | .ok a => if cl || l a then k a else .stuck
  | .exc x => if cl || x.lf then .ok (.xc x ρ) else .stuck
  | .stuck => .stuck
def bindT (t : Tgt) (d : D) (ρ : Env) (k : Env → R Fl) : R Fl := match t.bind d ρ with
  | .ok ρ' => k ρ'
  | _ => .stuck
def O.f (Φ : Fns) : O → Env → R D
  | .disp es, ρ => do
    let xs ← evs Φ es ρ
    .ok (.lst xs)
  | .listOf a, ρ => do
    let x ← ev Φ a ρ
    D.listOf x
  | .add a b, ρ => do
    let x ← ev Φ a ρ
    let y ← ev Φ b ρ
    match x, y with
    | .lst xs, .lst ys => if xs.length + ys.length ≤ 16777216 then .ok (.lst (xs ++ ys)) else .stuck
    | _, _ => .stuck
def D.lfItems : D → Bool
  | .lst xs => D.lfs xs
  | _ => false
def appD (i : Nat) (d : D) (ρ : Env) : R Fl := match ρ[i]? with
  | some (some (.lst xs)) => if xs.length < 16777216 then .ok (.nx (ρ.set i (some (.lst (xs ++ [d]))))) else .stuck
  | _ => .stuck
def extD (i : Nat) (d : D) (ρ : Env) : R Fl := match ρ[i]?, d with
  | some (some (.lst xs)), .lst ys => if xs.length + ys.length ≤ 16777216 then .ok (.nx (ρ.set i (some (.lst (xs ++ ys))))) else .stuck
  | _, _ => .stuck
def putD (i : Nat) (j d : D) (ρ : Env) : R Fl := match ρ[i]?, j with
  | some (some (.lst xs)), .int k => match ixN xs.length k with
    | some n => .ok (.nx (ρ.set i (some (.lst (xs.set n d)))))
    | none => .stuck
  | _, _ => .stuck
def haveL (i : Nat) (ρ : Env) (k : R Fl) : R Fl := match ρ[i]? with
  | some (some (.lst _)) => k
  | _ => .stuck
def whileN (c : Env → R Bool) (body : Env → R Fl) : Nat → Env → R Fl
  | 0, _ => .stuck
  | n + 1, ρ => lift false (fun _ => true) (c ρ) ρ fun k => if k then (match body ρ with
    | .ok (.nx ρ') => whileN c body n ρ'
    | .ok (.ct ρ') => whileN c body n ρ'
    | .ok (.bk ρ') => .ok (.nx ρ')
    | r => r) else .ok (.nx ρ)
def forGo (t : Tgt) (body : Env → R Fl) : List D → Env → R Fl
  | [], ρ => .ok (.nx ρ)
  | d :: ds, ρ => bindT t d ρ fun ρ1 => match body ρ1 with
    | .ok (.nx ρ') => forGo t body ds ρ'
    | .ok (.ct ρ') => forGo t body ds ρ'
    | .ok (.bk ρ') => .ok (.nx ρ')
    | r => r
def tst (Φ : Fns) (c : E) (ρ : Env) : R Bool := ev Φ c ρ >>= D.truth
mutual
def exec (Φ : Fns) (M : List Nat) : S → Env → R Fl
  | .asg cl t e, ρ => lift cl D.lf (ev Φ e (view M cl ρ)) ρ fun d => bindT t d ρ fun ρ' => .ok (.nx ρ')
  | .own cl i o, ρ => lift cl D.lfItems (o.f Φ (view M cl ρ)) ρ fun d => .ok (.nx (ρ.set i (some d)))
  | .app cl i e, ρ => haveL i ρ <| lift cl D.lf (ev Φ e (view M cl ρ)) ρ fun d => appD i d ρ
  | .ext cl i e, ρ => haveL i ρ <| lift cl D.lfItems (ev Φ e (view M cl ρ)) ρ fun d => extD i d ρ
  | .put cl i j e, ρ => haveL i ρ <| lift cl D.lf (ev Φ e (view M cl ρ)) ρ fun d => lift false D.lf (ev Φ j (view M false ρ)) ρ fun k => putD i k d ρ
  | .ex e, ρ => lift false (fun _ => true) (ev Φ e (view M false ρ)) ρ fun _ => .ok (.nx ρ)
  | .ite c a b, ρ => lift false (fun _ => true) (tst Φ c (view M false ρ)) ρ fun k => if k then execs Φ M a ρ else execs Φ M b ρ
  | .whl n c b, ρ => whileN (fun ρ => tst Φ c (view M false ρ)) (execs Φ M b) n ρ
  | .for_ cl t it b, ρ => lift cl (fun _ => match it with | .range _ => true | _ => false) (evIt Φ it (view M cl ρ)) ρ fun ds => forGo t (execs Φ M b) ds ρ
  | .ret e, ρ => lift false (fun _ => true) (ev Φ e (view M false ρ)) ρ fun d => .ok (.rt d)
  | .retN, _ => .ok (.rt .non)
  | .pass, ρ => .ok (.nx ρ)
  | .brk, ρ => .ok (.bk ρ)
  | .cont, ρ => .ok (.ct ρ)
def execs (Φ : Fns) (M : List Nat) : Ss → Env → R Fl
  | .nil, ρ => .ok (.nx ρ)
  | .cons s ss, ρ => match exec Φ M s ρ with
    | .ok (.nx ρ') => execs Φ M ss ρ'
    | r => r
end

/-! ## the invariant of a def's body -/
structure SInv (K : PySem.W.Frag) (M : List Nat) (Hs0 H0 : Hp) (ρ : Env) (Hs : Hp) (σ : L2.St) (H : Hp) : Prop where
  le : Le Hs0 H0 Hs H
  len : ρ.length ≤ σ.length
  sl : ∀ (i : Nat) (d : D), i ∉ M → ρ[i]? = some (some d) → ∃ v, σ[i]? = some (some v) ∧ Rep K Hs d v
  own : ∀ (i : Nat) (d : D), i ∈ M → ρ[i]? = some (some d) → ∃ p xs vs, d = .lst xs ∧ σ[i]? = some (some (.ref p)) ∧ Hs p = none ∧ H0 p = none ∧ H p = some (.lst vs) ∧ Reps K Hs xs vs
  inj : ∀ (i j : Nat) (p : Addr) (d e : D), i ∈ M → j ∈ M → ρ[i]? = some (some d) → ρ[j]? = some (some e) → σ[i]? = some (some (.ref p)) → σ[j]? = some (some (.ref p)) → i = j
theorem mask_get : ∀ (M : List Nat) (ρ : Env) (i : Nat) (d : D), (mask M ρ)[i]? = some (some d) → i ∉ M ∧ ρ[i]? = some (some d)
  | [], ρ, i, d, h => ⟨by simp, h⟩
  | j :: M, ρ, i, d, h => by
    obtain ⟨h1, h2⟩ := mask_get M (ρ.set j none) i d h
    by_cases e : j = i
    · subst e
      by_cases hl : j < ρ.length
      · rw [List.getElem?_set_self hl] at h2
        cases h2
      · rw [List.getElem?_eq_none (by simpa using hl)] at h2
        cases h2
    · rw [List.getElem?_set_ne e] at h2
      exact ⟨by simp [h1, Ne.symm e], h2⟩
theorem mask_len : ∀ (M : List Nat) (ρ : Env), (mask M ρ).length = ρ.length
  | [], ρ => rfl
  | j :: M, ρ => by
    show (mask M (ρ.set j none)).length = _
    rw [mask_len M, List.length_set]
/-- Hj is Hi without lists -/
structure Down (cl : Bool) (Hi Hj : Hp) : Prop where
  sub : Ex Hj Hi
  same : cl = true → Hj = Hi
  keep : ExN Hi Hj
theorem Rep.down {K : PySem.W.Frag} {cl : Bool} {Hi Hj : Hp} {d : D} {v : V} (h : Down cl Hi Hj) (l : (cl || d.lf) = true) (r : Rep K Hi d v) : Rep K Hj d v := by
  cases cl with
  | true => rw [h.same rfl]; exact r
  | false => exact r.drop h.keep (by simpa using l)
theorem Reps.down {K : PySem.W.Frag} {cl : Bool} {Hi Hj : Hp} {d : List D} {v : List V} (h : Down cl Hi Hj) (l : (cl || D.lfs d) = true) (r : Reps K Hi d v) : Reps K Hj d v := by
  cases cl with
  | true => rw [h.same rfl]; exact r
  | false => exact r.drop h.keep (by simpa using l)
section
variable {K : PySem.W.Frag} {mg : Str → Option Value} {M : List Nat} {Hs0 H0 Hs H Hi H' : Hp} {ρ ρ' : Env} {σ : L2.St} {cl : Bool}
theorem SInv.step (I : SInv K M Hs0 H0 ρ Hs σ H) (l : Le Hs H Hi H') : SInv K M Hs0 H0 ρ Hi σ H' := by
  refine ⟨I.le.trans l, I.len, fun i d hi q => ?_, fun i d hi q => ?_, I.inj⟩
  · obtain ⟨v, a, b⟩ := I.sl i d hi q
    exact ⟨v, a, b.mono l.old⟩
  · obtain ⟨p, xs, vs, e, a, b, c, f, g⟩ := I.own i d hi q
    refine ⟨p, xs, vs, e, a, ?_, c, l.ex _ _ f, g.mono l.old⟩
    cases z : Hi p with
    | none => rfl
    | some o =>
      rcases l.new p o z with w | w
      · rw [b] at w; cases w
      · rw [f] at w; cases w
/-- the addresses of the lists that are the def's own -/
def Own (M : List Nat) (ρ : Env) (σ : L2.St) (p : Addr) : Prop := ∃ i d, i ∈ M ∧ ρ[i]? = some (some d) ∧ σ[i]? = some (some (.ref p))
open Classical in
theorem SInv.enter (cl : Bool) (I : SInv K M Hs0 H0 ρ Hs σ H) : ∃ Hb, Ex Hb H ∧ ERel K Hb (view M cl ρ) σ ∧ Le Hs0 H0 Hb H ∧
    ∀ Hi H', Le Hb H Hi H' → ∃ Hj, SInv K M Hs0 H0 ρ Hj σ H' ∧ Down cl Hi Hj := by
  cases cl with
  | true =>
    refine ⟨Hs, I.le.sub, ⟨by show (mask M ρ).length ≤ _; rw [mask_len]; exact I.len, fun i d q => ?_⟩, I.le, fun Hi H' l => ⟨Hi, I.step l, Ex.refl _, fun _ => rfl, fun a o h _ => h⟩⟩
    obtain ⟨h1, h2⟩ := mask_get M ρ i d q
    exact I.sl i d h1 h2
  | false =>
    have own : ∀ p, Own M ρ σ p → Hs p = none ∧ H0 p = none ∧ ∃ vs, H p = some (.lst vs) := fun p ⟨i, d, h1, h2, h3⟩ => by
      obtain ⟨p', xs, vs, e, a, b, c, f, g⟩ := I.own i d h1 h2
      rw [h3] at a
      cases a
      exact ⟨b, c, vs, f⟩
    let Hb : Hp := fun a => if Own M ρ σ a then H a else Hs a
    have hb1 : ∀ a, Own M ρ σ a → Hb a = H a := fun a h => if_pos h
    have hb2 : ∀ a, ¬ Own M ρ σ a → Hb a = Hs a := fun a h => if_neg h
    have exb : Ex Hb H := fun a o h => by
      by_cases z : Own M ρ σ a
      · rw [hb1 a z] at h; exact h
      · rw [hb2 a z] at h; exact I.le.sub a o h
    have exs : Ex Hs Hb := fun a o h => by
      by_cases z : Own M ρ σ a
      · rw [(own a z).1] at h; cases h
      · rw [hb2 a z]; exact h
    refine ⟨Hb, exb, ⟨I.len, fun i d q => ?_⟩, ⟨I.le.old.trans exs, I.le.ex, exb, fun a o h => ?_⟩, fun Hi H' l => ?_⟩
    · have q : ρ[i]? = some (some d) := q
      by_cases hi : i ∈ M
      · obtain ⟨p, xs, vs, e, a, b, c, f, g⟩ := I.own i d hi q
        subst e
        exact ⟨_, a, .lst (by rw [hb1 p ⟨i, _, hi, q, a⟩]; exact f) (g.mono exs)⟩
      · obtain ⟨v, a, b⟩ := I.sl i d hi q
        exact ⟨v, a, b.mono exs⟩
    · by_cases z : Own M ρ σ a
      · exact .inr (own a z).2.1
      · rw [hb2 a z] at h
        exact I.le.new a o h
    · let Hj : Hp := fun a => if Own M ρ σ a then none else Hi a
      have hj1 : ∀ a, Own M ρ σ a → Hj a = none := fun a h => if_pos h
      have hj2 : ∀ a, ¬ Own M ρ σ a → Hj a = Hi a := fun a h => if_neg h
      have lj : Le Hs H Hj H' := by
        refine ⟨fun a o h => ?_, l.ex, fun a o h => ?_, fun a o h => ?_⟩
        · have z : ¬ Own M ρ σ a := fun z => by rw [(own a z).1] at h; cases h
          rw [hj2 a z]
          exact l.old a o (exs a o h)
        · by_cases z : Own M ρ σ a
          · rw [hj1 a z] at h; cases h
          · rw [hj2 a z] at h; exact l.sub a o h
        · by_cases z : Own M ρ σ a
          · rw [hj1 a z] at h; cases h
          · rw [hj2 a z] at h
            rcases l.new a o h with w | w
            · rw [hb2 a z] at w; exact .inl w
            · exact .inr w
      refine ⟨Hj, I.step lj, fun a o h => ?_, fun h => (nomatch h), fun a o h hn => ?_⟩
      · by_cases z : Own M ρ σ a
        · rw [hj1 a z] at h; cases h
        · rw [hj2 a z] at h; exact h
      · have z : ¬ Own M ρ σ a := fun z => by
          obtain ⟨_, _, vs, e⟩ := own a z
          have e2 := l.sub a o h
          rw [l.ex a _ e] at e2
          cases e2
          exact hn vs rfl
        rw [hj2 a z]
        exact h
theorem SInv.set {i : Nat} {d : D} {v : V} (I : SInv K M Hs0 H0 ρ Hs σ H) (hi : i ∉ M) (r : Rep K Hs d v) : SInv K M Hs0 H0 (ρ.set i (some d)) Hs (σ.set i (some v)) H := by
  have ne : ∀ j, j ∈ M → i ≠ j := fun j h e => hi (e ▸ h)
  refine ⟨I.le, by simpa using I.len, fun j e hj q => ?_, fun j e hj q => ?_, fun j k p d e hj hk q1 q2 q3 q4 => ?_⟩
  · by_cases h : i = j
    · subst h
      have hl : i < ρ.length := by
        have := (List.getElem?_eq_some_iff.mp q).1
        simpa using this
      rw [List.getElem?_set_self hl] at q
      cases q
      exact ⟨v, List.getElem?_set_self (Nat.lt_of_lt_of_le hl I.len), r⟩
    · rw [List.getElem?_set_ne h] at q ⊢
      exact I.sl j e hj q
  · rw [List.getElem?_set_ne (ne j hj)] at q ⊢
    exact I.own j e hj q
  · rw [List.getElem?_set_ne (ne j hj)] at q1 q3
    rw [List.getElem?_set_ne (ne k hk)] at q2 q4
    exact I.inj j k p d e hj hk q1 q2 q3 q4
/-- an own list is laid anew -/
theorem SInv.setOwn {i : Nat} {xs : List D} {vs : List V} {p : Addr} (I : SInv K M Hs0 H0 ρ Hs σ H) (hi : i ∈ M) (h1 : Hs p = none) (h2 : H0 p = none) (h3 : H p = some (.lst vs)) (r : Reps K Hs xs vs)
    (h4 : ¬ Own M ρ σ p) : SInv K M Hs0 H0 (ρ.set i (some (.lst xs))) Hs (σ.set i (some (.ref p))) H := by
  have ne : ∀ j, j ∉ M → i ≠ j := fun j h e => h (e ▸ hi)
  have fst : ∀ j e, (ρ.set i (some (.lst xs)))[j]? = some (some e) → j = i → e = .lst xs ∧ i < ρ.length := fun j e q h => by
    subst h
    have hl : j < ρ.length := by
      have := (List.getElem?_eq_some_iff.mp q).1
      simpa using this
    rw [List.getElem?_set_self hl] at q
    cases q
    exact ⟨rfl, hl⟩
  refine ⟨I.le, by simpa using I.len, fun j e hj q => ?_, fun j e hj q => ?_, fun j k p' d e hj hk q1 q2 q3 q4 => ?_⟩
  · rw [List.getElem?_set_ne (ne j hj)] at q ⊢
    exact I.sl j e hj q
  · by_cases h : i = j
    · subst h
      obtain ⟨rfl, hl⟩ := fst i e q rfl
      exact ⟨p, xs, vs, rfl, List.getElem?_set_self (Nat.lt_of_lt_of_le hl I.len), h1, h2, h3, r⟩
    · rw [List.getElem?_set_ne h] at q ⊢
      exact I.own j e hj q
  · by_cases a : i = j
    · by_cases b : i = k
      · exact a.symm.trans b
      · subst a
        obtain ⟨_, hl⟩ := fst i d q1 rfl
        rw [List.getElem?_set_self (Nat.lt_of_lt_of_le hl I.len)] at q3
        cases q3
        rw [List.getElem?_set_ne b] at q2 q4
        exact absurd ⟨k, e, hk, q2, q4⟩ h4
    · by_cases b : i = k
      · subst b
        obtain ⟨_, hl⟩ := fst i e q2 rfl
        rw [List.getElem?_set_self (Nat.lt_of_lt_of_le hl I.len)] at q4
        cases q4
        rw [List.getElem?_set_ne a] at q1 q3
        exact absurd ⟨j, d, hj, q1, q3⟩ h4
      · rw [List.getElem?_set_ne a] at q1 q3
        rw [List.getElem?_set_ne b] at q2 q4
        exact I.inj j k p' d e hj hk q1 q2 q3 q4
/-- an own list is changed -/
theorem SInv.change {i : Nat} {xs ys : List D} {ws : List V} {p : Addr} (I : SInv K M Hs0 H0 ρ Hs σ H) (hi : i ∈ M) (q0 : ρ[i]? = some (some (.lst xs))) (q1 : σ[i]? = some (some (.ref p))) (r : Reps K Hs ys ws) :
    SInv K M Hs0 H0 (ρ.set i (some (.lst ys))) Hs σ (upd H p (.lst ws)) := by
  obtain ⟨p', xs', vs, e, a, b, c, f, g⟩ := I.own i _ hi q0
  rw [q1] at a
  cases a
  have ne : ∀ j, j ∉ M → i ≠ j := fun j h e => h (e ▸ hi)
  have dfn : ∀ j e, (ρ.set i (some (.lst ys)))[j]? = some (some e) → ∃ e', ρ[j]? = some (some e') := fun j e q => by
    by_cases h : i = j
    · subst h; exact ⟨_, q0⟩
    · rw [List.getElem?_set_ne h] at q; exact ⟨e, q⟩
  refine ⟨⟨I.le.old, fun a o h => ?_, fun a o h => ?_, I.le.new⟩, by simpa using I.len, fun j e hj q => ?_, fun j e hj q => ?_, fun j k p' d e hj hk q1 q2 q3 q4 => ?_⟩
  · rw [upd_ne (ne_of_none h c)]; exact I.le.ex a o h
  · rw [upd_ne (ne_of_none h b)]; exact I.le.sub a o h
  · rw [List.getElem?_set_ne (ne j hj)] at q
    exact I.sl j e hj q
  · by_cases h : i = j
    · subst h
      have hl : i < ρ.length := (List.getElem?_eq_some_iff.mp q0).1
      rw [List.getElem?_set_self hl] at q
      cases q
      exact ⟨p, ys, ws, rfl, q1, b, c, upd_same, r⟩
    · rw [List.getElem?_set_ne h] at q
      obtain ⟨p2, xs2, vs2, e2, a2, b2, c2, f2, g2⟩ := I.own j e hj q
      refine ⟨p2, xs2, vs2, e2, a2, b2, c2, ?_, g2⟩
      rw [upd_ne]
      · exact f2
      · intro z
        subst z
        exact h (I.inj i j _ _ _ hi hj q0 q q1 a2)
  · obtain ⟨d', z1⟩ := dfn j d q1
    obtain ⟨e', z2⟩ := dfn k e q2
    exact I.inj j k p' d' e' hj hk z1 z2 q3 q4
/-- the base, later -/
theorem SInv.base {Hs1 H1 : Hp} (l : Le Hs0 H0 Hs1 H1) (I : SInv K M Hs1 H0 ρ Hs σ H) : SInv K M Hs0 H0 ρ Hs σ H :=
  ⟨⟨l.old.trans I.le.old, I.le.ex, I.le.sub, fun a o h => (I.le.new a o h).elim (fun q => l.new a o q) .inr⟩, I.len, I.sl, I.own, I.inj⟩
theorem SInv.rebase (I : SInv K M Hs0 H0 ρ Hs σ H) : SInv K M Hs H0 ρ Hs σ H :=
  ⟨⟨Ex.refl _, I.le.ex, I.le.sub, fun _ _ h => .inl h⟩, I.len, I.sl, I.own, I.inj⟩

/-! ## what is wanted behind a statement -/
def PstS (K : PySem.W.Frag) (mg : Str → Option Value) (M : List Nat) (Hs0 H0 : Hp) (r : R Fl) (Dd : Ends) (W : WX) : Prop := match r with
  | .ok (.nx ρ) => ∀ Hs σ H, SInv K M Hs0 H0 ρ Hs σ H → Dd.nx σ H
  | .ok (.bk ρ) => ∀ Hs σ H, SInv K M Hs0 H0 ρ Hs σ H → Dd.bk σ H
  | .ok (.ct ρ) => ∀ Hs σ H, SInv K M Hs0 H0 ρ Hs σ H → Dd.ct σ H
  | .ok (.rt d) => ∀ v Hi H', Le Hs0 H0 Hi H' → Rep K Hi d v → Dd.rt v H'
  | .ok (.xc x ρ) => ∀ c d Hs σ H, SInv K M Hs0 H0 ρ Hs σ H → XRep K mg Hs H x c d → W c d σ H
  | _ => False
def tS (K : PySem.W.Frag) (mg : Str → Option Value) (W : WX) (M : List Nat) (Hs0 H0 : Hp) (f : Env → R Fl) : TS := fun Dd σ H =>
  ∃ (ρ : Env) (Hs : Hp), SInv K M Hs0 H0 ρ Hs σ H ∧ PstS K mg M Hs0 H0 (f ρ) Dd W
theorem PstS.base {Hs1 H1 : Hp} {r : R Fl} {Dd : Ends} {W : WX} (l : Le Hs0 H0 Hs1 H1) (h : PstS K mg M Hs0 H0 r Dd W) : PstS K mg M Hs1 H0 r Dd W := by
  cases r with
  | ok f =>
    cases f with
    | nx ρ => exact fun Hs σ H I => h Hs σ H (I.base l)
    | bk ρ => exact fun Hs σ H I => h Hs σ H (I.base l)
    | ct ρ => exact fun Hs σ H I => h Hs σ H (I.base l)
    | rt d => exact fun v Hi H' q => h v Hi H' ⟨l.old.trans q.old, q.ex, q.sub, fun a o z => (q.new a o z).elim (fun w => l.new a o w) .inr⟩
    | xc x ρ => exact fun c d Hs σ H I => h c d Hs σ H (I.base l)
  | exc x => exact h
  | stuck => exact h
theorem XRep.down {x : XD} {c : Value} {d : Option Addr} {Hi Hj H : Hp} (h : Down cl Hi Hj) (l : (cl || x.lf) = true) (r : XRep K mg Hi H x c d) : XRep K mg Hj H x c d := by
  obtain ⟨cls, fld⟩ := x
  refine ⟨r.1, ?_⟩
  cases fld with
  | none => exact r.2
  | some f =>
    obtain ⟨dd, v, e1, e2, e3⟩ := r.2
    exact ⟨dd, v, e1, e2, e3.down h l⟩
/-- an expression within a statement -/
theorem use_P {α β : Type} {Rel : Hp → α → β → Prop} {l : α → Bool} {r : R α} {k : α → R Fl} {Dd : Ends} {W : WX} {Q : β → Hp → Prop} {Hb : Hp}
    (hb : ∀ Hi H', Le Hb H Hi H' → ∃ Hj, SInv K M Hs0 H0 ρ Hj σ H' ∧ Down cl Hi Hj)
    (mv : ∀ Hi Hj a b, Down cl Hi Hj → (cl || l a) = true → Rel Hi a b → Rel Hj a b)
    (h : PstS K mg M Hs0 H0 (lift cl l r ρ k) Dd W) (q : ∀ a b Hj H', r = .ok a → SInv K M Hs0 H0 ρ Hj σ H' → Rel Hj a b → PstS K mg M Hs0 H0 (k a) Dd W → Q b H') : Pst Rel K mg Hb H r Q (fun c d H' => W c d σ H') := by
  cases r with
  | ok a =>
    intro v Hi H' le ra
    have h : PstS K mg M Hs0 H0 (if cl || l a then k a else .stuck) Dd W := h
    by_cases z : (cl || l a) = true
    · rw [if_pos z] at h
      obtain ⟨Hj, J, dn⟩ := hb Hi H' le
      exact q a v Hj H' rfl J (mv Hi Hj a v dn z ra) h
    · rw [if_neg z] at h
      exact h.elim
  | exc x =>
    intro c d Hi H' le rx
    have h : PstS K mg M Hs0 H0 (if cl || x.lf then .ok (.xc x ρ) else .stuck) Dd W := h
    by_cases z : (cl || x.lf) = true
    · rw [if_pos z] at h
      obtain ⟨Hj, J, dn⟩ := hb Hi H' le
      exact h c d Hj σ H' J (rx.down dn z)
    · rw [if_neg z] at h
      exact h.elim
  | stuck => exact h.elim
/-- tD, tDB: the same, entered -/
theorem use_D {f : Env → R D} {k : D → R Fl} {Dd : Ends} {W : WX} {Q : VK} (I : SInv K M Hs0 H0 ρ Hs σ H) (h : PstS K mg M Hs0 H0 (lift cl D.lf (f (view M cl ρ)) ρ k) Dd W)
    (q : ∀ d v Hj H', SInv K M Hs0 H0 ρ Hj σ H' → Rep K Hj d v → PstS K mg M Hs0 H0 (k d) Dd W → Q v H') : tD K mg W f σ H Q := by
  obtain ⟨Hb, e1, e2, _, e3⟩ := I.enter cl
  exact ⟨_, Hb, e1, e2, use_P e3 (fun _ _ _ _ dn z r => r.down dn z) h fun a b Hj H' _ => q a b Hj H'⟩
theorem use_B {f : Env → R Bool} {k : Bool → R Fl} {Dd : Ends} {W : WX} {Q : Bool → Hp → Prop} (I : SInv K M Hs0 H0 ρ Hs σ H) (h : PstS K mg M Hs0 H0 (lift false (fun _ => true) (f (view M false ρ)) ρ k) Dd W)
    (q : ∀ b Hj H', SInv K M Hs0 H0 ρ Hj σ H' → PstS K mg M Hs0 H0 (k b) Dd W → Q b H') : tDB K mg W f σ H Q := by
  obtain ⟨Hb, e1, e2, _, e3⟩ := I.enter false
  refine ⟨_, Hb, e1, e2, use_P e3 (fun _ _ _ _ dn z r => r) h fun a b Hj H' _ J e hp => ?_⟩
  have e : a = b := e
  subst e
  exact q a Hj H' J hp
/-- a value dropped, or returned -/
theorem use_R {f : Env → R D} {k : D → R Fl} {Dd : Ends} {W : WX} {Q : VK} (I : SInv K M Hs0 H0 ρ Hs σ H) (h : PstS K mg M Hs0 H0 (lift false (fun _ => true) (f (view M false ρ)) ρ k) Dd W)
    (q : ∀ d v Hi Hj H', SInv K M Hs0 H0 ρ Hj σ H' → Le Hs0 H0 Hi H' → Rep K Hi d v → PstS K mg M Hs0 H0 (k d) Dd W → Q v H') : tD K mg W f σ H Q := by
  obtain ⟨Hb, e1, e2, e4, e3⟩ := I.enter false
  refine ⟨_, Hb, e1, e2, ?_⟩
  cases z : f (view M false ρ) with
  | ok d =>
    rw [z] at h
    intro v Hi H' le r
    obtain ⟨Hj, J, _⟩ := e3 Hi H' le
    exact q d v Hi Hj H' J (e4.trans le) r h
  | exc x =>
    have := use_P (Rel := Rep K) (Q := Q) e3 (fun _ _ _ _ _ w r => r.down (by assumption) (by simpa using w)) (l := D.lf) (r := (.exc x)) (k := k) (Dd := Dd) (W := W) (mg := mg) (by rw [z] at h; exact h) (fun _ _ _ _ e => by cases e)
    exact this
  | stuck => rw [z] at h; exact h.elim
end
end Py

namespace Py
open PySem PySem.Spec PyProof.Rows L2

/-! ## looking at the row's statements -/
def sAsg : Stmt → Option (Expr × Expr × Pos)
  | .Assign [t] e p => some (t, e, p)
  | _ => none
def sExp : Stmt → Option (Expr × Pos)
  | .Expr e p => some (e, p)
  | _ => none
def sIf : Stmt → Option (Expr × List Stmt × List Stmt)
  | .If c a b _ => some (c, a, b)
  | _ => none
def sWhl : Stmt → Option (Expr × List Stmt)
  | .While c b [] _ => some (c, b)
  | _ => none
def sFor : Stmt → Option (Expr × Expr × List Stmt)
  | .For t i b [] _ => some (t, i, b)
  | _ => none
def sRet : Stmt → Option (Option Expr)
  | .Return e _ => some e
  | _ => none
def sPass : Stmt → Bool
  | .Pass _ => true
  | _ => false
def sBrk : Stmt → Bool
  | .Break _ => true
  | _ => false
def sCnt : Stmt → Bool
  | .Continue _ => true
  | _ => false
def xMeth : Expr → Option (Expr × Str × List Expr × Bool)
  | .Call (.Attribute o m ap) as [] cp => some (o, m, as, ap.endLine == cp.line)
  | _ => none
theorem sAsg_s {s : Stmt} {t e : Expr} {p : Pos} (h : sAsg s = some (t, e, p)) : s = .Assign [t] e p := by
  unfold sAsg at h; split at h <;> simp at h; obtain ⟨rfl, rfl, rfl⟩ := h; rfl
theorem sExp_s {s : Stmt} {e : Expr} {p : Pos} (h : sExp s = some (e, p)) : s = .Expr e p := by
  unfold sExp at h; split at h <;> simp at h; obtain ⟨rfl, rfl⟩ := h; rfl
theorem sIf_s {s : Stmt} {c : Expr} {a b : List Stmt} (h : sIf s = some (c, a, b)) : ∃ p, s = .If c a b p := by
  unfold sIf at h; split at h <;> simp at h; obtain ⟨rfl, rfl, rfl⟩ := h; exact ⟨_, rfl⟩
theorem sWhl_s {s : Stmt} {c : Expr} {b : List Stmt} (h : sWhl s = some (c, b)) : ∃ p, s = .While c b [] p := by
  unfold sWhl at h; split at h <;> simp at h; obtain ⟨rfl, rfl⟩ := h; exact ⟨_, rfl⟩
theorem sFor_s {s : Stmt} {t i : Expr} {b : List Stmt} (h : sFor s = some (t, i, b)) : ∃ p, s = .For t i b [] p := by
  unfold sFor at h; split at h <;> simp at h; obtain ⟨rfl, rfl, rfl⟩ := h; exact ⟨_, rfl⟩
theorem sRet_s {s : Stmt} {e : Option Expr} (h : sRet s = some e) : ∃ p, s = .Return e p := by
  unfold sRet at h; split at h <;> simp at h; subst h; exact ⟨_, rfl⟩
theorem sPass_s {s : Stmt} (h : sPass s = true) : ∃ p, s = .Pass p := by
  unfold sPass at h; split at h <;> simp at h; exact ⟨_, rfl⟩
theorem sBrk_s {s : Stmt} (h : sBrk s = true) : ∃ p, s = .Break p := by
  unfold sBrk at h; split at h <;> simp at h; exact ⟨_, rfl⟩
theorem sCnt_s {s : Stmt} (h : sCnt s = true) : ∃ p, s = .Continue p := by
  unfold sCnt at h; split at h <;> simp at h; exact ⟨_, rfl⟩
theorem xMeth_s {e o : Expr} {m : Str} {as : List Expr} {b : Bool} (h : xMeth e = some (o, m, as, b)) : ∃ ap cp, e = .Call (.Attribute o m ap) as [] cp ∧ b = (ap.endLine == cp.line) := by
  unfold xMeth at h; split at h <;> simp at h; obtain ⟨rfl, rfl, rfl, rfl⟩ := h; exact ⟨_, _, rfl, rfl⟩
/-- no comprehension, no tuple display -/
def noComp : Expr → Bool
  | .ListComp _ _ _ _ => false
  | .SetComp _ _ _ _ => false
  | .DictComp _ _ _ _ _ => false
  | _ => true
def noTup : Expr → Bool
  | .Tuple _ _ _ => false
  | _ => true
theorem sw_no {e : Expr} (h : noComp e = true) (t : Option Expr) (l : Nat) (env : PySem.Env) : swapsWith e t l env = pure false := by
  cases e <;> first | rfl | cases h
theorem sw_tup {e : Expr} {es : List Expr} {k : Nat} {p : Pos} (l : Nat) (env : PySem.Env) : swapsWith e (some (.Tuple es k p)) l env = pure false := by
  cases e <;> rfl
theorem sw_sub {e a b : Expr} {p : Pos} (l : Nat) (env : PySem.Env) : swapsWith e (some (.Subscript a b p)) l env = pure false := by
  cases e <;> rfl
theorem swst_no {t e : Expr} (h : noTup e = true) (env : PySem.Env) : swappedStores [t] e env = pure none := by
  cases e <;> first | (cases t <;> rfl) | cases h
theorem swst_sub {e a b : Expr} {p : Pos} (env : PySem.Env) : swappedStores [.Subscript a b p] e env = pure none := by
  cases e <;> rfl
/-- a comprehension stored at once -/
def swOk (sc : Scope) (t e : Expr) : Bool := match t, e with
  | .Name y py, .ListComp _ _ raw pos => decide (sc.names.lookup y = some .local) && (py.line == pos.line) && !(raw.names.any fun (n, k) => n == y && (k == .local || k == .cell))
  | _, _ => noComp e
def chkO (C : Cfg) (sc : Scope) : O → Expr → Bool
  | .disp es, e => match xLst e with
    | some xs => decide (es.len ≤ 1000) && chks C sc es xs
    | none => false
  | .listOf a, e => match xCall e with
    | some (x, xs) => decide (x = ("list" : Str)) && C.bl.contains x && glOk sc x && (match xs with
      | [y] => plain y && chk C sc a y
      | _ => false)
    | none => false
  | .add a b, e => match xBin e with
    | some (x, p, y) => decide (p = .Add) && chk C sc a x && chk C sc b y
    | none => false
/-- x.m(e) -/
def chkM (C : Cfg) (sc : Scope) (m : Str) (i : Nat) (a : E) (e : Expr) : Bool := match xMeth e with
  | some (o, n, xs, l) => decide (n = m) && l && (match xName o with
    | some x => decide (C.N[i]? = some x) && visOk sc x
    | none => false) && (match xs with
    | [y] => plain y && chk C sc a y
    | _ => false)
  | none => false
mutual
def chkS (C : Cfg) (sc : Scope) (M : List Nat) : S → Stmt → Bool
  | .asg _ t a, s => match sAsg s with
    | some (tg, e, _) => chkTgt C.N sc sc t tg && chk C sc a e && swOk sc tg e && (match t with | .nm _ => true | .tp _ => noTup e) && (t.ixs.all fun i => !M.contains i)
    | none => false
  | .own _ i o, s => match sAsg s with
    | some (tg, e, _) => chkTgt C.N sc sc (.nm i) tg && chkO C sc o e && noComp e && M.contains i
    | none => false
  | .app _ i a, s => match sExp s with
    | some (e, _) => M.contains i && chkM C sc "append" i a e
    | none => false
  | .ext _ i a, s => match sExp s with
    | some (e, _) => M.contains i && chkM C sc "extend" i a e
    | none => false
  | .put _ i j a, s => match sAsg s with
    | some (tg, e, _) => M.contains i && chk C sc a e && (match xSub tg with
      | some (o, k) => plain k && (match xName o with
        | some x => decide (C.N[i]? = some x) && visOk sc x
        | none => false) && chk C sc j k
      | none => false)
    | none => false
  | .ex a, s => match sExp s with
    | some (e, _) => chk C sc a e && noComp e
    | none => false
  | .ite c a b, s => match sIf s with
    | some (e, p, q) => chk C sc c e && chkSs C sc M a p && chkSs C sc M b q
    | none => false
  | .whl _ c b, s => match sWhl s with
    | some (e, p) => chk C sc c e && chkSs C sc M b p
    | none => false
  | .for_ _ t it b, s => match sFor s with
    | some (tg, e, p) => chkTgt C.N sc sc t tg && chkIt C sc it e && tgtOk it t && chkSs C sc M b p && (t.ixs.all fun i => !M.contains i)
    | none => false
  | .ret a, s => match sRet s with
    | some (some e) => chk C sc a e
    | _ => false
  | .retN, s => match sRet s with
    | some none => true
    | _ => false
  | .pass, s => sPass s
  | .brk, s => sBrk s
  | .cont, s => sCnt s
def chkSs (C : Cfg) (sc : Scope) (M : List Nat) : Ss → List Stmt → Bool
  | .nil, ss => ss.isEmpty
  | .cons s ss, sts => match sts with
    | st :: sts => chkS C sc M s st && chkSs C sc M ss sts
    | [] => false
end

/-! ## soundness -/
structure SX (X : Cx) : Prop where
  fn : ∀ x, X.fn x = true
  pas : PassesOwn (model X.prog X.w) X.A X.env X.xe
  kind : X.env.scope.kind = .function
theorem PS.imp {X : Cx} {st : Stmt} {t u : TS} (h : PS X st t) (f : ∀ Dd σ H, u Dd σ H → t Dd σ H) : PS X st u := ⟨fun pins s σ H Dd I q => h.run pins s σ H Dd I (f Dd σ H q)⟩
theorem PSs.imp {X : Cx} {st : List Stmt} {t u : TS} (h : PSs X st t) (f : ∀ Dd σ H, u Dd σ H → t Dd σ H) : PSs X st u := ⟨fun pins s σ H Dd I q => h.run pins s σ H Dd I (f Dd σ H q)⟩
section
variable {C : Cfg} {cs : List Cal} {kk : Nat} {M : List Nat}
def SOk (C : Cfg) (cs : List Cal) (kk : Nat) (M : List Nat) (a : S) : Prop := ∀ (X : Cx) (W : WX) (st : Stmt), XOk X C cs kk → SX X → Takes X W → chkS C X.env.scope M a st = true →
  ∀ Hs0 H0, PS X st (tS X.K X.mg W M Hs0 H0 (exec (fnsOf cs) M a))
def SsOk (C : Cfg) (cs : List Cal) (kk : Nat) (M : List Nat) (a : Ss) : Prop := ∀ (X : Cx) (W : WX) (sts : List Stmt), XOk X C cs kk → SX X → Takes X W → chkSs C X.env.scope M a sts = true →
  ∀ Hs0 H0, PSs X sts (tS X.K X.mg W M Hs0 H0 (execs (fnsOf cs) M a))
theorem sinv_names {K : PySem.W.Frag} {Hs0 H0 Hs H : Hp} {ρ' : Env} : ∀ {is : List Nat} {ds : List D} {vs : List V} {ρ : Env} {σ : L2.St} {Q : L2.St → Hp → Prop}, setAll is ds ρ = some ρ' → Reps K Hs ds vs → SInv K M Hs0 H0 ρ Hs σ H → (∀ i ∈ is, i ∉ M) →
    (∀ σ', SInv K M Hs0 H0 ρ' Hs σ' H → Q σ' H) → gNames is vs σ H Q
  | [], [], _, ρ, σ, Q, h, .nil, I, _, k => by
    have e : ρ = ρ' := Option.some.inj h
    subst e
    exact ⟨rfl, k σ I⟩
  | i :: is, d :: ds, _, ρ, σ, Q, h, .cons (v := v) (vs := vs) r t, I, hi, k => by
    refine ⟨v, vs, rfl, ?_⟩
    show gNames is vs (σ.set i (some v)) H Q
    exact sinv_names (ρ := ρ.set i (some d)) h t (I.set (hi i (by simp)) r) (fun j hj => hi j (by simp [hj])) k
  | [], _ :: _, _, _, _, _, h, _, _, _, _ => by cases h
  | _ :: _, [], _, _, _, _, h, _, _, _, _ => by cases h
theorem sinv_tgt {K : PySem.W.Frag} {Hs0 H0 Hs H : Hp} {ρ ρ' : Env} {t : Tgt} {d : D} {v : V} {σ : L2.St} {Q : L2.St → Hp → Prop} (h : t.bind d ρ = .ok ρ') (r : Rep K Hs d v) (I : SInv K M Hs0 H0 ρ Hs σ H) (hi : ∀ i ∈ t.ixs, i ∉ M)
    (k : ∀ σ', SInv K M Hs0 H0 ρ' Hs σ' H → Q σ' H) : gOf K t v σ H Q := by
  cases t with
  | nm i =>
    have e : ρ.set i (some d) = ρ' := R.ok.inj h
    subst e
    exact k _ (I.set (hi i (by simp [Tgt.ixs])) r)
  | tp is =>
    cases d with
    | tup ds =>
      have h : (match setAll is ds ρ with | some ρ' => R.ok ρ' | none => .stuck) = .ok ρ' := h
      cases q : setAll is ds ρ with
      | none => rw [q] at h; cases h
      | some ρ2 =>
        rw [q] at h
        cases h
        obtain ⟨p, vs, rfl, e1, r1⟩ := r.tupI
        exact ⟨p, vs, rfl, SqT.of (I.le.sub _ _ e1), by rw [← r1.length, (setAll_len q).1], sinv_names q r1 I hi k⟩
    | _ => cases h
theorem use_T {K : PySem.W.Frag} {mg : Str → Option Value} {Hs0 H0 Hs H : Hp} {ρ : Env} {t : Tgt} {d : D} {v : V} {σ : L2.St} {k : Env → R Fl} {Dd : Ends} {W : WX} {Q : L2.St → Hp → Prop} (h : PstS K mg M Hs0 H0 (bindT t d ρ k) Dd W) (r : Rep K Hs d v) (I : SInv K M Hs0 H0 ρ Hs σ H)
    (hi : ∀ i ∈ t.ixs, i ∉ M) (q : ∀ ρ' σ', SInv K M Hs0 H0 ρ' Hs σ' H → PstS K mg M Hs0 H0 (k ρ') Dd W → Q σ' H) : gOf K t v σ H Q := by
  unfold bindT at h
  cases z : t.bind d ρ with
  | ok ρ' =>
    rw [z] at h
    exact sinv_tgt z r I hi fun σ' J => q ρ' σ' J h
  | exc x => rw [z] at h; exact h.elim
  | stuck => rw [z] at h; exact h.elim
theorem allM {M is : List Nat} (h : (is.all fun i => !M.contains i) = true) : ∀ i ∈ is, i ∉ M := fun i hi => by
  have := List.all_eq_true.mp h i hi
  simpa using this
theorem tgt_stores {N : List Str} {sc raw : Scope} {t : Tgt} {e : Expr} (h : chkTgt N sc raw t e = true) (env : PySem.Env) : (assignEach [e] env).map (·.2) = [assign e env] := by
  cases t with
  | nm i =>
    have h : (match xName e with | some x => decide (N[i]? = some x) && locOk sc raw x | none => false) = true := h
    cases q : xName e with
    | none => rw [q] at h; cases h
    | some x =>
      obtain ⟨p, rfl⟩ := xName_s q
      rfl
  | tp is =>
    have h : (match xTup e with | some es => chkNames N sc raw is es | none => false) = true := h
    cases q : xTup e with
    | none => rw [q] at h; cases h
    | some x =>
      obtain ⟨k, p, rfl⟩ := xTup_s q
      rfl
theorem ok_asg (cl : Bool) (t : Tgt) (a : E) : SOk C cs kk M (.asg cl t a) := fun X W st hX sx tk h Hs0 H0 => by
  rw [chkS] at h
  cases q : sAsg st with
  | none => rw [q] at h; cases h
  | some u =>
    obtain ⟨tg, e, p⟩ := u
    rw [q] at h
    have hst := sAsg_s q
    subst hst
    simp only [Bool.and_eq_true] at h
    obtain ⟨⟨⟨⟨h1, h2⟩, h3⟩, h4⟩, h5⟩ := h
    have hi := allM h5
    have he := (ok_E a X W e hX tk h2).1
    have hg : PG X tg (gOf X.K t) := pg_of hX.calm hX.names hX.nd rfl (fun x _ => sx.fn x) h1
    have go : ∀ (u : TE), (∀ σ H Q, tD X.K X.mg W (ev (fnsOf cs) a) σ H Q → u σ H Q) → ∀ Dd σ H, tS X.K X.mg W M Hs0 H0 (exec (fnsOf cs) M (.asg cl t a)) Dd σ H → tAsg u (gOf X.K t) Dd σ H := by
      intro u hu Dd σ H ⟨ρ, Hs, I, hp⟩
      rw [exec] at hp
      exact hu _ _ _ (use_D I hp fun d v Hj H' J r hp => use_T hp r J hi fun ρ' σ' J' hp => hp Hj σ' H' J')
    by_cases hc : noComp e = true
    · have hw : swappedStores [tg] e X.env = pure none := by
        cases t with
        | tp is => exact swst_no h4 X.env
        | nm i =>
          have h1 : (match xName tg with | some x => decide (C.N[i]? = some x) && locOk X.env.scope X.env.scope x | none => false) = true := h1
          cases z : xName tg with
          | none => rw [z] at h1; cases h1
          | some x =>
            obtain ⟨px, rfl⟩ := xName_s z
            cases e <;> rfl
      exact PS.imp (ps_asg he hg (sw_no hc _ _ _) hw (tgt_stores h1 X.env)) (go _ fun _ _ _ h => h)
    · cases e with
      | ListComp el gs raw pos =>
        cases tg with
        | Name y py =>
          have h3' : (decide (X.env.scope.names.lookup y = some .local) && (py.line == pos.line) && !(raw.names.any fun (n, k) => n == y && (k == .local || k == .cell))) = true := h3
          simp only [Bool.and_eq_true, decide_eq_true_eq, Bool.not_eq_true'] at h3'
          have hsw := sw_true (elt := el) (gs := gs) (l := p.line) sx.kind h3'.1.1 h3'.1.2 h3'.2
          cases t with
          | tp is => cases h1
          | nm i =>
            have h1 : (decide (C.N[i]? = some y) && locOk X.env.scope X.env.scope y) = true := h1
            simp only [Bool.and_eq_true, decide_eq_true_eq] at h1
            cases a with
            | lc t2 it ifs el2 =>
              rw [chk] at h2
              cases z : xLc (.ListComp el gs raw pos) with
              | none => rw [z] at h2; cases h2
              | some w =>
                obtain ⟨x, tg2, i2, fs, raw2⟩ := w
                rw [z] at h2
                obtain ⟨pos2, e0⟩ := xLc_s z
                cases e0
                simp only [Bool.and_eq_true, decide_eq_true_eq] at h2
                obtain ⟨⟨⟨⟨⟨⟨⟨c1, c2⟩, c3⟩, c4⟩, c5⟩, c6⟩, c7⟩, c8⟩ := h2
                obtain ⟨j1, j2⟩ := ok_It it X W tg2 i2 hX tk c2 fun a b z => by
                  subst z
                  cases t2 with
                  | nm i => cases c3
                  | tp is =>
                    have h4 : (match xTup tg2 with | some es => chkNames C.N (relS raw X.env.scope) raw is es | none => false) = true := c4
                    cases q3 : xTup tg2 with
                    | none => rw [q3] at h4; cases h4
                    | some ks =>
                      obtain ⟨k, p, rfl⟩ := xTup_s q3
                      exact ⟨_, _, _, rfl⟩
                refine PS.imp (ps_setLc (own := ownOf C.N t2) (g := gOf X.K t2) (tt := tDB X.K X.mg WN (evTests (fnsOf cs) ifs)) (te := tD X.K X.mg WN (ev (fnsOf cs) el2)) hX.calm (by rw [hX.names]; exact hX.nd) (show X.N[i]? = some y by rw [hX.names]; exact h1.1) h3'.1.1 hsw j1 (blkOk_by (by rw [hX.names]; exact c1)) (fun s H C' cl fp => ?_) (fun s H C' cl fp => ?_) (fun s H C' cl fp => ?_) (folded_ok j2)) (go _ fun σ H Q hh => ?_)
                · exact pg_of (X := X.blk s H raw (compEnvC raw cl C' X.env) fp) hX.calm (by exact hX.names) hX.nd rfl blk_fn c4
                · exact (ok_Es ifs).tests (X.blk s H raw (compEnvC raw cl C' X.env) fp) WN fs hX.blk takes0 c5
                · exact (ok_E el2 (X.blk s H raw (compEnvC raw cl C' X.env) fp) WN el hX.blk takes0 c6).1
                · rw [c7]
                  refine lc_imp (W := W) c8 ?_
                  obtain ⟨ρ, Hs, e1, e2, e3⟩ := hh
                  refine ⟨ρ, Hs, e1, e2, ?_⟩
                  rw [ev] at e3
                  exact e3
            | _ => simp [chk, xName, xConst, xBin, xUn, xCmp, xChain, xBool, xTup, xLst, xSub, xCall, xCallK] at h2
        | _ => cases h3
      | SetComp _ _ _ _ => cases tg <;> cases h3
      | DictComp _ _ _ _ _ => cases tg <;> cases h3
      | _ => exact absurd rfl hc
end
end Py

namespace Py
open PySem PySem.Spec PyProof.Rows L2
section
variable {C : Cfg} {cs : List Cal} {kk : Nat} {M : List Nat}
/-! ## own lists -/
section
variable {K : PySem.W.Frag} {mg : Str → Option Value} {Hs0 H0 Hs H : Hp} {ρ : Env} {σ : L2.St} {cl : Bool}
theorem use_PG {α β : Type} {Rel : Hp → α → β → Prop} {r : R α} {g : α → R D} {k : D → R Fl} {Dd : Ends} {W : WX} {Q : β → Hp → Prop} {Hb : Hp}
    (hb : ∀ Hi H', Le Hb H Hi H' → ∃ Hj, SInv K M Hs0 H0 ρ Hj σ H' ∧ Down cl Hi Hj)
    (h : PstS K mg M Hs0 H0 (lift cl D.lfItems (r >>= g) ρ k) Dd W) (q : ∀ a b Hi H', r = .ok a → Le Hb H Hi H' → Rel Hi a b → PstS K mg M Hs0 H0 (lift cl D.lfItems (g a) ρ k) Dd W → Q b H') : Pst Rel K mg Hb H r Q (fun c d H' => W c d σ H') := by
  cases r with
  | ok a => exact fun v Hi H' le ra => q a v Hi H' rfl le ra h
  | exc x =>
    intro c d Hi H' le rx
    have h : PstS K mg M Hs0 H0 (if cl || x.lf then .ok (.xc x ρ) else .stuck) Dd W := h
    by_cases z : (cl || x.lf) = true
    · rw [if_pos z] at h
      obtain ⟨Hj, J, dn⟩ := hb Hi H' le
      exact h c d Hj σ H' J (rx.down dn z)
    · rw [if_neg z] at h
      exact h.elim
  | stuck => exact h.elim
/-- a new list, laid into an own slot -/
theorem fresh_own {i : Nat} {xs : List D} {vs : List V} {p : Addr} {Hi Hj H' : Hp} {Dd : Ends} {W : WX} (hi : i ∈ M) (J : SInv K M Hs0 H0 ρ Hj σ H') (dn : Down cl Hi Hj) (r : Reps K Hi xs vs) (hn : H' p = none)
    (h : PstS K mg M Hs0 H0 (lift cl D.lfItems (.ok (.lst xs)) ρ fun d => .ok (.nx (ρ.set i (some d)))) Dd W) : Dd.nx (σ.set i (some (.ref p))) (upd H' p (.lst vs)) := by
  have h : PstS K mg M Hs0 H0 (if cl || D.lfs xs then .ok (.nx (ρ.set i (some (.lst xs)))) else .stuck) Dd W := h
  by_cases z : (cl || D.lfs xs) = true
  · rw [if_pos z] at h
    have J2 := J.step (Le.new0 (o := .lst vs) J.le.sub hn)
    refine h _ _ _ (J2.setOwn hi (fresh_s J.le.sub hn) (J.le.free hn) upd_same (r.down dn z) ?_)
    rintro ⟨j, d, h1, h2, h3⟩
    obtain ⟨p', xs', vs', e, a, b, c, f, g⟩ := J.own j d h1 h2
    rw [h3] at a
    cases a
    rw [hn] at f
    cases f
  · rw [if_neg z] at h
    exact h.elim
end
theorem ok_own (cl : Bool) (i : Nat) (o : O) : SOk C cs kk M (.own cl i o) := fun X W st hX sx tk h Hs0 H0 => by
  rw [chkS] at h
  cases q : sAsg st with
  | none => rw [q] at h; cases h
  | some u =>
    obtain ⟨tg, e, p⟩ := u
    rw [q] at h
    have hst := sAsg_s q
    subst hst
    simp only [Bool.and_eq_true] at h
    obtain ⟨⟨⟨h1, h2⟩, h3⟩, h4⟩ := h
    have hi : i ∈ M := by simpa using h4
    have hg : PG X tg (gOf X.K (.nm i)) := pg_of hX.calm hX.names hX.nd rfl (fun x _ => sx.fn x) h1
    have hw : swappedStores [tg] e X.env = pure none := by
      have h1 : (match xName tg with | some x => decide (C.N[i]? = some x) && locOk X.env.scope X.env.scope x | none => false) = true := h1
      cases z : xName tg with
      | none => rw [z] at h1; cases h1
      | some x =>
        obtain ⟨px, rfl⟩ := xName_s z
        cases e <;> rfl
    suffices hs : ∃ te, PE X e te ∧ ∀ Dd σ H, tS X.K X.mg W M Hs0 H0 (exec (fnsOf cs) M (.own cl i o)) Dd σ H → te σ H (fun v H' => gOf X.K (.nm i) v σ H' Dd.nx) by
      obtain ⟨te, he, ht⟩ := hs
      exact PS.imp (ps_asg he hg (sw_no h3 _ _ _) hw (tgt_stores h1 X.env)) ht
    cases o with
    | disp es =>
      rw [chkO] at h2
      cases z : xLst e with
      | none => rw [z] at h2; cases h2
      | some xs =>
        rw [z] at h2
        obtain ⟨pos, rfl⟩ := xLst_s z
        simp only [Bool.and_eq_true, decide_eq_true_eq] at h2
        refine ⟨_, pe_lst ((ok_Es es).args X W xs hX tk h2.2).1, fun Dd σ H ⟨ρ, Hs, I, hp⟩ => ?_⟩
        rw [exec] at hp
        obtain ⟨Hb, e1, e2, _, e3⟩ := I.enter cl
        refine ⟨_, Hb, e1, e2, ?_⟩
        refine use_PG (Rel := Reps X.K) (g := fun xs => .ok (.lst xs)) e3 hp fun ds' vs Hi H' eq le r hp => ⟨?_, fun pp hn => ?_⟩
        · rw [size_eq, ← r.length, evs_len eq]
          omega
        · obtain ⟨Hj, J, dn⟩ := e3 Hi H' le
          exact fresh_own hi J dn r hn hp
    | listOf a =>
      rw [chkO] at h2
      cases z : xCall e with
      | none => rw [z] at h2; cases h2
      | some w =>
        obtain ⟨x, xs⟩ := w
        rw [z] at h2
        obtain ⟨p1, pos, rfl⟩ := xCall_s z
        simp only [Bool.and_eq_true, decide_eq_true_eq] at h2
        obtain ⟨⟨⟨rfl, c1⟩, c2⟩, c3⟩ := h2
        match xs, c3 with
        | [], c3 => cases c3
        | _ :: _ :: _, c3 => cases c3
        | [y], c3 =>
        simp only [Bool.and_eq_true] at c3
        obtain ⟨g1, g2, g3⟩ := gl_of c2
        refine ⟨_, pe_callTy call_list_of g1 (glob_free hX c1) (by decide +kernel) (pa_cons (ok_E a X W y hX tk c3.2).1 pa_nil (star_cons c3.1)) g3 g2 (star_cons c3.1) rfl, fun Dd σ H ⟨ρ, Hs, I, hp⟩ => ?_⟩
        rw [exec] at hp
        obtain ⟨Hb, e1, e2, _, e3⟩ := I.enter cl
        refine ⟨_, Hb, e1, e2, use_PG (Rel := Rep X.K) (g := D.listOf) e3 hp fun d v Hi H' _ le r hp => ?_⟩
        obtain ⟨Hj, J, dn⟩ := e3 Hi H' le
        cases d with
        | lst xs =>
          obtain ⟨pp, vs, rfl, q1, q2⟩ := r.lstI
          exact ⟨pp, vs, rfl, .inl (SqL.of (le.sub _ _ q1)), fun l hl => fresh_own hi J dn q2 hl hp⟩
        | tup xs =>
          obtain ⟨pp, vs, rfl, q1, q2⟩ := r.tupI
          exact ⟨pp, vs, rfl, .inr (SqT.of (le.sub _ _ q1)), fun l hl => fresh_own hi J dn q2 hl hp⟩
        | scr ns =>
          obtain ⟨pp, rfl, q1⟩ := (r.mono le.sub).scrI
          exact ⟨pp, _, rfl, .inl q1, fun l hl => fresh_own hi J dn Reps.ints hl hp⟩
        | _ => exact hp.elim
    | add a b =>
      rw [chkO] at h2
      cases z : xBin e with
      | none => rw [z] at h2; cases h2
      | some w =>
        obtain ⟨x, o, y⟩ := w
        rw [z] at h2
        obtain ⟨pos, rfl⟩ := xBin_s z
        simp only [Bool.and_eq_true, decide_eq_true_eq] at h2
        obtain ⟨⟨rfl, c1⟩, c2⟩ := h2
        refine ⟨_, pe_op op_cat (ok_E a X W x hX tk c1).1 (ok_E b X W y hX tk c2).1, fun Dd σ H ⟨ρ, Hs, I, hp⟩ => ?_⟩
        rw [exec] at hp
        obtain ⟨Hb, e1, e2, _, e3⟩ := I.enter cl
        refine ⟨_, Hb, e1, e2, use_PG (Rel := Rep X.K) (g := fun x => ev (fnsOf cs) b (view M cl ρ) >>= fun y => match x, y with
    | .lst xs, .lst ys => if xs.length + ys.length ≤ 16777216 then .ok (.lst (xs ++ ys)) else .stuck
    | _, _ => .stuck) e3 hp fun d v Hi H' _ le r hp => ⟨_, Hi, le.sub, e2.mono le.old, use_PG (Rel := Rep X.K) (fun Hi2 H2 l2 => e3 Hi2 H2 (le.trans l2)) hp fun d2 v2 Hi2 H2 _ le2 r2 hp2 => ?_⟩⟩
        obtain ⟨Hj, J, dn⟩ := e3 Hi2 H2 (le.trans le2)
        cases d with
        | lst xs =>
          cases d2 with
          | lst ys =>
            by_cases hz : xs.length + ys.length ≤ 16777216
            · simp only [if_pos hz] at hp2
              obtain ⟨p1, vs, rfl, q1, q2⟩ := (r.mono le2.old).lstI
              obtain ⟨p2, ws, rfl, q3, q4⟩ := r2.lstI
              exact ⟨p1, p2, vs, ws, rfl, rfl, le2.sub _ _ q1, le2.sub _ _ q3, by rw [size_eq, ← q2.length, ← q4.length]; exact hz, fun n hn => fresh_own hi J dn (q2.append q4) hn hp2⟩
            · simp only [if_neg hz] at hp2
              exact hp2.elim
          | _ => exact hp2.elim
        | _ => exact hp2.elim

/-! ## changes -/
theorem haveL_s {i : Nat} {ρ : Env} {k : R Fl} {K : PySem.W.Frag} {mg : Str → Option Value} {Hs0 H0 : Hp} {Dd : Ends} {W : WX} (h : PstS K mg M Hs0 H0 (haveL i ρ k) Dd W) : ∃ xs, ρ[i]? = some (some (.lst xs)) ∧ PstS K mg M Hs0 H0 k Dd W := by
  unfold haveL at h
  split at h
  · exact ⟨_, by assumption, h⟩
  · exact h.elim
theorem vis_of {sc : Scope} {x : Str} (hv : visOk sc x = true) : Vis sc x ∧ (x == ("__debug__" : Str)) = false ∧ (x == ("__classdict__" : Str)) = false := by
  unfold visOk at hv
  simp only [Bool.and_eq_true, Bool.not_eq_true'] at hv
  obtain ⟨⟨h1, h2⟩, h3⟩ := hv
  refine ⟨?_, h2, h3⟩
  unfold Vis
  split at h1 <;> first | (exact .inl (by assumption)) | (exact .inr (.inl (by assumption))) | (exact .inr (.inr (by assumption))) | cases h1
/-- x.m(y): its parts -/
theorem chkM_s {X : Cx} {W : WX} {m : Str} {i : Nat} {a : E} {e : Expr} (hX : XOk X C cs kk) (tk : Takes X W) (h : chkM C X.env.scope m i a e = true) : ∃ x px ap cp y, e = .Call (.Attribute (.Name x px) m ap) [y] [] cp ∧ (ap.endLine == cp.line) = true ∧ PE X (.Name x px) (tVar i) ∧ SE X W y (ev (fnsOf cs) a) ∧ plain y = true := by
  unfold chkM at h
  cases z : xMeth e with
  | none => rw [z] at h; cases h
  | some w =>
    obtain ⟨o, n, xs, l⟩ := w
    rw [z] at h
    obtain ⟨ap, cp, rfl, hl⟩ := xMeth_s z
    simp only [Bool.and_eq_true, decide_eq_true_eq] at h
    obtain ⟨⟨⟨rfl, h1⟩, h2⟩, h3⟩ := h
    cases z2 : xName o with
    | none => rw [z2] at h2; cases h2
    | some x =>
      rw [z2] at h2
      obtain ⟨px, rfl⟩ := xName_s z2
      simp only [Bool.and_eq_true, decide_eq_true_eq] at h2
      obtain ⟨v1, v2, v3⟩ := vis_of h2.2
      match xs, h3 with
      | [], h3 => cases h3
      | _ :: _ :: _, h3 => cases h3
      | [y], h3 =>
        simp only [Bool.and_eq_true] at h3
        exact ⟨x, px, ap, cp, y, rfl, hl ▸ h1, pe_var (by rw [hX.names]; exact h2.1) v1 v2 v3, (ok_E a X W y hX tk h3.2).1, h3.1⟩
theorem star_one {y : Expr} {env : PySem.Env} (h : plain y = true) : starEach [y] env = (false, eval y env) :: starEach [] env := star_cons h
theorem few1 {y : Expr} {env : PySem.Env} {cp : Pos} (h : plain y = true) : ((backTo cp (starEach [y] env)).all (fun x => !x.1) && (backToKw cp (keywordEach [] env)).all (fun x => x.1.isSome)
      && decide ([y].length + ([] : List Keyword).length + (if ([] : List Keyword).isEmpty then 0 else 1) < 30)) = true := by
  rw [star_one h]
  rfl
theorem ok_app (cl : Bool) (i : Nat) (a : E) : SOk C cs kk M (.app cl i a) := fun X W st hX sx tk h Hs0 H0 => by
  rw [chkS] at h
  cases q : sExp st with
  | none => rw [q] at h; cases h
  | some u =>
    obtain ⟨e, p⟩ := u
    rw [q] at h
    have hst := sExp_s q
    subst hst
    simp only [Bool.and_eq_true] at h
    have hi : i ∈ M := by simpa using h.1
    obtain ⟨x, px, ap, cp, y, rfl, hl, ho, hy, hpl⟩ := chkM_s hX tk h.2
    refine PS.imp (ps_expr (pe_bm PySem.F.plainAttrs_list PySem.F.slot_list_append PySem.F.type_list_append mt_append ho (pa_cons hy pa_nil (star_cons hpl)) rfl (few1 hpl) hl (star_cons hpl) rfl)) fun Dd σ H ⟨ρ, Hs, I, hp⟩ => ?_
    rw [exec] at hp
    obtain ⟨xs, q0, hp⟩ := haveL_s hp
    obtain ⟨p, xs', vs, e, q1, b, c, f, g⟩ := I.own i _ hi q0
    refine ⟨.ref p, q1, .inl ⟨rfl, vs, SqL.of f⟩, use_D I hp fun d v Hj H' J r hp => ?_⟩
    obtain ⟨p2, xs2, vs2, e2, q2, b2, c2, f2, g2⟩ := J.own i _ hi q0
    rw [q1] at q2
    cases q2
    cases e2
    unfold appD at hp
    simp only [q0] at hp
    by_cases hz : xs.length < 16777216
    · rw [if_pos hz] at hp
      exact ⟨p, vs2, v, rfl, rfl, f2, by rw [size_eq, ← g2.length]; exact hz, hp _ _ _ (J.change hi q0 q1 (g2.append (.cons r .nil)))⟩
    · rw [if_neg hz] at hp
      exact hp.elim
theorem R.bind_id {α : Type} (r : R α) : (r >>= fun d => R.ok d) = r := by cases r <;> rfl
theorem ok_ext (cl : Bool) (i : Nat) (a : E) : SOk C cs kk M (.ext cl i a) := fun X W st hX sx tk h Hs0 H0 => by
  rw [chkS] at h
  cases q : sExp st with
  | none => rw [q] at h; cases h
  | some u =>
    obtain ⟨e, p⟩ := u
    rw [q] at h
    have hst := sExp_s q
    subst hst
    simp only [Bool.and_eq_true] at h
    have hi : i ∈ M := by simpa using h.1
    obtain ⟨x, px, ap, cp, y, rfl, hl, ho, hy, hpl⟩ := chkM_s hX tk h.2
    refine PS.imp (ps_expr (pe_bm PySem.F.plainAttrs_list PySem.F.slot_list_extend PySem.F.type_list_extend mt_extend ho (pa_cons hy pa_nil (star_cons hpl)) rfl (few1 hpl) hl (star_cons hpl) rfl)) fun Dd σ H ⟨ρ, Hs, I, hp⟩ => ?_
    rw [exec] at hp
    obtain ⟨xs, q0, hp⟩ := haveL_s hp
    obtain ⟨p, xs', vs, e, q1, b, c, f, g⟩ := I.own i _ hi q0
    obtain ⟨Hb, e1, e2, _, e3⟩ := I.enter cl
    rw [← R.bind_id (ev (fnsOf cs) a (view M cl ρ))] at hp
    refine ⟨.ref p, q1, .inl ⟨rfl, vs, SqL.of f⟩, _, Hb, e1, e2, use_PG (Rel := Rep X.K) (g := fun d => .ok d) e3 hp fun d v Hi H' _ le r hp => ?_⟩
    obtain ⟨Hj, J, dn⟩ := e3 Hi H' le
    obtain ⟨p2, xs2, vs2, e2, q2, b2, c2, f2, g2⟩ := J.own i _ hi q0
    rw [q1] at q2
    cases q2
    cases e2
    cases d with
    | lst ys =>
      have hp : PstS X.K X.mg M Hs0 H0 (if cl || D.lfs ys then extD i (.lst ys) ρ else .stuck) Dd W := hp
      by_cases z : (cl || D.lfs ys) = true
      · rw [if_pos z] at hp
        unfold extD at hp
        simp only [q0] at hp
        by_cases hz : xs.length + ys.length ≤ 16777216
        · rw [if_pos hz] at hp
          obtain ⟨p3, ws, rfl, w1, w2⟩ := r.lstI
          exact ⟨p, p3, vs2, ws, rfl, rfl, f2, le.sub _ _ w1, by rw [size_eq, ← g2.length, ← w2.length]; exact hz, hp _ _ _ (J.change hi q0 q1 (g2.append (w2.down dn z)))⟩
        · rw [if_neg hz] at hp
          exact hp.elim
      · rw [if_neg z] at hp
        exact hp.elim
    | _ =>
      have hp : PstS X.K X.mg M Hs0 H0 (if cl || false then extD i _ ρ else .stuck) Dd W := hp
      cases cl with
      | true =>
        have hp : PstS X.K X.mg M Hs0 H0 (extD i _ ρ) Dd W := hp
        unfold extD at hp
        simp only [q0] at hp
        exact hp.elim
      | false => exact hp.elim
theorem ok_put (cl : Bool) (i : Nat) (j a : E) : SOk C cs kk M (.put cl i j a) := fun X W st hX sx tk h Hs0 H0 => by
  rw [chkS] at h
  cases q : sAsg st with
  | none => rw [q] at h; cases h
  | some u =>
    obtain ⟨tg, e, p⟩ := u
    rw [q] at h
    have hst := sAsg_s q
    subst hst
    simp only [Bool.and_eq_true] at h
    obtain ⟨⟨h1, h2⟩, h3⟩ := h
    have hi : i ∈ M := by simpa using h1
    cases z : xSub tg with
    | none => rw [z] at h3; cases h3
    | some w =>
      obtain ⟨o, k⟩ := w
      rw [z] at h3
      obtain ⟨ps, rfl⟩ := xSub_s z
      simp only [Bool.and_eq_true] at h3
      obtain ⟨⟨h4, h5⟩, h6⟩ := h3
      cases z2 : xName o with
      | none => rw [z2] at h5; cases h5
      | some x =>
        rw [z2] at h5
        obtain ⟨px, rfl⟩ := xName_s z2
        simp only [Bool.and_eq_true, decide_eq_true_eq] at h5
        obtain ⟨v1, v2, v3⟩ := vis_of h5.2
        have ho : PE X (.Name x px) (tVar i) := pe_var (by rw [hX.names]; exact h5.1) v1 v2 v3
        refine PS.imp (ps_asg (ok_E a X W e hX tk h2).1 (pg_sub ho (ok_E j X W k hX tk h6).1 set_list (by intro _; cases k <;> first | rfl | cases h4)) (sw_sub (a := .Name x px) (b := k) (p := ps) p.line X.env) (swst_sub (a := .Name x px) (b := k) (p := ps) X.env) rfl) fun Dd σ H ⟨ρ, Hs, I, hp⟩ => ?_
        rw [exec] at hp
        obtain ⟨xs, q0, hp⟩ := haveL_s hp
        refine use_D I hp fun d v Hj H' J r hp => ?_
        obtain ⟨p1, xs1, vs1, e1, q1, b1, c1, f1, g1⟩ := J.own i _ hi q0
        refine ⟨.ref p1, q1, use_D J.rebase (hp.base J.le) fun d2 v2 Hj2 H2 J2 r2 hp2 => ?_⟩
        obtain ⟨p2, xs2, vs2, e2, q2, b2, c2, f2, g2⟩ := J2.own i _ hi q0
        rw [q1] at q2
        cases q2
        cases e2
        unfold putD at hp2
        simp only [q0] at hp2
        cases d2 with
        | int n =>
          simp only [] at hp2
          cases zz : ixN xs.length n with
          | none => rw [zz] at hp2; exact hp2.elim
          | some m =>
            rw [zz] at hp2
            exact ⟨p1, vs2, n, m, rfl, r2.intI, f2, by rw [← g2.length]; exact zz, hp2 _ _ _ (J2.change hi q0 q1 (Reps.set (r.mono J2.le.old) m g2))⟩
        | _ => exact hp2.elim
/-! ## the flow -/
theorem ok_ex (a : E) : SOk C cs kk M (.ex a) := fun X W st hX sx tk h Hs0 H0 => by
  rw [chkS] at h
  cases q : sExp st with
  | none => rw [q] at h; cases h
  | some u =>
    obtain ⟨e, p⟩ := u
    rw [q] at h
    have hst := sExp_s q
    subst hst
    simp only [Bool.and_eq_true] at h
    refine PS.imp (ps_expr (ok_E a X W e hX tk h.1).1 (sw_no h.2 _ _ _)) fun Dd σ H ⟨ρ, Hs, I, hp⟩ => ?_
    rw [exec] at hp
    exact use_R I hp fun d v Hi Hj H' J _ _ hp => hp _ _ _ J
theorem ok_ite {c : E} {a b : Ss} (ha : SsOk C cs kk M a) (hb : SsOk C cs kk M b) : SOk C cs kk M (.ite c a b) := fun X W st hX sx tk h Hs0 H0 => by
  rw [chkS] at h
  cases q : sIf st with
  | none => rw [q] at h; cases h
  | some u =>
    obtain ⟨e, pa, pb⟩ := u
    rw [q] at h
    obtain ⟨pos, rfl⟩ := sIf_s q
    simp only [Bool.and_eq_true] at h
    obtain ⟨⟨h1, h2⟩, h3⟩ := h
    refine PS.imp (ps_if (ok_E c X W e hX tk h1).2 (ha X W pa hX sx tk h2 Hs0 H0) (hb X W pb hX sx tk h3 Hs0 H0)) fun Dd σ H ⟨ρ, Hs, I, hp⟩ => ?_
    rw [exec] at hp
    refine use_B (f := tst (fnsOf cs) c) I hp fun k Hj H' J hp => ?_
    cases k with
    | true => exact iteT ⟨ρ, Hj, J, hp⟩
    | false => exact iteF ⟨ρ, Hj, J, hp⟩
theorem ok_ret (a : E) : SOk C cs kk M (.ret a) := fun X W st hX sx tk h Hs0 H0 => by
  rw [chkS] at h
  cases q : sRet st with
  | none => rw [q] at h; cases h
  | some u =>
    cases u with
    | none => rw [q] at h; cases h
    | some e =>
      rw [q] at h
      obtain ⟨pos, rfl⟩ := sRet_s q
      refine PS.imp (ps_ret (ok_E a X W e hX tk h).1) fun Dd σ H ⟨ρ, Hs, I, hp⟩ => ?_
      rw [exec] at hp
      exact use_R I hp fun d v Hi Hj H' J l r hp => hp _ _ _ l r
theorem ok_retN : SOk C cs kk M .retN := fun X W st hX sx tk h Hs0 H0 => by
  rw [chkS] at h
  cases q : sRet st with
  | none => rw [q] at h; cases h
  | some u =>
    cases u with
    | some e => rw [q] at h; cases h
    | none =>
      obtain ⟨pos, rfl⟩ := sRet_s q
      refine PS.imp ps_retN fun Dd σ H ⟨ρ, Hs, I, hp⟩ => ?_
      rw [exec] at hp
      exact hp _ _ _ I.le .non
theorem ok_pass : SOk C cs kk M .pass := fun X W st hX sx tk h Hs0 H0 => by
  rw [chkS] at h
  obtain ⟨pos, rfl⟩ := sPass_s h
  refine PS.imp ps_pass fun Dd σ H ⟨ρ, Hs, I, hp⟩ => ?_
  rw [exec] at hp
  exact hp _ _ _ I
theorem ok_brk : SOk C cs kk M .brk := fun X W st hX sx tk h Hs0 H0 => by
  rw [chkS] at h
  obtain ⟨pos, rfl⟩ := sBrk_s h
  refine PS.imp ps_break fun Dd σ H ⟨ρ, Hs, I, hp⟩ => ?_
  rw [exec] at hp
  exact hp _ _ _ I
theorem ok_cont : SOk C cs kk M .cont := fun X W st hX sx tk h Hs0 H0 => by
  rw [chkS] at h
  obtain ⟨pos, rfl⟩ := sCnt_s h
  refine PS.imp ps_continue fun Dd σ H ⟨ρ, Hs, I, hp⟩ => ?_
  rw [exec] at hp
  exact hp _ _ _ I
theorem ok_whl (n : Nat) {c : E} {b : Ss} (hb : SsOk C cs kk M b) : SOk C cs kk M (.whl n c b) := fun X W st hX sx tk h Hs0 H0 => by
  rw [chkS] at h
  cases q : sWhl st with
  | none => rw [q] at h; cases h
  | some u =>
    obtain ⟨e, p⟩ := u
    rw [q] at h
    obtain ⟨pos, rfl⟩ := sWhl_s q
    simp only [Bool.and_eq_true] at h
    refine PS.imp (ps_while sx.pas (ok_E c X W e hX tk h.1).2 (hb X W p hX sx tk h.2 Hs0 H0)) fun Dd σ H ⟨ρ, Hs, I, hp⟩ => ?_
    rw [exec] at hp
    refine ⟨fun m σ H => ∃ ρ Hs, SInv X.K M Hs0 H0 ρ Hs σ H ∧ PstS X.K X.mg M Hs0 H0 (whileN (fun ρ => tst (fnsOf cs) c (view M false ρ)) (execs (fnsOf cs) M b) m ρ) Dd W, ⟨n, ρ, Hs, I, hp⟩, ?_⟩
    rintro m σ1 H1 ⟨ρ1, Hs1, I1, hp1⟩
    cases m with
    | zero => exact hp1.elim
    | succ m =>
      rw [whileN] at hp1
      refine use_B (f := tst (fnsOf cs) c) I1 hp1 fun k Hj H' J hp => ?_
      cases k with
      | false => exact iteF (hp _ _ _ J)
      | true =>
        refine iteT ⟨fun σ' H' => ∃ ρ Hs, SInv X.K M Hs0 H0 ρ Hs σ' H' ∧ PstS X.K X.mg M Hs0 H0 (whileN (fun ρ => tst (fnsOf cs) c (view M false ρ)) (execs (fnsOf cs) M b) m ρ) Dd W, fun σ' H' hN => ⟨m, by omega, hN⟩, ρ1, Hj, J, ?_⟩
        simp only [if_true] at hp
        cases z : execs (fnsOf cs) M b ρ1 with
        | ok f =>
          rw [z] at hp
          cases f with
          | nx ρ2 => exact fun Hs σ H I => ⟨ρ2, Hs, I, hp⟩
          | ct ρ2 => exact fun Hs σ H I => ⟨ρ2, Hs, I, hp⟩
          | bk ρ2 => exact hp
          | rt d => exact hp
          | xc x ρ2 => exact hp
        | exc x => rw [z] at hp; exact hp.elim
        | stuck => rw [z] at hp; exact hp.elim
theorem oks_nilS : SsOk C cs kk M .nil := fun X W sts hX sx tk h Hs0 H0 => by
  rw [chkSs] at h
  have e : sts = [] := by simpa using h
  subst e
  refine PSs.imp pss_nil fun Dd σ H ⟨ρ, Hs, I, hp⟩ => ?_
  rw [execs] at hp
  exact hp _ _ _ I
theorem oks_consS {s : S} {ss : Ss} (hs : SOk C cs kk M s) (hss : SsOk C cs kk M ss) : SsOk C cs kk M (.cons s ss) := fun X W sts hX sx tk h Hs0 H0 => by
  cases sts with
  | nil => rw [chkSs] at h; cases h
  | cons st sts =>
    rw [chkSs] at h
    simp only [Bool.and_eq_true] at h
    refine PSs.imp (pss_cons (hs X W st hX sx tk h.1 Hs0 H0) (hss X W sts hX sx tk h.2 Hs0 H0)) fun Dd σ H ⟨ρ, Hs, I, hp⟩ => ?_
    rw [execs] at hp
    refine ⟨ρ, Hs, I, ?_⟩
    cases z : exec (fnsOf cs) M s ρ with
    | ok f =>
      rw [z] at hp
      cases f with
      | nx ρ2 => exact fun Hs σ H I => ⟨ρ2, Hs, I, hp⟩
      | ct ρ2 => exact hp
      | bk ρ2 => exact hp
      | rt d => exact hp
      | xc x ρ2 => exact hp
    | exc x => rw [z] at hp; exact hp.elim
    | stuck => rw [z] at hp; exact hp.elim
end
end Py

namespace Py
open PySem PySem.Spec PyProof.Rows L2
/-! ## for -/
/-- a range, whatever the heap -/
abbrev RgRel : Hp → List D → L2.It → Prop := fun _ ds J => ∃ (lo : Int) (n : Nat), J = Itr lo n ∧ ds = (List.range n).map fun i => D.int (lo + (i : Nat))
def iR (K : PySem.W.Frag) (mg : Str → Option Value) (W : WX) (f : Env → R (List D)) : TI := fun σ H R =>
  ∃ (ρ : Env) (Hs : Hp), Ex Hs H ∧ ERel K Hs ρ σ ∧ Pst RgRel K mg Hs H (f ρ) R (fun c d H' => W c d σ H')
section
variable {X : Cx} {W : WX} {e a b tg : Expr} {es : List Expr} {pos : Pos} {fs : Env → R (List D)}
theorem si_range1R {p : Pos} (hg : glOk X.env.scope "range" = true) (hm : X.mg "range" = none) (hpl : plain a = true) (hs : SA X W [a] fs) (hl : ∀ ρ ds, fs ρ = .ok ds → ds.length = 1) : PI X tg (.Call (.Name "range" p) [a] [] pos) (iR X.K X.mg W (fun ρ => do
    let xs ← fs ρ
    D.rangeOf xs)) := by
  obtain ⟨g1, g2, g3⟩ := gl_of hg
  refine PI.imp (pi_range1 g1 hm hs (star_cons hpl)) fun σ H Q ⟨ρ, Hs, he, hr, hp⟩ => ⟨ρ, Hs, he, hr, hp.bind fun ds eds vs Hi H1 l rv hp1 => ?_⟩
  rcases rangeOf_cases ds with ⟨n, rfl⟩ | ⟨a, b, rfl⟩ | e
  · cases rv with
    | cons r1 t =>
      cases t
      have hp1 : Pst _ X.K X.mg Hi H1 (rangeD 0 n) Q _ := hp1
      rcases rangeD_cases 0 n with ⟨l2, q⟩ | q
      · rw [q] at hp1
        obtain ⟨⟨b1, b2, b3, b4⟩, rfl⟩ := rng_items q
        exact ⟨n, by rw [r1.intI], b3, b4, hp1.now l.sub ⟨0, n.toNat, rfl, by simp⟩⟩
      · rw [q] at hp1
        exact hp1.elim
  · exact absurd (hl ρ _ eds) (by simp)
  · rw [e] at hp1
    exact hp1.elim
theorem si_range2R {p : Pos} (hg : glOk X.env.scope "range" = true) (hm : X.mg "range" = none) (hpl : plain a = true) (hpl2 : plain b = true) (hs : SA X W [a, b] fs) (hl : ∀ ρ ds, fs ρ = .ok ds → ds.length = 2) : PI X tg (.Call (.Name "range" p) [a, b] [] pos) (iR X.K X.mg W (fun ρ => do
    let xs ← fs ρ
    D.rangeOf xs)) := by
  obtain ⟨g1, g2, g3⟩ := gl_of hg
  refine PI.imp (pi_range2 g1 hm hs (by rw [star_cons hpl, star_cons hpl2]; rfl) (by rw [star_cons hpl2]; rfl)) fun σ H Q ⟨ρ, Hs, he, hr, hp⟩ => ⟨ρ, Hs, he, hr, hp.bind fun ds eds vs Hi H1 l rv hp1 => ?_⟩
  rcases rangeOf_cases ds with ⟨n, rfl⟩ | ⟨a, b, rfl⟩ | e
  · exact absurd (hl ρ _ eds) (by simp)
  · cases rv with
    | cons r1 t =>
      cases t with
      | cons r2 t =>
        cases t
        have hp1 : Pst _ X.K X.mg Hi H1 (rangeD a b) Q _ := hp1
        rcases rangeD_cases a b with ⟨l2, q⟩ | q
        · rw [q] at hp1
          obtain ⟨bb, rfl⟩ := rng_items q
          exact ⟨a, b, by rw [r1.intI, r2.intI], bb, hp1.now l.sub ⟨a, (b - a).toNat, rfl, rfl⟩⟩
        · rw [q] at hp1
          exact hp1.elim
  · rw [e] at hp1
    exact hp1.elim
end
section
variable {C : Cfg} {cs : List Cal} {kk : Nat} {M : List Nat}
theorem oki_rangeR {es : Es} {X : Cx} {W : WX} {tg e : Expr} (hX : XOk X C cs kk) (tk : Takes X W) (h : chkIt C X.env.scope (.range es) e = true) : PI X tg e (iR X.K X.mg W (evIt (fnsOf cs) (.range es))) ∧ plain e = true := by
  rw [chkIt] at h
  cases q : xCall e with
  | none => rw [q] at h; cases h
  | some u =>
    obtain ⟨x, xs⟩ := u
    rw [q] at h
    obtain ⟨p, pos, rfl⟩ := xCall_s q
    simp only [Bool.and_eq_true, decide_eq_true_eq] at h
    obtain ⟨⟨⟨⟨rfl, h1⟩, h2⟩, h3⟩, h4⟩ := h
    refine ⟨?_, rfl⟩
    obtain ⟨a1, a2, a3, _⟩ := (ok_Es es).args X W xs hX tk h4
    have e : evIt (fnsOf cs) (.range es) = fun ρ => (do
      let xs ← evs (fnsOf cs) es ρ
      D.rangeOf xs) := by funext ρ; rw [evIt]
    rw [e]
    match xs, a1, a2, a3 with
    | [y], a1, a2, a3 => exact si_range1R h2 (glob_free hX h1) (a2 y (by simp)) a1 fun ρ ds q => by rw [evs_len q, ← a3]; rfl
    | [y, z], a1, a2, a3 => exact si_range2R h2 (glob_free hX h1) (a2 y (by simp)) (a2 z (by simp)) a1 fun ρ ds q => by rw [evs_len q, ← a3]; rfl
    | [], a1, a2, a3 => rcases h3 with h3 | h3 <;> (rw [← a3] at h3; cases h3)
    | _ :: _ :: _ :: _, a1, a2, a3 => rcases h3 with h3 | h3 <;> (rw [← a3] at h3; simp at h3)
def tBody (K : PySem.W.Frag) (mg : Str → Option Value) (W : WX) (M : List Nat) (H0 : Hp) (f : Env → R Fl) : TS := fun Dd σ H => ∃ Hs1, tS K mg W M Hs1 H0 f Dd σ H
theorem for_turns {K : PySem.W.Frag} {mg : Str → Option Value} {W : WX} {H0 Hs1 H1 : Hp} {J : L2.It} {ds : List D} {t : Tgt} {body : Env → R Fl} {ρ : Env} {σ : L2.St} {Dd : Ends} (wk : Walk K J Hs1 ds) (I : SInv K M Hs1 H0 ρ Hs1 σ H1) (hi : ∀ i ∈ t.ixs, i ∉ M)
    (hp : PstS K mg M Hs1 H0 (forGo t body ds ρ) Dd W) : ∃ Wv : Nat → Nat → L2.St → Hp → Prop, (∃ m, Wv 0 m σ H1) ∧ ∀ i m σ H, Wv i m σ H →
  (J.stop i H ∧ Dd.nx σ H) ∨ (J.go i H ∧ ∃ N : L2.St → Hp → Prop, (∀ σ' H', N σ' H' → ∃ m', m' < m ∧ Wv (i + 1) m' σ' H') ∧ ∀ x H', J.yld i H x H' → gOf K t x σ H' fun σ2 H2 => tBody K mg W M H0 body { Dd with nx := N, ct := N, bk := Dd.nx } σ2 H2) := by
  refine ⟨fun i m σ H => m = ds.length - i ∧ i ≤ ds.length ∧ ∃ ρ Hs, SInv K M Hs1 H0 ρ Hs σ H ∧ PstS K mg M Hs1 H0 (forGo t body (ds.drop i) ρ) Dd W, ⟨ds.length, by simp, Nat.zero_le _, ρ, Hs1, I, hp⟩, ?_⟩
  rintro i m σ H ⟨rfl, hle, ρ, Hs, I, hp⟩
  by_cases hlt : i < ds.length
  · refine .inr ⟨wk.go i H (I.le.old.trans I.le.sub) hlt, fun σ' H' => ∃ m', m' < ds.length - i ∧ (m' = ds.length - (i + 1) ∧ i + 1 ≤ ds.length ∧ ∃ ρ Hs, SInv K M Hs1 H0 ρ Hs σ' H' ∧ PstS K mg M Hs1 H0 (forGo t body (ds.drop (i + 1)) ρ) Dd W), fun σ' H' h => h, fun x H' hy => ?_⟩
    have hd : ds[i]? = some ds[i] := List.getElem?_eq_getElem hlt
    obtain ⟨Hi, l2, rx⟩ := wk.yld i Hs H x H' _ I.le.old I.le.sub hd hy
    rw [List.drop_eq_getElem_cons hlt, forGo] at hp
    refine use_T hp rx (I.step l2) hi fun ρ' σ' J' hp => ⟨Hs1, ρ', Hi, J', ?_⟩
    have go : ∀ ρ2, PstS K mg M Hs1 H0 (forGo t body (ds.drop (i + 1)) ρ2) Dd W → ∀ Hs σ' H', SInv K M Hs1 H0 ρ2 Hs σ' H' → ∃ m', m' < ds.length - i ∧ (m' = ds.length - (i + 1) ∧ i + 1 ≤ ds.length ∧ ∃ ρ Hs, SInv K M Hs1 H0 ρ Hs σ' H' ∧ PstS K mg M Hs1 H0 (forGo t body (ds.drop (i + 1)) ρ) Dd W) :=
      fun ρ2 hp Hs σ' H' I => ⟨ds.length - (i + 1), by omega, rfl, by omega, ρ2, Hs, I, hp⟩
    cases z : body ρ' with
    | ok f =>
      rw [z] at hp
      cases f with
      | nx ρ2 => exact go ρ2 hp
      | ct ρ2 => exact go ρ2 hp
      | bk ρ2 => exact hp
      | rt d => exact hp
      | xc x ρ2 => exact hp
    | exc x => rw [z] at hp; exact hp.elim
    | stuck => rw [z] at hp; exact hp.elim
  · refine .inl ⟨wk.stop i H (I.le.old.trans I.le.sub) (by omega), ?_⟩
    rw [List.drop_eq_nil_of_le (by omega)] at hp
    exact hp _ _ _ I
theorem exec_for {Φ : Fns} {M : List Nat} (cl : Bool) (t : Tgt) (it : It) (b : Ss) (ρ : Env) : exec Φ M (.for_ cl t it b) ρ = lift cl (fun _ => match it with | .range _ => true | _ => false) (evIt Φ it (view M cl ρ)) ρ fun ds => forGo t (execs Φ M b) ds ρ := by
  cases it <;> rw [exec] <;> first | rfl | (intro es h; cases h)
theorem ok_for (cl : Bool) (t : Tgt) (it : It) {b : Ss} (hb : SsOk C cs kk M b) : SOk C cs kk M (.for_ cl t it b) := fun X W st hX sx tk h Hs0 H0 => by
  rw [chkS] at h
  cases q : sFor st with
  | none => rw [q] at h; cases h
  | some u =>
    obtain ⟨tg, e, p⟩ := u
    rw [q] at h
    obtain ⟨pos, rfl⟩ := sFor_s q
    simp only [Bool.and_eq_true] at h
    obtain ⟨⟨⟨⟨h1, h2⟩, h3⟩, h4⟩, h5⟩ := h
    have hi := allM h5
    have hg : PG X tg (gOf X.K t) := pg_of hX.calm hX.names hX.nd rfl (fun x _ => sx.fn x) h1
    have hbody : PSs X p (tBody X.K X.mg W M H0 (execs (fnsOf cs) M b)) := ⟨fun pins s σ H Dd I ⟨Hs1, hh⟩ => (hb X W p hX sx tk h4 Hs1 H0).run pins s σ H Dd I hh⟩
    by_cases hr : ∃ es, it = .range es
    · obtain ⟨es, rfl⟩ := hr
      obtain ⟨i1, i2⟩ := oki_rangeR (tg := tg) hX tk h2
      refine PS.imp (ps_for sx.pas hX.calm i1 hg hbody (folded_ok i2)) fun Dd σ H ⟨ρ, Hs, I, hp⟩ => ?_
      rw [exec] at hp
      obtain ⟨Hb, e1, e2, _, e3⟩ := I.enter cl
      refine ⟨_, Hb, e1, e2, use_P (Rel := RgRel) e3 (fun _ _ _ _ _ _ r => r) hp fun ds J Hj H' _ I' r hp => ?_⟩
      obtain ⟨lo, n, rfl, rfl⟩ := r
      exact for_turns (walk_rng lo n) I'.rebase hi (hp.base I'.le)
    · obtain ⟨i1, i2⟩ := ok_It it X W tg e hX tk h2 fun a b z => by
        subst z
        cases t with
        | nm i => cases h3
        | tp is =>
          have h1 : (match xTup tg with | some es => chkNames C.N X.env.scope X.env.scope is es | none => false) = true := h1
          cases q3 : xTup tg with
          | none => rw [q3] at h1; cases h1
          | some ks =>
            obtain ⟨k, p, rfl⟩ := xTup_s q3
            exact ⟨_, _, _, rfl⟩
      refine PS.imp (ps_for sx.pas hX.calm i1 hg hbody (folded_ok i2)) fun Dd σ H ⟨ρ, Hs, I, hp⟩ => ?_
      have hp := (congrArg (fun r => PstS X.K X.mg M Hs0 H0 r Dd W) (exec_for (Φ := fnsOf cs) (M := M) cl t it b ρ)).mp hp
      obtain ⟨Hb, e1, e2, _, e3⟩ := I.enter cl
      refine ⟨_, Hb, e1, e2, use_P (Rel := fun Hi ds J => Walk X.K J Hi ds) e3 (fun Hi Hj ds J dn z r => ?_) hp fun ds J Hj H' _ I' wk hp => for_turns wk I'.rebase hi (hp.base I'.le)⟩
      cases cl with
      | true => rw [dn.same rfl]; exact r
      | false =>
        exfalso
        cases it with
        | range es => exact hr ⟨es, rfl⟩
        | val a => cases z
        | zip a b => cases z
mutual
theorem ok_S : ∀ s : S, SOk C cs kk M s
  | .asg cl t e => ok_asg cl t e
  | .own cl i o => ok_own cl i o
  | .app cl i e => ok_app cl i e
  | .ext cl i e => ok_ext cl i e
  | .put cl i j e => ok_put cl i j e
  | .ex e => ok_ex e
  | .ite c a b => ok_ite (ok_Ss a) (ok_Ss b)
  | .whl n c b => ok_whl n (ok_Ss b)
  | .for_ cl t it b => ok_for cl t it (ok_Ss b)
  | .ret e => ok_ret e
  | .retN => ok_retN
  | .pass => ok_pass
  | .brk => ok_brk
  | .cont => ok_cont
theorem ok_Ss : ∀ s : Ss, SsOk C cs kk M s
  | .nil => oks_nilS
  | .cons s ss => oks_consS (ok_S s) (ok_Ss ss)
end
end

/-! ## a def -/
def env0 (n : Nat) (ds : List D) : Env := ds.map some ++ List.replicate (n - ds.length) none
def outD (r : R Fl) : R D := match r with
  | .ok (.rt d) => .ok d
  | .ok (.nx _) => .ok .non
  | .ok (.xc x _) => .exc x
  | _ => .stuck
def runFn (Φ : Fns) (n : Nat) (M : List Nat) (body : Ss) (ds : List D) : R D := outD (execs Φ M body (env0 n ds))
structure Def where
  N : List Str
  np : Nat
  M : List Nat
  body : Ss
def Def.run (d : Def) (Φ : Fns) : List D → R D := runFn Φ d.N.length d.M d.body
theorem def_ok {P : Program} {w : World} {K : PySem.W.Frag} {mg : Str → Option Value} {base : Heap} {x qual : Str} {st : Stmt} {f : Addr} {fd : FuncData} {ps : List Str} {k : Nat} {C : Cfg} {cs : List Cal} {M : List Nat} {body : Ss}
    (F : Fun K x qual st f fd) (S : FnScope C.N ps (defScope st)) (fns : ∀ c ∈ cs, c.Ok P w K mg base k) (cn : C.cn = cs.map fun c => (c.name, c.ps.length)) (free : ∀ x ∈ C.bl, mg x = none) (glob : ∀ p ∈ C.gl, ∃ u, mg p.1 = some u ∧ RelV p.2.v u)
    (hb : chkSs C (defScope st) M body (defBody st) = true) (hm : (M.all fun i => decide (ps.length ≤ i)) = true) : FnOk P w K mg base (L2.CX P w) (k + 1) f fd ps (spOf K mg ps.length (runFn (fnsOf cs) C.N.length M body)) := by
  refine F.okX S (fun vs H Q E h => ?_) (fun cdv A outer s H vs Q E hr h => ?_)
  · obtain ⟨Hs, ds, he, r, hl, _⟩ := h
    rw [← r.length, hl]
  · obtain ⟨Hs, ds, he, r, hl, hp⟩ := h
    have hX : XOk (cxOf (L2.CX P w) P w K mg base C.N qual (defScope st) f cdv A outer s H E) C cs k := ⟨rfl, rfl, S.nd, hr, fns, cn, free, glob⟩
    have sx : SX (cxOf (L2.CX P w) P w K mg base C.N qual (defScope st) f cdv A outer s H E) := ⟨fun _ => rfl, passes_of rfl, S.kind⟩
    refine ⟨_, ok_Ss body _ (fun c d _ H' => E c d H') _ hX sx (L2.takes_of rfl rfl rfl rfl) hb Hs H, env0 C.N.length ds, Hs, ?_, ?_⟩
    · have hN : ds.length = vs.length := r.length
      have low : ∀ i d, (env0 C.N.length ds)[i]? = some (some d) → i < ds.length ∧ ds[i]? = some d := fun i d q => by
        unfold env0 at q
        by_cases hi : i < ds.length
        · rw [List.getElem?_append_left (by simpa using hi), List.getElem?_map] at q
          cases z : ds[i]? with
          | none => rw [z] at q; cases q
          | some a => rw [z] at q; cases q; exact ⟨hi, rfl⟩
        · rw [List.getElem?_append_right (by simpa using hi), List.getElem?_replicate] at q
          split at q <;> cases q
      have noM : ∀ i d, i ∈ M → (env0 C.N.length ds)[i]? = some (some d) → False := fun i d hi q => by
        have h1 := (low i d q).1
        have h2 := List.all_eq_true.mp hm i hi
        have h2 : ps.length ≤ i := of_decide_eq_true h2
        omega
      refine ⟨Le.refl he, ?_, fun i d hi q => ?_, fun i d hi q => (noM i d hi q).elim, fun i j p d e hi hj q1 => (noM i d hi q1).elim⟩
      · show (env0 C.N.length ds).length ≤ (L2.start C.N vs).length
        unfold env0 L2.start
        simp [hN]
      · obtain ⟨h1, h2⟩ := low i d q
        obtain ⟨v, q1, q2⟩ := r.get h2
        refine ⟨v, ?_, q2⟩
        show (L2.start C.N vs)[i]? = _
        unfold L2.start
        rw [List.getElem?_append_left (by rw [List.length_map, ← hN]; exact h1), List.getElem?_map, q1]
        rfl
    · unfold runFn at hp
      show PstS K mg M Hs H (execs (fnsOf cs) M body (env0 C.N.length ds)) _ _
      cases z : execs (fnsOf cs) M body (env0 C.N.length ds) with
      | ok fl =>
        rw [z] at hp
        cases fl with
        | nx ρ => exact fun Hs σ H I => hp _ _ _ I.le .non
        | rt d => exact hp
        | xc x ρ => exact fun c d Hs σ H I xr => hp c d Hs H I.le xr
        | bk ρ => exact hp.elim
        | ct ρ => exact hp.elim
      | exc x => rw [z] at hp; exact hp.elim
      | stuck => rw [z] at hp; exact hp.elim
end Py

namespace Py
open PySem PySem.Spec PyProof.Rows L2
/-! ## what the top has written; calls; the end -/
theorem Cal.Ok.mono {c : Cal} {P : Program} {w : World} {K : PySem.W.Frag} {mg : Str → Option Value} {base : Heap} {j k : Nat} (h : c.Ok P w K mg base j) (l : j ≤ k) : c.Ok P w K mg base k := ⟨h.ok.mono l, h.gl, h.kp, h.bd⟩
structure FactP (K : PySem.W.Frag) (x : Str) (st : Stmt) (f : Addr) (fd : FuncData) : Prop where
  a : PySem.W.nsIn K mainGlobals x = some (some (.ref f))
  F : Fun K x x st f fd
theorem fact_mk {K : PySem.W.Frag} {x : Str} {st : Stmt} {f : Addr} {oc : Value} {od an : Option Addr} {osl : Array (Option Value)} {kV doc pm cdv ct : Value} (a : PySem.W.nsIn K mainGlobals x = some (some (.ref f)))
    (l : K.lookup f = some ⟨oc, od, .func (PySem.W.fnOf x x (defArgs st) (defBody st) (defScope st) .none kV doc pm an cdv ct), osl⟩)
    (c : PySem.W.codeIn K cdv x = true) (k : PySem.W.keepIn K (.ref f) = true) : FactP K x st f (PySem.W.fnOf x x (defArgs st) (defBody st) (defScope st) .none kV doc pm an cdv ct) := ⟨a, fun_mk l c k⟩
section
variable {P : Program} {w : World} {K : PySem.W.Frag} {mg : Str → Option Value} {base : Heap}
theorem fns_nil {k : Nat} : ∀ c ∈ ([] : List Cal), c.Ok P w K mg base k := fun c h => by cases h
theorem fns_cons {c : Cal} {cs : List Cal} {j k : Nat} (h : c.Ok P w K mg base j) (l : j ≤ k) (t : ∀ c ∈ cs, c.Ok P w K mg base k) : ∀ d ∈ c :: cs, d.Ok P w K mg base k := fun d hd => by
  rcases List.mem_cons.mp hd with rfl | hd
  · exact h.mono l
  · exact t d hd
theorem free_nil : ∀ x ∈ ([] : List Str), mg x = none := fun x hx => by cases hx
theorem free_cons {x : Str} {l : List Str} (h : mg x = none) (t : ∀ y ∈ l, mg y = none) : ∀ y ∈ x :: l, mg y = none := fun y hy => by
  rcases List.mem_cons.mp hy with rfl | hy
  · exact h
  · exact t y hy
theorem glob_nil : ∀ p ∈ ([] : List (Str × Cst)), ∃ u, mg p.1 = some u ∧ RelV p.2.v u := fun x hx => by cases hx
theorem glob_cons {x : Str} {c : Cst} {l : List (Str × Cst)} (h : ∃ u, mg x = some u ∧ RelV c.v u) (t : ∀ p ∈ l, ∃ u, mg p.1 = some u ∧ RelV p.2.v u) : ∀ p ∈ (x, c) :: l, ∃ u, mg p.1 = some u ∧ RelV p.2.v u := fun p hp => by
  rcases List.mem_cons.mp hp with rfl | hp
  · exact h
  · exact t p hp
theorem cal_ok {x : Str} {st : Stmt} {f : Addr} {fd : FuncData} {ps : List Str} {k : Nat} {C : Cfg} {cs : List Cal} {M : List Nat} {body : Ss} {n : Nat}
    (F : FactP K x st f fd) (gl : mg x = some (.ref f)) (S : FnScope C.N ps (defScope st)) (bd : Binds K fd ps []) (fns : ∀ c ∈ cs, c.Ok P w K mg base k) (cn : C.cn = cs.map fun c => (c.name, c.ps.length)) (free : ∀ x ∈ C.bl, mg x = none) (glob : ∀ p ∈ C.gl, ∃ u, mg p.1 = some u ∧ RelV p.2.v u)
    (hb : chkSs C (defScope st) M body (defBody st) = true) (hm : (M.all fun i => decide (ps.length ≤ i)) = true) (hn : C.N.length = n) {g : List D → R D} (hg : runFn (fnsOf cs) n M body = g) : (Cal.mk x f fd ps g).Ok P w K mg base (k + 1) :=
  ⟨by subst hn; subst hg; exact def_ok F.F S fns cn free glob hb hm, gl, F.F.kp, bd⟩
/-- the law's promise, by its script alone -/
def spL (K : PySem.W.Frag) (n : Nat) : Sp := fun vs H Q _ => ∃ (a : Addr) (ns : List Int), vs = [.ref a] ∧ ns.length ≤ n ∧ Only H ∧ SqL K H a (ns.map V.int) ∧ ∀ H', Q (.bl true) H'
theorem end_ok {c : Cal} {k n : Nat} (h : c.Ok P w K mg base k) {x : Str} (hx : c.ps = [x]) (hg : ∀ ns : List Int, ns.length ≤ n → c.g [.scr ns] = .ok (.bl true)) : FnOk P w K mg base (L2.CX P w) k c.f c.fd [x] (spL K n) := by
  have ho := h.ok
  rw [hx] at ho
  refine ho.imp fun vs H Q E q => ?_
  obtain ⟨a, ns, rfl, hl, hO, hS, hQ⟩ := q
  refine ⟨H, [.scr ns], Ex.refl _, .cons (.scr ?_) .nil, rfl, ?_⟩
  · rcases hS with hS | hS
    · rcases hS with hS | ⟨o, hS⟩
      · rcases hO a with q | ⟨o, xs, q⟩
        · rw [q] at hS; cases hS
        · rw [q] at hS; cases hS
      · exact .inl ⟨o, hS⟩
    · exact .inr fun H' => .inr hS
  · rw [hg ns hl]
    intro v Hi H' _ r
    rw [r.blI]
    exact hQ _
theorem cx_never {P : Program} {w : World} {H : Hp} {s : Shared} {e : Value} {s' : Shared} (h : L2.CX P w [] H s (fun _ _ _ => False) e s') : False := by
  obtain ⟨_, _, _, _, _, _, _, _, _, _, _, _, z⟩ := h
  exact z
end
end Py

namespace Py
open PySem PySem.Spec PyProof.Rows L2
/-! ## plain lemmas for the pure part -/
theorem log2_small {n : Nat} (h : n < 18446744073709551616) : (n.log2 < 9000) = True := by
  refine eq_true ?_
  by_cases h0 : n = 0
  · subst h0; decide
  · have h1 : n.log2 < 64 := (Nat.log2_lt h0).mpr (by simpa using h)
    omega
/-- ints as data in lists -/
theorem forGo_nil {t : Tgt} {body : Env → R Fl} {ρ : Env} : forGo t body [] ρ = .ok (.nx ρ) := rfl
theorem forGo_cons {t : Tgt} {body : Env → R Fl} {d : D} {ds : List D} {ρ : Env} : forGo t body (d :: ds) ρ = bindT t d ρ fun ρ1 => match body ρ1 with
    | .ok (.nx ρ') => forGo t body ds ρ'
    | .ok (.ct ρ') => forGo t body ds ρ'
    | .ok (.bk ρ') => .ok (.nx ρ')
    | r => r := rfl
theorem forGo_nx {t : Tgt} {body : Env → R Fl} {d : D} {ds : List D} {ρ ρ1 ρ2 : Env} (h1 : t.bind d ρ = .ok ρ1) (h2 : body ρ1 = .ok (.nx ρ2)) : forGo t body (d :: ds) ρ = forGo t body ds ρ2 := by
  rw [forGo_cons, bindT, h1]
  show (match body ρ1 with | .ok (.nx ρ') => forGo t body ds ρ' | .ok (.ct ρ') => forGo t body ds ρ' | .ok (.bk ρ') => .ok (.nx ρ') | r => r) = _
  rw [h2]
theorem forGo_ct {t : Tgt} {body : Env → R Fl} {d : D} {ds : List D} {ρ ρ1 ρ2 : Env} (h1 : t.bind d ρ = .ok ρ1) (h2 : body ρ1 = .ok (.ct ρ2)) : forGo t body (d :: ds) ρ = forGo t body ds ρ2 := by
  rw [forGo_cons, bindT, h1]
  show (match body ρ1 with | .ok (.nx ρ') => forGo t body ds ρ' | .ok (.ct ρ') => forGo t body ds ρ' | .ok (.bk ρ') => .ok (.nx ρ') | r => r) = _
  rw [h2]
theorem forGo_rt {t : Tgt} {body : Env → R Fl} {d v : D} {ds : List D} {ρ ρ1 : Env} (h1 : t.bind d ρ = .ok ρ1) (h2 : body ρ1 = .ok (.rt v)) : forGo t body (d :: ds) ρ = .ok (.rt v) := by
  rw [forGo_cons, bindT, h1]
  show (match body ρ1 with | .ok (.nx ρ') => forGo t body ds ρ' | .ok (.ct ρ') => forGo t body ds ρ' | .ok (.bk ρ') => .ok (.nx ρ') | r => r) = _
  rw [h2]
theorem forGo_bk {t : Tgt} {body : Env → R Fl} {d : D} {ds : List D} {ρ ρ1 ρ2 : Env} (h1 : t.bind d ρ = .ok ρ1) (h2 : body ρ1 = .ok (.bk ρ2)) : forGo t body (d :: ds) ρ = .ok (.nx ρ2) := by
  rw [forGo_cons, bindT, h1]
  show (match body ρ1 with | .ok (.nx ρ') => forGo t body ds ρ' | .ok (.ct ρ') => forGo t body ds ρ' | .ok (.bk ρ') => .ok (.nx ρ') | r => r) = _
  rw [h2]
theorem lcGo_map {α : Type} {f : D → R (Option D)} {enc : α → D} {g : α → D} : ∀ (xs : List α), (∀ x ∈ xs, f (enc x) = .ok (some (g x))) → lcGo f (xs.map enc) = .ok (xs.map g)
  | [], _ => rfl
  | x :: xs, h => by
    have e := lcGo_map (f := f) (enc := enc) (g := g) xs fun y hy => h y (by simp [hy])
    rw [List.map_cons, lcGo, h x (by simp), e]
    rfl
theorem lcGo_mapD {f : D → R (Option D)} {g : D → D} : ∀ (xs : List D), (∀ x ∈ xs, f x = .ok (some (g x))) → lcGo f xs = .ok (xs.map g)
  | [], _ => rfl
  | x :: xs, h => by
    have e := lcGo_mapD (f := f) (g := g) xs fun y hy => h y (by simp [hy])
    rw [List.map_cons, lcGo, h x (by simp), e]
    rfl
theorem ev_lc_map {Φ : Fns} {t : Tgt} {it : It} {ifs : Es} {e : E} {ρ : Env} {α : Type} (enc : α → D) (g : α → D) (xs : List α) (hit : evIt Φ it ρ = .ok (xs.map enc)) (hlen : xs.length ≤ 16777215)
    (h : ∀ x ∈ xs, lcF (evTests Φ ifs) (ev Φ e) t ρ (enc x) = .ok (some (g x))) : ev Φ (.lc t it ifs e) ρ = .ok (.lst (xs.map g)) := by
  rw [ev, hit]
  show (if (xs.map enc).length ≤ 16777215 then (lcGo (lcF (evTests Φ ifs) (ev Φ e) t ρ) (xs.map enc) >>= fun l => R.ok (D.lst l)) else .stuck) = _
  rw [List.length_map, if_pos hlen, lcGo_map xs h]
  rfl
theorem rangeD_ok {lo hi : Int} (h : -1000000 ≤ lo) (h2 : hi ≤ 1000000) (h3 : lo ≤ 1000000) (h4 : -1000000 ≤ hi) : rangeD lo hi = .ok ((List.range (hi - lo).toNat).map fun i => .int (lo + (i : Nat))) := by
  unfold rangeD
  rw [if_pos (by omega)]
theorem rangeD_nat {n : Nat} (h : n ≤ 1000000) : rangeD 0 (n : Int) = .ok ((List.range n).map fun i => .int (i : Nat)) := by
  rw [rangeD_ok (by omega) (by omega) (by omega) (by omega)]
  simp
/-- pairs of ints -/
def pd2 (p : Int × Int) : D := .tup [.int p.1, .int p.2]
theorem sortOk_pd2 (xs : List (Int × Int)) : sortOk (xs.map pd2) = true := by
  unfold sortOk
  simp only [Bool.and_eq_true, List.all_eq_true, decide_eq_true_eq, Bool.or_eq_true, List.mem_map, forall_exists_index, and_imp, forall_apply_eq_imp_iff₂]
  refine ⟨⟨⟨fun a _ => rfl, fun a _ b _ => rfl⟩, fun a _ => Nat.le_of_ble_eq_true rfl⟩, .inl fun a _ => rfl⟩
theorem ix_tup_nat {xs : List D} {j : Nat} {d : D} (h : xs[j]? = some d) : D.ix (.tup xs) (.int (j : Int)) = .ok d := by
  show (match atI xs (j : Int) with | some d => R.ok d | none => .stuck) = _
  rw [atI_nat h]
theorem ix_lst_nat {xs : List D} {j : Nat} {d : D} (h : xs[j]? = some d) : D.ix (.lst xs) (.int (j : Int)) = .ok d := by
  show (match atI xs (j : Int) with | some d => R.ok d | none => .stuck) = _
  rw [atI_nat h]
theorem ix_scr_nat {xs : List Int} {j : Nat} {d : Int} (h : xs[j]? = some d) : D.ix (.scr xs) (.int (j : Int)) = .ok (.int d) := by
  show (match atI xs (j : Int) with | some n => R.ok (D.int n) | none => .stuck) = _
  rw [atI_nat h]
section
variable (a b c d e : D) (l xs ys : List D) (i j : Int) (p q : Bool) (ns : List Int)
theorem truth_non : D.truth .non = .ok false := Eq.trans rfl rfl
theorem truth_int : D.truth (.int i) = .ok (i != 0) := Eq.trans rfl rfl
theorem truth_lst : D.truth (.lst xs) = .ok (!xs.isEmpty) := Eq.trans rfl rfl
theorem truth_tup : D.truth (.tup xs) = .ok (!xs.isEmpty) := Eq.trans rfl rfl
theorem ix_t0 : D.ix (.tup (a :: l)) (.int 0) = .ok a := ix_tup_nat (j := 0) rfl
theorem ix_t1 : D.ix (.tup (a :: b :: l)) (.int 1) = .ok b := ix_tup_nat (j := 1) rfl
theorem ix_t2 : D.ix (.tup (a :: b :: c :: l)) (.int 2) = .ok c := ix_tup_nat (j := 2) rfl
theorem ix_t3 : D.ix (.tup (a :: b :: c :: d :: l)) (.int 3) = .ok d := ix_tup_nat (j := 3) rfl
theorem ix_t4 : D.ix (.tup (a :: b :: c :: d :: e :: l)) (.int 4) = .ok e := ix_tup_nat (j := 4) rfl
theorem ix_l0 : D.ix (.lst (a :: l)) (.int 0) = .ok a := ix_lst_nat (j := 0) rfl
theorem ix_l1 : D.ix (.lst (a :: b :: l)) (.int 1) = .ok b := ix_lst_nat (j := 1) rfl
theorem ix_l2 : D.ix (.lst (a :: b :: c :: l)) (.int 2) = .ok c := ix_lst_nat (j := 2) rfl
theorem ix_l3 : D.ix (.lst (a :: b :: c :: d :: l)) (.int 3) = .ok d := ix_lst_nat (j := 3) rfl
theorem len_lst : D.len (.lst xs) = .ok (.int xs.length) := Eq.trans rfl rfl
theorem len_tup : D.len (.tup xs) = .ok (.int xs.length) := Eq.trans rfl rfl
theorem len_scr : D.len (.scr ns) = .ok (.int ns.length) := Eq.trans rfl rfl
theorem ltD_int : D.lt (.int i) (.int j) = .ok (.bl (decide (i < j))) := Eq.trans rfl rfl
theorem eqD_int : D.eq (.int i) (.int j) = .ok (.bl (decide (i = j))) := Eq.trans rfl rfl
theorem eqD_bl : D.eq (.bl p) (.bl q) = .ok (.bl (decide (p = q))) := Eq.trans rfl rfl
theorem ne_int : D.ne (.int i) (.int j) = .ok (.bl (!decide (i = j))) := Eq.trans rfl rfl
theorem ne_bl : D.ne (.bl p) (.bl q) = .ok (.bl (!decide (p = q))) := Eq.trans rfl rfl
theorem cmpI_int (f : Int → Int → Bool) : D.cmpI f (.int i) (.int j) = .ok (.bl (f i j)) := Eq.trans rfl rfl
theorem add_int : D.add (.int i) (.int j) = .ok (.int (i + j)) := Eq.trans rfl rfl
theorem sub_int : D.sub (.int i) (.int j) = .ok (.int (i - j)) := Eq.trans rfl rfl
theorem add_lst : D.add (.lst xs) (.lst ys) = if xs.length + ys.length ≤ 16777216 then .ok (.lst (xs ++ ys)) else .stuck := Eq.trans rfl rfl
theorem add_tup : D.add (.tup xs) (.tup ys) = if xs.length + ys.length ≤ 16777216 then .ok (.tup (xs ++ ys)) else .stuck := Eq.trans rfl rfl
theorem mul_int : D.mul (.int i) (.int j) = if mulOk i j then .ok (.int (i * j)) else .stuck := Eq.trans rfl rfl
theorem fdiv_int : D.fdiv (.int i) (.int j) = if divOk j then .ok (.int (i / j)) else .stuck := Eq.trans rfl rfl
theorem mod_int : D.mod (.int i) (.int j) = if 0 < j then .ok (.int (i % j)) else .stuck := Eq.trans rfl rfl
theorem pow_int : D.pow (.int i) (.int j) = if powOk i j then .ok (.int (i ^ j.toNat)) else .stuck := Eq.trans rfl rfl
theorem shr_int : D.shr (.int i) (.int j) = if 0 ≤ j then .ok (.int (i / 2 ^ j.toNat)) else .stuck := Eq.trans rfl rfl
theorem negI_int : D.negI (.int i) = .ok (.int (-i)) := Eq.trans rfl rfl
theorem asB_bl : D.asB (.bl p) = .ok p := Eq.trans rfl rfl
theorem asI_int : D.asI (.int i) = .ok (some i) := Eq.trans rfl rfl
theorem items_lst : D.items (.lst xs) = .ok xs := Eq.trans rfl rfl
theorem items_tup : D.items (.tup xs) = .ok xs := Eq.trans rfl rfl
theorem listOf_lst : D.listOf (.lst xs) = .ok (.lst xs) := Eq.trans rfl rfl
theorem listOf_tup : D.listOf (.tup xs) = .ok (.lst xs) := Eq.trans rfl rfl
theorem tupOf_lst : D.tupOf (.lst xs) = .ok (.tup xs) := Eq.trans rfl rfl
theorem tupOf_tup : D.tupOf (.tup xs) = .ok (.tup xs) := Eq.trans rfl rfl
theorem rangeOf_1 : D.rangeOf [.int i] = rangeD 0 i := Eq.trans rfl rfl
theorem rangeOf_2 : D.rangeOf [.int i, .int j] = rangeD i j := Eq.trans rfl rfl
theorem f1_1 (f : D → R D) : f1 f [a] = f a := Eq.trans rfl rfl
theorem f2_2 (f : D → D → R D) : f2 f [a, b] = f a b := Eq.trans rfl rfl
theorem isNon_non : D.isNon .non = true := Eq.trans rfl rfl
theorem isNon_bl : D.isNon (.bl p) = false := Eq.trans rfl rfl
theorem isNon_int : D.isNon (.int i) = false := Eq.trans rfl rfl
theorem isNon_tup : D.isNon (.tup xs) = false := Eq.trans rfl rfl
theorem isNon_lst : D.isNon (.lst xs) = false := Eq.trans rfl rfl
end
theorem pd2_ix0 (p : Int × Int) : D.ix (pd2 p) (.int 0) = .ok (.int p.1) := ix_t0 _ _
theorem pd2_ix1 (p : Int × Int) : D.ix (pd2 p) (.int 1) = .ok (.int p.2) := ix_t1 _ _ _
theorem truth_bl (b : Bool) : D.truth (.bl b) = .ok b := Eq.trans rfl rfl
theorem allL_bl (bs : List Bool) : D.allL (.lst (bs.map D.bl)) = .ok (.bl (bs.all id)) := by
  unfold D.allL
  simp only [asBls_map]
theorem sorted_pd2 (xs : List (Int × Int)) : ∃ ys : List (Int × Int), ys.Perm xs ∧ D.sorted (.lst (xs.map pd2)) = .ok (.lst (ys.map pd2)) := by
  refine ⟨xs.mergeSort fun a b => leD (pd2 a) (pd2 b), List.mergeSort_perm _ _, ?_⟩
  unfold D.sorted
  simp only [sortOk_pd2, if_true]
  rw [List.map_mergeSort (r := fun a b => leD (pd2 a) (pd2 b)) (s := leD) (f := pd2) (fun a _ b _ => rfl)]
end Py

namespace Py_k11
open PySem PySem.Spec PyProof.Rows L2 Py
/-! ## the terms of purseborder_k11_at_or_above, printed by gen.py -/
def topS (i : Nat) : Stmt := PySem.Challenge.pw_purseborder_k11_at_or_above.main.body.getD i (.Pass ⟨0, 0, 0, 0⟩)
def b_law_cell : Ss := (.cons (.ite (.cmp .lt (.var 1) (.bi .len (.cons (.var 0) .nil))) (.cons (.ret (.bin .mod (.ix (.var 0) (.var 1)) (.bin .pow (.cst (.int 10)) (.cst (.int 40))))) .nil) .nil) (.cons (.ret (.cst (.int 0))) .nil))
def C_law_cell : Cfg := ⟨["_law_script", "_law_k"], [], ["len"], []⟩
def g_law_cell : List D → R D := runFn [] 2 [] b_law_cell
def b_law_pair : Ss := (.cons (.asg true (.nm 2) (.call 0 (.cons (.var 0) (.cons (.var 1) .nil)))) (.cons (.ite (.cmp .eq (.bin .mod (.call 0 (.cons (.var 0) (.cons (.cst (.int 0)) .nil))) (.cst (.int 3))) (.cst (.int 1))) (.cons (.ret (.tup (.cons (.bin .mod (.var 2) (.bin .pow (.cst (.int 10)) (.cst (.int 30)))) (.cons (.bin .mod (.bin .fdiv (.var 2) (.cst (.int 7))) (.bin .pow (.cst (.int 10)) (.cst (.int 30)))) .nil)))) .nil) .nil) (.cons (.ret (.tup (.cons (.bin .mod (.var 2) (.cst (.int 4))) (.cons (.bin .mod (.bin .fdiv (.var 2) (.cst (.int 4))) (.cst (.int 4))) .nil)))) .nil)))
def C_law_pair : Cfg := ⟨["_law_script", "_law_k", "_law_cell_here"], [], [], [("_law_cell", 2)]⟩
def g_law_pair : List D → R D := runFn [(2, g_law_cell)] 3 [] b_law_pair
def L_law_held_0 : Ss := (.cons (.ite (.and (.cons (.cmp .ge (.ix (.var 1) (.cst (.int 0))) (.var 2)) (.cons (.cmp .ge (.ix (.var 1) (.cst (.int 1))) (.var 3)) .nil))) (.cons (.ret (.cst (.bl true))) .nil) .nil) .nil)
def b_law_held : Ss := (.cons (.for_ true (.tp [2, 3]) (.val (.var 0)) L_law_held_0) (.cons (.ret (.cst (.bl false))) .nil))
def C_law_held : Cfg := ⟨["_law_border_here", "_law_pair_here", "_law_x", "_law_y"], [], [], []⟩
def g_law_held : List D → R D := runFn [] 4 [] b_law_held
def lc_law_border_0 : E := .lc (.nm 6) (.range (.cons (.var 2) .nil)) .nil (.call 0 (.cons (.var 0) (.cons (.bin .add (.var 1) (.var 6)) .nil)))
def L_law_border_0 : Ss := (.cons (.ite (.not (.call 1 (.cons (.var 4) (.cons (.var 5) .nil)))) (.cons (.app true 4 (.var 5)) .nil) .nil) .nil)
def b_law_border : Ss := (.cons (.asg true (.nm 3) (.bi .sorted (.cons lc_law_border_0 .nil))) (.cons (.own true 4 (.disp .nil)) (.cons (.for_ true (.nm 5) (.val (.var 3)) L_law_border_0) (.cons (.ret (.bi .tuple (.cons (.var 4) .nil))) .nil))))
def C_law_border : Cfg := ⟨["_law_script", "_law_at", "_law_many", "_law_drawn", "_law_found", "_law_pair_here", "_law_k"], [], ["sorted", "range", "tuple"], [("_law_pair", 2), ("_law_held", 2)]⟩
def g_law_border : List D → R D := runFn [(2, g_law_pair), (2, g_law_held)] 7 [4] b_law_border
def b_law_truth : Ss := (.cons (.ret (.and (.cons (.isi (.var 0) .bool) (.cons (.cmp .eq (.var 0) (.var 1)) .nil)))) .nil)
def C_law_truth : Cfg := ⟨["_law_found", "_law_due"], [], ["isinstance", "bool"], []⟩
def g_law_truth : List D → R D := runFn [] 2 [] b_law_truth
def b_at_or_above : Ss := (.cons (.ret (.and (.cons (.cmp .ge (.ix (.var 0) (.cst (.int 0))) (.ix (.var 1) (.cst (.int 0)))) (.cons (.cmp .ge (.ix (.var 0) (.cst (.int 1))) (.ix (.var 1) (.cst (.int 1)))) .nil)))) .nil)
def C_at_or_above : Cfg := ⟨["pair", "other"], [], [], []⟩
def g_at_or_above : List D → R D := runFn [] 2 [] b_at_or_above
def L_holds_0 : Ss := (.cons (.ite (.call 0 (.cons (.var 1) (.cons (.var 2) .nil))) (.cons (.ret (.cst (.bl true))) .nil) .nil) .nil)
def b_holds : Ss := (.cons (.for_ true (.nm 2) (.val (.var 0)) L_holds_0) (.cons (.ret (.cst (.bl false))) .nil))
def C_holds : Cfg := ⟨["border", "pair", "least"], [], [], [("at_or_above", 2)]⟩
def g_holds : List D → R D := runFn [(2, g_at_or_above)] 3 [] b_holds
def L_law_0 : Ss := (.cons (.asg true (.nm 4) (.bin .add (.var 4) (.lst (.cons (.tup (.cons (.bi .max2 (.cons (.cst (.int 0)) (.cons (.bin .sub (.var 5) (.cst (.int 1))) .nil))) (.cons (.var 6) .nil))) (.cons (.tup (.cons (.var 5) (.cons (.bi .max2 (.cons (.cst (.int 0)) (.cons (.bin .sub (.var 6) (.cst (.int 1))) .nil))) .nil))) .nil))))) .nil)
def lc_law_0 : E := .lc (.nm 7) (.val (.var 4)) .nil (.call 3 (.cons (.call 5 (.cons (.var 3) (.cons (.var 7) .nil))) (.cons (.call 6 (.cons (.var 3) (.cons (.var 7) .nil))) .nil)))
def b_law : Ss := (.cons (.asg true (.nm 1) (.call 0 (.cons (.var 0) (.cons (.cst (.int 1)) .nil)))) (.cons (.asg true (.nm 2) (.call 0 (.cons (.var 0) (.cons (.cst (.int 2)) .nil)))) (.cons (.asg true (.nm 3) (.call 1 (.cons (.var 0) (.cons (.cst (.int 4)) (.cons (.bin .mod (.call 2 (.cons (.var 0) (.cons (.cst (.int 3)) .nil))) (.cst (.int 7))) .nil))))) (.cons (.ite (.not (.call 3 (.cons (.call 4 (.cons (.var 1) (.cons (.var 2) .nil))) (.cons (.and (.cons (.cmp .ge (.ix (.var 1) (.cst (.int 0))) (.ix (.var 2) (.cst (.int 0)))) (.cons (.cmp .ge (.ix (.var 1) (.cst (.int 1))) (.ix (.var 2) (.cst (.int 1)))) .nil))) .nil)))) (.cons (.ret (.cst (.bl false))) .nil) .nil) (.cons (.ite (.not (.call 3 (.cons (.call 4 (.cons (.var 2) (.cons (.var 1) .nil))) (.cons (.and (.cons (.cmp .ge (.ix (.var 2) (.cst (.int 0))) (.ix (.var 1) (.cst (.int 0)))) (.cons (.cmp .ge (.ix (.var 2) (.cst (.int 1))) (.ix (.var 1) (.cst (.int 1)))) .nil))) .nil)))) (.cons (.ret (.cst (.bl false))) .nil) .nil) (.cons (.asg true (.nm 4) (.bin .add (.lst (.cons (.var 1) (.cons (.var 2) .nil))) (.bi .list (.cons (.var 3) .nil)))) (.cons (.for_ true (.tp [5, 6]) (.val (.var 3)) L_law_0) (.cons (.ret (.bi .all (.cons lc_law_0 .nil))) .nil))))))))
def C_law : Cfg := ⟨["_law_script", "_law_one", "_law_other", "_law_border_here", "_law_asked", "_law_x", "_law_y", "_law_pair_here"], [], ["list", "max", "all"], [("_law_pair", 2), ("_law_border", 3), ("_law_cell", 2), ("_law_truth", 2), ("at_or_above", 2), ("holds", 2), ("_law_held", 2)]⟩
def g_law : List D → R D := runFn [(2, g_law_pair), (3, g_law_border), (2, g_law_cell), (2, g_law_truth), (2, g_at_or_above), (2, g_holds), (2, g_law_held)] 8 [] b_law
theorem S_law_cell : FnScope C_law_cell.N ["_law_script", "_law_k"] (defScope (topS 4)) := ⟨rfl, rfl, rfl, by decide +kernel, rfl, by decide +kernel, by decide +kernel⟩
theorem chk_law_cell : chkSs C_law_cell (defScope (topS 4)) [] b_law_cell (defBody (topS 4)) = true := by decide +kernel
theorem S_law_pair : FnScope C_law_pair.N ["_law_script", "_law_k"] (defScope (topS 6)) := ⟨rfl, rfl, rfl, by decide +kernel, rfl, by decide +kernel, by decide +kernel⟩
theorem chk_law_pair : chkSs C_law_pair (defScope (topS 6)) [] b_law_pair (defBody (topS 6)) = true := by decide +kernel
theorem S_law_held : FnScope C_law_held.N ["_law_border_here", "_law_pair_here"] (defScope (topS 5)) := ⟨rfl, rfl, rfl, by decide +kernel, rfl, by decide +kernel, by decide +kernel⟩
theorem chk_law_held : chkSs C_law_held (defScope (topS 5)) [] b_law_held (defBody (topS 5)) = true := by decide +kernel
theorem S_law_border : FnScope C_law_border.N ["_law_script", "_law_at", "_law_many"] (defScope (topS 7)) := ⟨rfl, rfl, rfl, by decide +kernel, rfl, by decide +kernel, by decide +kernel⟩
theorem chk_law_border : chkSs C_law_border (defScope (topS 7)) [4] b_law_border (defBody (topS 7)) = true := by decide +kernel
theorem S_law_truth : FnScope C_law_truth.N ["_law_found", "_law_due"] (defScope (topS 8)) := ⟨rfl, rfl, rfl, by decide +kernel, rfl, by decide +kernel, by decide +kernel⟩
theorem chk_law_truth : chkSs C_law_truth (defScope (topS 8)) [] b_law_truth (defBody (topS 8)) = true := by decide +kernel
theorem S_at_or_above : FnScope C_at_or_above.N ["pair", "other"] (defScope (topS 1)) := ⟨rfl, rfl, rfl, by decide +kernel, rfl, by decide +kernel, by decide +kernel⟩
theorem chk_at_or_above : chkSs C_at_or_above (defScope (topS 1)) [] b_at_or_above (defBody (topS 1)) = true := by decide +kernel
theorem S_holds : FnScope C_holds.N ["border", "pair"] (defScope (topS 2)) := ⟨rfl, rfl, rfl, by decide +kernel, rfl, by decide +kernel, by decide +kernel⟩
theorem chk_holds : chkSs C_holds (defScope (topS 2)) [] b_holds (defBody (topS 2)) = true := by decide +kernel
theorem S_law : FnScope C_law.N ["_law_script"] (defScope (topS 9)) := ⟨rfl, rfl, rfl, by decide +kernel, rfl, by decide +kernel, by decide +kernel⟩
theorem chk_law : chkSs C_law (defScope (topS 9)) [] b_law (defBody (topS 9)) = true := by decide +kernel
theorem all_ok {P : Program} {w : World} {K : PySem.W.Frag} {h : Heap} {mg : Str → Option Value} {fa : Addr} (X : K.In h) (G : h.Ns mainGlobals mg) (hfa : mg "law" = some (.ref fa)) {f_law_cell f_law_pair f_law_held f_law_border f_law_truth f_at_or_above f_holds f_law : Addr} {fd_law_cell fd_law_pair fd_law_held fd_law_border fd_law_truth fd_at_or_above fd_holds fd_law : FuncData} (h_law_cell : FactP K "_law_cell" (topS 4) f_law_cell fd_law_cell) (h_law_pair : FactP K "_law_pair" (topS 6) f_law_pair fd_law_pair) (h_law_held : FactP K "_law_held" (topS 5) f_law_held fd_law_held) (h_law_border : FactP K "_law_border" (topS 7) f_law_border fd_law_border) (h_law_truth : FactP K "_law_truth" (topS 8) f_law_truth fd_law_truth) (h_at_or_above : FactP K "at_or_above" (topS 1) f_at_or_above fd_at_or_above) (h_holds : FactP K "holds" (topS 2) f_holds fd_holds) (h_law : FactP K "law" (topS 9) f_law fd_law) (z_len : PySem.W.nsIn K mainGlobals "len" = some none) (z_sorted : PySem.W.nsIn K mainGlobals "sorted" = some none) (z_range : PySem.W.nsIn K mainGlobals "range" = some none) (z_tuple : PySem.W.nsIn K mainGlobals "tuple" = some none) (z_isinstance : PySem.W.nsIn K mainGlobals "isinstance" = some none) (z_bool : PySem.W.nsIn K mainGlobals "bool" = some none) (z_list : PySem.W.nsIn K mainGlobals "list" = some none) (z_max : PySem.W.nsIn K mainGlobals "max" = some none) (z_all : PySem.W.nsIn K mainGlobals "all" = some none) 
    (hg : ∀ ns : List Int, ns.length ≤ 63 → g_law [.scr ns] = .ok (.bl true)) :
    ∃ fd : FuncData, (∀ (s : Shared) (v : Value), BindsTo s fd ⟨[v], []⟩ [("_law_script", v)]) ∧ ∀ base : Heap, K.In base → base.Ns mainGlobals mg → FnOk P w K mg base (L2.CX P w) 4 fa fd ["_law_script"] (spL K 63) := by
  have e := hfa.symm.trans (PySem.W.mg_of X G h_law.a)
  have e2 : f_law = fa := by cases e; rfl
  subst e2
  refine ⟨fd_law, fun s v => ?_, fun base _ _ => ?_⟩
  · obtain ⟨oc, od, kV, doc, pm, an, cdv, ct, osl, rfl, lk, hcd⟩ := h_law.F.ex
    exact .of_eq rfl
  have c_law_cell : (Cal.mk "_law_cell" f_law_cell fd_law_cell ["_law_script", "_law_k"] g_law_cell).Ok P w K mg base 1 := cal_ok (C := C_law_cell) (cs := []) (M := []) (body := b_law_cell) (n := 2) (g := g_law_cell) h_law_cell (PySem.W.mg_of X G h_law_cell.a) S_law_cell (h_law_cell.F.binds (ps := ["_law_script", "_law_k"]) fun _ _ _ _ _ _ us hl => match us, hl with | [_, _], _ => rfl) fns_nil (by rfl) (free_cons (PySem.W.mg_none_of X G z_len) free_nil) glob_nil chk_law_cell (by decide) (by rfl) (by rfl)
  have c_law_pair : (Cal.mk "_law_pair" f_law_pair fd_law_pair ["_law_script", "_law_k"] g_law_pair).Ok P w K mg base 2 := cal_ok (C := C_law_pair) (cs := [Cal.mk "_law_cell" f_law_cell fd_law_cell ["_law_script", "_law_k"] g_law_cell]) (M := []) (body := b_law_pair) (n := 3) (g := g_law_pair) h_law_pair (PySem.W.mg_of X G h_law_pair.a) S_law_pair (h_law_pair.F.binds (ps := ["_law_script", "_law_k"]) fun _ _ _ _ _ _ us hl => match us, hl with | [_, _], _ => rfl) (fns_cons c_law_cell (by decide) fns_nil) (by rfl) free_nil glob_nil chk_law_pair (by decide) (by rfl) (by rfl)
  have c_law_held : (Cal.mk "_law_held" f_law_held fd_law_held ["_law_border_here", "_law_pair_here"] g_law_held).Ok P w K mg base 1 := cal_ok (C := C_law_held) (cs := []) (M := []) (body := b_law_held) (n := 4) (g := g_law_held) h_law_held (PySem.W.mg_of X G h_law_held.a) S_law_held (h_law_held.F.binds (ps := ["_law_border_here", "_law_pair_here"]) fun _ _ _ _ _ _ us hl => match us, hl with | [_, _], _ => rfl) fns_nil (by rfl) free_nil glob_nil chk_law_held (by decide) (by rfl) (by rfl)
  have c_law_border : (Cal.mk "_law_border" f_law_border fd_law_border ["_law_script", "_law_at", "_law_many"] g_law_border).Ok P w K mg base 3 := cal_ok (C := C_law_border) (cs := [Cal.mk "_law_pair" f_law_pair fd_law_pair ["_law_script", "_law_k"] g_law_pair, Cal.mk "_law_held" f_law_held fd_law_held ["_law_border_here", "_law_pair_here"] g_law_held]) (M := [4]) (body := b_law_border) (n := 7) (g := g_law_border) h_law_border (PySem.W.mg_of X G h_law_border.a) S_law_border (h_law_border.F.binds (ps := ["_law_script", "_law_at", "_law_many"]) fun _ _ _ _ _ _ us hl => match us, hl with | [_, _, _], _ => rfl) (fns_cons c_law_pair (by decide) (fns_cons c_law_held (by decide) fns_nil)) (by rfl) (free_cons (PySem.W.mg_none_of X G z_sorted) (free_cons (PySem.W.mg_none_of X G z_range) (free_cons (PySem.W.mg_none_of X G z_tuple) free_nil))) glob_nil chk_law_border (by decide) (by rfl) (by rfl)
  have c_law_truth : (Cal.mk "_law_truth" f_law_truth fd_law_truth ["_law_found", "_law_due"] g_law_truth).Ok P w K mg base 1 := cal_ok (C := C_law_truth) (cs := []) (M := []) (body := b_law_truth) (n := 2) (g := g_law_truth) h_law_truth (PySem.W.mg_of X G h_law_truth.a) S_law_truth (h_law_truth.F.binds (ps := ["_law_found", "_law_due"]) fun _ _ _ _ _ _ us hl => match us, hl with | [_, _], _ => rfl) fns_nil (by rfl) (free_cons (PySem.W.mg_none_of X G z_isinstance) (free_cons (PySem.W.mg_none_of X G z_bool) free_nil)) glob_nil chk_law_truth (by decide) (by rfl) (by rfl)
  have c_at_or_above : (Cal.mk "at_or_above" f_at_or_above fd_at_or_above ["pair", "other"] g_at_or_above).Ok P w K mg base 1 := cal_ok (C := C_at_or_above) (cs := []) (M := []) (body := b_at_or_above) (n := 2) (g := g_at_or_above) h_at_or_above (PySem.W.mg_of X G h_at_or_above.a) S_at_or_above (h_at_or_above.F.binds (ps := ["pair", "other"]) fun _ _ _ _ _ _ us hl => match us, hl with | [_, _], _ => rfl) fns_nil (by rfl) free_nil glob_nil chk_at_or_above (by decide) (by rfl) (by rfl)
  have c_holds : (Cal.mk "holds" f_holds fd_holds ["border", "pair"] g_holds).Ok P w K mg base 2 := cal_ok (C := C_holds) (cs := [Cal.mk "at_or_above" f_at_or_above fd_at_or_above ["pair", "other"] g_at_or_above]) (M := []) (body := b_holds) (n := 3) (g := g_holds) h_holds (PySem.W.mg_of X G h_holds.a) S_holds (h_holds.F.binds (ps := ["border", "pair"]) fun _ _ _ _ _ _ us hl => match us, hl with | [_, _], _ => rfl) (fns_cons c_at_or_above (by decide) fns_nil) (by rfl) free_nil glob_nil chk_holds (by decide) (by rfl) (by rfl)
  have c_law : (Cal.mk "law" f_law fd_law ["_law_script"] g_law).Ok P w K mg base 4 := cal_ok (C := C_law) (cs := [Cal.mk "_law_pair" f_law_pair fd_law_pair ["_law_script", "_law_k"] g_law_pair, Cal.mk "_law_border" f_law_border fd_law_border ["_law_script", "_law_at", "_law_many"] g_law_border, Cal.mk "_law_cell" f_law_cell fd_law_cell ["_law_script", "_law_k"] g_law_cell, Cal.mk "_law_truth" f_law_truth fd_law_truth ["_law_found", "_law_due"] g_law_truth, Cal.mk "at_or_above" f_at_or_above fd_at_or_above ["pair", "other"] g_at_or_above, Cal.mk "holds" f_holds fd_holds ["border", "pair"] g_holds, Cal.mk "_law_held" f_law_held fd_law_held ["_law_border_here", "_law_pair_here"] g_law_held]) (M := []) (body := b_law) (n := 8) (g := g_law) h_law (PySem.W.mg_of X G h_law.a) S_law (h_law.F.binds (ps := ["_law_script"]) fun _ _ _ _ _ _ us hl => match us, hl with | [_], _ => rfl) (fns_cons c_law_pair (by decide) (fns_cons c_law_border (by decide) (fns_cons c_law_cell (by decide) (fns_cons c_law_truth (by decide) (fns_cons c_at_or_above (by decide) (fns_cons c_holds (by decide) (fns_cons c_law_held (by decide) fns_nil))))))) (by rfl) (free_cons (PySem.W.mg_none_of X G z_list) (free_cons (PySem.W.mg_none_of X G z_max) (free_cons (PySem.W.mg_none_of X G z_all) free_nil))) glob_nil chk_law (by decide) (by rfl) (by rfl)
  exact end_ok c_law rfl hg
end Py_k11
namespace Py_k11
open L2 Py
/-! ## what the defs compute -/
def cell (ns : List Int) (k : Nat) : Int := if k < ns.length then ns.getD k 0 % 10 ^ 40 else 0
theorem cell_ok (ns : List Int) (k : Nat) : g_law_cell [.scr ns, .int k] = .ok (.int (cell ns k)) := by
  unfold cell
  by_cases h : k < ns.length
  · have e : atI ns (k : Int) = some (ns.getD k 0) := atI_nat (by rw [List.getElem?_eq_getElem h, List.getD_eq_getElem?_getD, List.getElem?_eq_getElem h]; rfl)
    simp [g_law_cell, b_law_cell, runFn, env0, outD, Py.execs, Py.exec, exec_for, ev, evs, evAnd, evOr, evPart, evTests, evIt, lift, view, mask, tst, bindT, Tgt.bind, setAll, O.f, appD, extD, putD, haveL, Cop.f, Bop.f, Bi.f, divOk, powOk, mulOk, log2_small, Cst.d, D.isTy, D.lf, D.lfs, D.lfItems, R.bind_assoc, List.foldl, truth_non, truth_bl, truth_int, truth_lst, truth_tup, ix_t0, ix_t1, ix_t2, ix_t3, ix_t4, ix_l0, ix_l1, ix_l2, ix_l3, pd2_ix0, pd2_ix1, len_lst, len_tup, len_scr, ltD_int, eqD_int, eqD_bl, ne_int, ne_bl, cmpI_int, add_int, sub_int, mul_int, fdiv_int, mod_int, pow_int, shr_int, negI_int, asB_bl, asI_int, items_lst, items_tup, listOf_lst, listOf_tup, tupOf_lst, tupOf_tup, rangeOf_1, rangeOf_2, f1_1, f2_2, isNon_non, isNon_bl, isNon_int, isNon_tup, isNon_lst, D.ix, e, h]
  · simp [g_law_cell, b_law_cell, runFn, env0, outD, Py.execs, Py.exec, exec_for, ev, evs, evAnd, evOr, evPart, evTests, evIt, lift, view, mask, tst, bindT, Tgt.bind, setAll, O.f, appD, extD, putD, haveL, Cop.f, Bop.f, Bi.f, divOk, powOk, mulOk, log2_small, Cst.d, D.isTy, D.lf, D.lfs, D.lfItems, R.bind_assoc, List.foldl, truth_non, truth_bl, truth_int, truth_lst, truth_tup, ix_t0, ix_t1, ix_t2, ix_t3, ix_t4, ix_l0, ix_l1, ix_l2, ix_l3, pd2_ix0, pd2_ix1, len_lst, len_tup, len_scr, ltD_int, eqD_int, eqD_bl, ne_int, ne_bl, cmpI_int, add_int, sub_int, mul_int, fdiv_int, mod_int, pow_int, shr_int, negI_int, asB_bl, asI_int, items_lst, items_tup, listOf_lst, listOf_tup, tupOf_lst, tupOf_tup, rangeOf_1, rangeOf_2, f1_1, f2_2, isNon_non, isNon_bl, isNon_int, isNon_tup, isNon_lst, h]
theorem cell_nn (ns : List Int) (k : Nat) : 0 ≤ cell ns k := by
  unfold cell
  split
  · exact Int.emod_nonneg _ (by decide)
  · exact Int.le_refl 0
def pair (ns : List Int) (k : Nat) : Int × Int := if cell ns 0 % 3 = 1 then (cell ns k % 10 ^ 30, cell ns k / 7 % 10 ^ 30) else (cell ns k % 4, cell ns k / 4 % 4)
theorem pair_ok (ns : List Int) (k : Nat) : g_law_pair [.scr ns, .int k] = .ok (pd2 (pair ns k)) := by
  have h0 := cell_ok ns 0
  have hk := cell_ok ns k
  simp only [Int.natCast_zero, Int.ofNat_zero] at h0
  unfold pair pd2
  by_cases h : cell ns 0 % 3 = 1
  · simp [g_law_pair, b_law_pair, runFn, env0, outD, Py.execs, Py.exec, exec_for, ev, evs, evAnd, evOr, evPart, evTests, evIt, lift, view, mask, tst, bindT, Tgt.bind, setAll, O.f, appD, extD, putD, haveL, Cop.f, Bop.f, Bi.f, divOk, powOk, mulOk, log2_small, Cst.d, D.isTy, D.lf, D.lfs, D.lfItems, R.bind_assoc, List.foldl, truth_non, truth_bl, truth_int, truth_lst, truth_tup, ix_t0, ix_t1, ix_t2, ix_t3, ix_t4, ix_l0, ix_l1, ix_l2, ix_l3, pd2_ix0, pd2_ix1, len_lst, len_tup, len_scr, ltD_int, eqD_int, eqD_bl, ne_int, ne_bl, cmpI_int, add_int, sub_int, mul_int, fdiv_int, mod_int, pow_int, shr_int, negI_int, asB_bl, asI_int, items_lst, items_tup, listOf_lst, listOf_tup, tupOf_lst, tupOf_tup, rangeOf_1, rangeOf_2, f1_1, f2_2, isNon_non, isNon_bl, isNon_int, isNon_tup, isNon_lst, h0, hk, h]
  · simp [g_law_pair, b_law_pair, runFn, env0, outD, Py.execs, Py.exec, exec_for, ev, evs, evAnd, evOr, evPart, evTests, evIt, lift, view, mask, tst, bindT, Tgt.bind, setAll, O.f, appD, extD, putD, haveL, Cop.f, Bop.f, Bi.f, divOk, powOk, mulOk, log2_small, Cst.d, D.isTy, D.lf, D.lfs, D.lfItems, R.bind_assoc, List.foldl, truth_non, truth_bl, truth_int, truth_lst, truth_tup, ix_t0, ix_t1, ix_t2, ix_t3, ix_t4, ix_l0, ix_l1, ix_l2, ix_l3, pd2_ix0, pd2_ix1, len_lst, len_tup, len_scr, ltD_int, eqD_int, eqD_bl, ne_int, ne_bl, cmpI_int, add_int, sub_int, mul_int, fdiv_int, mod_int, pow_int, shr_int, negI_int, asB_bl, asI_int, items_lst, items_tup, listOf_lst, listOf_tup, tupOf_lst, tupOf_tup, rangeOf_1, rangeOf_2, f1_1, f2_2, isNon_non, isNon_bl, isNon_int, isNon_tup, isNon_lst, h0, hk, h]
def aoa (p q : Int × Int) : Bool := decide (q.1 ≤ p.1) && decide (q.2 ≤ p.2)
theorem aoa_ok (p q : Int × Int) : g_at_or_above [pd2 p, pd2 q] = .ok (.bl (aoa p q)) := by
  unfold aoa
  by_cases h : q.1 ≤ p.1
  · simp [g_at_or_above, b_at_or_above, runFn, env0, outD, Py.execs, Py.exec, exec_for, ev, evs, evAnd, evOr, evPart, evTests, evIt, lift, view, mask, tst, bindT, Tgt.bind, setAll, O.f, appD, extD, putD, haveL, Cop.f, Bop.f, Bi.f, divOk, powOk, mulOk, log2_small, Cst.d, D.isTy, D.lf, D.lfs, D.lfItems, R.bind_assoc, List.foldl, truth_non, truth_bl, truth_int, truth_lst, truth_tup, ix_t0, ix_t1, ix_t2, ix_t3, ix_t4, ix_l0, ix_l1, ix_l2, ix_l3, pd2_ix0, pd2_ix1, len_lst, len_tup, len_scr, ltD_int, eqD_int, eqD_bl, ne_int, ne_bl, cmpI_int, add_int, sub_int, mul_int, fdiv_int, mod_int, pow_int, shr_int, negI_int, asB_bl, asI_int, items_lst, items_tup, listOf_lst, listOf_tup, tupOf_lst, tupOf_tup, rangeOf_1, rangeOf_2, f1_1, f2_2, isNon_non, isNon_bl, isNon_int, isNon_tup, isNon_lst, pd2_ix0, pd2_ix1, h]
  · simp [g_at_or_above, b_at_or_above, runFn, env0, outD, Py.execs, Py.exec, exec_for, ev, evs, evAnd, evOr, evPart, evTests, evIt, lift, view, mask, tst, bindT, Tgt.bind, setAll, O.f, appD, extD, putD, haveL, Cop.f, Bop.f, Bi.f, divOk, powOk, mulOk, log2_small, Cst.d, D.isTy, D.lf, D.lfs, D.lfItems, R.bind_assoc, List.foldl, truth_non, truth_bl, truth_int, truth_lst, truth_tup, ix_t0, ix_t1, ix_t2, ix_t3, ix_t4, ix_l0, ix_l1, ix_l2, ix_l3, pd2_ix0, pd2_ix1, len_lst, len_tup, len_scr, ltD_int, eqD_int, eqD_bl, ne_int, ne_bl, cmpI_int, add_int, sub_int, mul_int, fdiv_int, mod_int, pow_int, shr_int, negI_int, asB_bl, asI_int, items_lst, items_tup, listOf_lst, listOf_tup, tupOf_lst, tupOf_tup, rangeOf_1, rangeOf_2, f1_1, f2_2, isNon_non, isNon_bl, isNon_int, isNon_tup, isNon_lst, pd2_ix0, pd2_ix1, h]
theorem truth_ok (a b : Bool) : g_law_truth [.bl a, .bl b] = .ok (.bl (a == b)) := by
  simp [g_law_truth, b_law_truth, runFn, env0, outD, Py.execs, Py.exec, exec_for, ev, evs, evAnd, evOr, evPart, evTests, evIt, lift, view, mask, tst, bindT, Tgt.bind, setAll, O.f, appD, extD, putD, haveL, Cop.f, Bop.f, Bi.f, divOk, powOk, mulOk, log2_small, Cst.d, D.isTy, D.lf, D.lfs, D.lfItems, R.bind_assoc, List.foldl, truth_non, truth_bl, truth_int, truth_lst, truth_tup, ix_t0, ix_t1, ix_t2, ix_t3, ix_t4, ix_l0, ix_l1, ix_l2, ix_l3, pd2_ix0, pd2_ix1, len_lst, len_tup, len_scr, ltD_int, eqD_int, eqD_bl, ne_int, ne_bl, cmpI_int, add_int, sub_int, mul_int, fdiv_int, mod_int, pow_int, shr_int, negI_int, asB_bl, asI_int, items_lst, items_tup, listOf_lst, listOf_tup, tupOf_lst, tupOf_tup, rangeOf_1, rangeOf_2, f1_1, f2_2, isNon_non, isNon_bl, isNon_int, isNon_tup, isNon_lst]
  cases a <;> cases b <;> rfl
def hld (b : List (Int × Int)) (p : Int × Int) : Bool := b.any fun l => aoa p l
def ItL (d : D) (b : List (Int × Int)) : Prop := d = .lst (b.map pd2) ∨ d = .tup (b.map pd2)
theorem ItL.it {d : D} {b : List (Int × Int)} (h : ItL d b) : D.items d = .ok (b.map pd2) := by
  rcases h with rfl | rfl <;> rfl
theorem holds_go (d : D) (p : Int × Int) : ∀ (b : List (Int × Int)) (x : Option D), ∃ x', forGo (.nm 2) (Py.execs [(2, g_at_or_above)] [] L_holds_0) (b.map pd2) [some d, some (pd2 p), x] =
      if hld b p then .ok (.rt (.bl true)) else .ok (.nx [some d, some (pd2 p), x'])
  | [], x => ⟨x, rfl⟩
  | l :: b, x => by
    obtain ⟨x', e⟩ := holds_go d p b (some (pd2 l))
    refine ⟨x', ?_⟩
    unfold hld at e ⊢
    rw [List.map_cons, List.any_cons]
    cases hl : aoa p l
    · rw [forGo_nx (ρ2 := [some d, some (pd2 p), some (pd2 l)]) rfl (by simp [L_holds_0, runFn, env0, outD, Py.execs, Py.exec, exec_for, ev, evs, evAnd, evOr, evPart, evTests, evIt, lift, view, mask, tst, bindT, Tgt.bind, setAll, O.f, appD, extD, putD, haveL, Cop.f, Bop.f, Bi.f, divOk, powOk, mulOk, log2_small, Cst.d, D.isTy, D.lf, D.lfs, D.lfItems, R.bind_assoc, List.foldl, truth_non, truth_bl, truth_int, truth_lst, truth_tup, ix_t0, ix_t1, ix_t2, ix_t3, ix_t4, ix_l0, ix_l1, ix_l2, ix_l3, pd2_ix0, pd2_ix1, len_lst, len_tup, len_scr, ltD_int, eqD_int, eqD_bl, ne_int, ne_bl, cmpI_int, add_int, sub_int, mul_int, fdiv_int, mod_int, pow_int, shr_int, negI_int, asB_bl, asI_int, items_lst, items_tup, listOf_lst, listOf_tup, tupOf_lst, tupOf_tup, rangeOf_1, rangeOf_2, f1_1, f2_2, isNon_non, isNon_bl, isNon_int, isNon_tup, isNon_lst, aoa_ok, hl])]
      exact e
    · rw [forGo_rt (v := .bl true) rfl (by simp [L_holds_0, runFn, env0, outD, Py.execs, Py.exec, exec_for, ev, evs, evAnd, evOr, evPart, evTests, evIt, lift, view, mask, tst, bindT, Tgt.bind, setAll, O.f, appD, extD, putD, haveL, Cop.f, Bop.f, Bi.f, divOk, powOk, mulOk, log2_small, Cst.d, D.isTy, D.lf, D.lfs, D.lfItems, R.bind_assoc, List.foldl, truth_non, truth_bl, truth_int, truth_lst, truth_tup, ix_t0, ix_t1, ix_t2, ix_t3, ix_t4, ix_l0, ix_l1, ix_l2, ix_l3, pd2_ix0, pd2_ix1, len_lst, len_tup, len_scr, ltD_int, eqD_int, eqD_bl, ne_int, ne_bl, cmpI_int, add_int, sub_int, mul_int, fdiv_int, mod_int, pow_int, shr_int, negI_int, asB_bl, asI_int, items_lst, items_tup, listOf_lst, listOf_tup, tupOf_lst, tupOf_tup, rangeOf_1, rangeOf_2, f1_1, f2_2, isNon_non, isNon_bl, isNon_int, isNon_tup, isNon_lst, aoa_ok, hl])]
      rfl
theorem holds_ok (d : D) (b : List (Int × Int)) (h : ItL d b) (p : Int × Int) : g_holds [d, pd2 p] = .ok (.bl (hld b p)) := by
  obtain ⟨x', e⟩ := holds_go d p b none
  cases hh : hld b p
  · rw [hh] at e
    simp [g_holds, b_holds, runFn, env0, outD, Py.execs, Py.exec, exec_for, ev, evs, evAnd, evOr, evPart, evTests, evIt, lift, view, mask, tst, bindT, Tgt.bind, setAll, O.f, appD, extD, putD, haveL, Cop.f, Bop.f, Bi.f, divOk, powOk, mulOk, log2_small, Cst.d, D.isTy, D.lf, D.lfs, D.lfItems, R.bind_assoc, List.foldl, truth_non, truth_bl, truth_int, truth_lst, truth_tup, ix_t0, ix_t1, ix_t2, ix_t3, ix_t4, ix_l0, ix_l1, ix_l2, ix_l3, pd2_ix0, pd2_ix1, len_lst, len_tup, len_scr, ltD_int, eqD_int, eqD_bl, ne_int, ne_bl, cmpI_int, add_int, sub_int, mul_int, fdiv_int, mod_int, pow_int, shr_int, negI_int, asB_bl, asI_int, items_lst, items_tup, listOf_lst, listOf_tup, tupOf_lst, tupOf_tup, rangeOf_1, rangeOf_2, f1_1, f2_2, isNon_non, isNon_bl, isNon_int, isNon_tup, isNon_lst, h.it, e]
  · rw [hh] at e
    simp [g_holds, b_holds, runFn, env0, outD, Py.execs, Py.exec, exec_for, ev, evs, evAnd, evOr, evPart, evTests, evIt, lift, view, mask, tst, bindT, Tgt.bind, setAll, O.f, appD, extD, putD, haveL, Cop.f, Bop.f, Bi.f, divOk, powOk, mulOk, log2_small, Cst.d, D.isTy, D.lf, D.lfs, D.lfItems, R.bind_assoc, List.foldl, truth_non, truth_bl, truth_int, truth_lst, truth_tup, ix_t0, ix_t1, ix_t2, ix_t3, ix_t4, ix_l0, ix_l1, ix_l2, ix_l3, pd2_ix0, pd2_ix1, len_lst, len_tup, len_scr, ltD_int, eqD_int, eqD_bl, ne_int, ne_bl, cmpI_int, add_int, sub_int, mul_int, fdiv_int, mod_int, pow_int, shr_int, negI_int, asB_bl, asI_int, items_lst, items_tup, listOf_lst, listOf_tup, tupOf_lst, tupOf_tup, rangeOf_1, rangeOf_2, f1_1, f2_2, isNon_non, isNon_bl, isNon_int, isNon_tup, isNon_lst, h.it, e]
theorem held_go (d : D) (p : Int × Int) : ∀ (b : List (Int × Int)) (x y : Option D), ∃ x' y', forGo (.tp [2, 3]) (Py.execs [] [] L_law_held_0) (b.map pd2) [some d, some (pd2 p), x, y] =
      if hld b p then .ok (.rt (.bl true)) else .ok (.nx [some d, some (pd2 p), x', y'])
  | [], x, y => ⟨x, y, rfl⟩
  | l :: b, x, y => by
    obtain ⟨x', y', e⟩ := held_go d p b (some (.int l.1)) (some (.int l.2))
    refine ⟨x', y', ?_⟩
    unfold hld at e ⊢
    rw [List.map_cons, List.any_cons]
    cases hl : aoa p l
    · rw [forGo_nx (ρ1 := [some d, some (pd2 p), some (.int l.1), some (.int l.2)]) (ρ2 := [some d, some (pd2 p), some (.int l.1), some (.int l.2)]) rfl ?_]
      · exact e
      · unfold aoa at hl
        by_cases h1 : l.1 ≤ p.1
        · by_cases h2 : l.2 ≤ p.2
          · simp [h1, h2] at hl
          · simp [L_law_held_0, runFn, env0, outD, Py.execs, Py.exec, exec_for, ev, evs, evAnd, evOr, evPart, evTests, evIt, lift, view, mask, tst, bindT, Tgt.bind, setAll, O.f, appD, extD, putD, haveL, Cop.f, Bop.f, Bi.f, divOk, powOk, mulOk, log2_small, Cst.d, D.isTy, D.lf, D.lfs, D.lfItems, R.bind_assoc, List.foldl, truth_non, truth_bl, truth_int, truth_lst, truth_tup, ix_t0, ix_t1, ix_t2, ix_t3, ix_t4, ix_l0, ix_l1, ix_l2, ix_l3, pd2_ix0, pd2_ix1, len_lst, len_tup, len_scr, ltD_int, eqD_int, eqD_bl, ne_int, ne_bl, cmpI_int, add_int, sub_int, mul_int, fdiv_int, mod_int, pow_int, shr_int, negI_int, asB_bl, asI_int, items_lst, items_tup, listOf_lst, listOf_tup, tupOf_lst, tupOf_tup, rangeOf_1, rangeOf_2, f1_1, f2_2, isNon_non, isNon_bl, isNon_int, isNon_tup, isNon_lst, h1, h2]
        · simp [L_law_held_0, runFn, env0, outD, Py.execs, Py.exec, exec_for, ev, evs, evAnd, evOr, evPart, evTests, evIt, lift, view, mask, tst, bindT, Tgt.bind, setAll, O.f, appD, extD, putD, haveL, Cop.f, Bop.f, Bi.f, divOk, powOk, mulOk, log2_small, Cst.d, D.isTy, D.lf, D.lfs, D.lfItems, R.bind_assoc, List.foldl, truth_non, truth_bl, truth_int, truth_lst, truth_tup, ix_t0, ix_t1, ix_t2, ix_t3, ix_t4, ix_l0, ix_l1, ix_l2, ix_l3, pd2_ix0, pd2_ix1, len_lst, len_tup, len_scr, ltD_int, eqD_int, eqD_bl, ne_int, ne_bl, cmpI_int, add_int, sub_int, mul_int, fdiv_int, mod_int, pow_int, shr_int, negI_int, asB_bl, asI_int, items_lst, items_tup, listOf_lst, listOf_tup, tupOf_lst, tupOf_tup, rangeOf_1, rangeOf_2, f1_1, f2_2, isNon_non, isNon_bl, isNon_int, isNon_tup, isNon_lst, h1]
    · rw [forGo_rt (ρ1 := [some d, some (pd2 p), some (.int l.1), some (.int l.2)]) (v := .bl true) rfl ?_]
      · rfl
      · unfold aoa at hl
        simp only [Bool.and_eq_true, decide_eq_true_eq] at hl
        simp [L_law_held_0, runFn, env0, outD, Py.execs, Py.exec, exec_for, ev, evs, evAnd, evOr, evPart, evTests, evIt, lift, view, mask, tst, bindT, Tgt.bind, setAll, O.f, appD, extD, putD, haveL, Cop.f, Bop.f, Bi.f, divOk, powOk, mulOk, log2_small, Cst.d, D.isTy, D.lf, D.lfs, D.lfItems, R.bind_assoc, List.foldl, truth_non, truth_bl, truth_int, truth_lst, truth_tup, ix_t0, ix_t1, ix_t2, ix_t3, ix_t4, ix_l0, ix_l1, ix_l2, ix_l3, pd2_ix0, pd2_ix1, len_lst, len_tup, len_scr, ltD_int, eqD_int, eqD_bl, ne_int, ne_bl, cmpI_int, add_int, sub_int, mul_int, fdiv_int, mod_int, pow_int, shr_int, negI_int, asB_bl, asI_int, items_lst, items_tup, listOf_lst, listOf_tup, tupOf_lst, tupOf_tup, rangeOf_1, rangeOf_2, f1_1, f2_2, isNon_non, isNon_bl, isNon_int, isNon_tup, isNon_lst, hl.1, hl.2]
theorem held_ok (d : D) (b : List (Int × Int)) (h : ItL d b) (p : Int × Int) : g_law_held [d, pd2 p] = .ok (.bl (hld b p)) := by
  obtain ⟨x', y', e⟩ := held_go d p b none none
  cases hh : hld b p
  · rw [hh] at e
    simp [g_law_held, b_law_held, runFn, env0, outD, Py.execs, Py.exec, exec_for, ev, evs, evAnd, evOr, evPart, evTests, evIt, lift, view, mask, tst, bindT, Tgt.bind, setAll, O.f, appD, extD, putD, haveL, Cop.f, Bop.f, Bi.f, divOk, powOk, mulOk, log2_small, Cst.d, D.isTy, D.lf, D.lfs, D.lfItems, R.bind_assoc, List.foldl, truth_non, truth_bl, truth_int, truth_lst, truth_tup, ix_t0, ix_t1, ix_t2, ix_t3, ix_t4, ix_l0, ix_l1, ix_l2, ix_l3, pd2_ix0, pd2_ix1, len_lst, len_tup, len_scr, ltD_int, eqD_int, eqD_bl, ne_int, ne_bl, cmpI_int, add_int, sub_int, mul_int, fdiv_int, mod_int, pow_int, shr_int, negI_int, asB_bl, asI_int, items_lst, items_tup, listOf_lst, listOf_tup, tupOf_lst, tupOf_tup, rangeOf_1, rangeOf_2, f1_1, f2_2, isNon_non, isNon_bl, isNon_int, isNon_tup, isNon_lst, h.it, e]
  · rw [hh] at e
    simp [g_law_held, b_law_held, runFn, env0, outD, Py.execs, Py.exec, exec_for, ev, evs, evAnd, evOr, evPart, evTests, evIt, lift, view, mask, tst, bindT, Tgt.bind, setAll, O.f, appD, extD, putD, haveL, Cop.f, Bop.f, Bi.f, divOk, powOk, mulOk, log2_small, Cst.d, D.isTy, D.lf, D.lfs, D.lfItems, R.bind_assoc, List.foldl, truth_non, truth_bl, truth_int, truth_lst, truth_tup, ix_t0, ix_t1, ix_t2, ix_t3, ix_t4, ix_l0, ix_l1, ix_l2, ix_l3, pd2_ix0, pd2_ix1, len_lst, len_tup, len_scr, ltD_int, eqD_int, eqD_bl, ne_int, ne_bl, cmpI_int, add_int, sub_int, mul_int, fdiv_int, mod_int, pow_int, shr_int, negI_int, asB_bl, asI_int, items_lst, items_tup, listOf_lst, listOf_tup, tupOf_lst, tupOf_tup, rangeOf_1, rangeOf_2, f1_1, f2_2, isNon_non, isNon_bl, isNon_int, isNon_tup, isNon_lst, h.it, e]
def spd (xs : List (Int × Int)) : D := .lst (xs.map pd2)
theorem border_go (S A N Dr : D) : ∀ (xs f : List (Int × Int)) (y z : Option D), f.length + xs.length ≤ 1000 → ∃ (f' : List (Int × Int)) (y' : Option D), f'.length ≤ f.length + xs.length ∧
    forGo (.nm 5) (Py.execs [(2, g_law_pair), (2, g_law_held)] [4] L_law_border_0) (xs.map pd2) [some S, some A, some N, some Dr, some (.lst (f.map pd2)), y, z] = .ok (.nx [some S, some A, some N, some Dr, some (.lst (f'.map pd2)), y', z])
  | [], f, y, z, _ => ⟨f, y, by simp, rfl⟩
  | x :: xs, f, y, z, h => by
    have hl : f.length < 16777216 := by simp at h; omega
    cases hh : hld f x
    · obtain ⟨f', y', h1, h2⟩ := border_go S A N Dr xs (f ++ [x]) (some (pd2 x)) z (by simp at h ⊢; omega)
      refine ⟨f', y', by simp at h1 ⊢; omega, ?_⟩
      rw [List.map_cons, forGo_nx (ρ2 := [some S, some A, some N, some Dr, some (.lst ((f ++ [x]).map pd2)), some (pd2 x), z]) rfl ?_, h2]
      simp [L_law_border_0, runFn, env0, outD, Py.execs, Py.exec, exec_for, ev, evs, evAnd, evOr, evPart, evTests, evIt, lift, view, mask, tst, bindT, Tgt.bind, setAll, O.f, appD, extD, putD, haveL, Cop.f, Bop.f, Bi.f, divOk, powOk, mulOk, log2_small, Cst.d, D.isTy, D.lf, D.lfs, D.lfItems, R.bind_assoc, List.foldl, truth_non, truth_bl, truth_int, truth_lst, truth_tup, ix_t0, ix_t1, ix_t2, ix_t3, ix_t4, ix_l0, ix_l1, ix_l2, ix_l3, pd2_ix0, pd2_ix1, len_lst, len_tup, len_scr, ltD_int, eqD_int, eqD_bl, ne_int, ne_bl, cmpI_int, add_int, sub_int, mul_int, fdiv_int, mod_int, pow_int, shr_int, negI_int, asB_bl, asI_int, items_lst, items_tup, listOf_lst, listOf_tup, tupOf_lst, tupOf_tup, rangeOf_1, rangeOf_2, f1_1, f2_2, isNon_non, isNon_bl, isNon_int, isNon_tup, isNon_lst, held_ok _ _ (.inl rfl), hh, hl]
    · obtain ⟨f', y', h1, h2⟩ := border_go S A N Dr xs f (some (pd2 x)) z (by simp at h ⊢; omega)
      refine ⟨f', y', by simp at h1 ⊢; omega, ?_⟩
      rw [List.map_cons, forGo_nx (ρ2 := [some S, some A, some N, some Dr, some (.lst (f.map pd2)), some (pd2 x), z]) rfl ?_, h2]
      simp [L_law_border_0, runFn, env0, outD, Py.execs, Py.exec, exec_for, ev, evs, evAnd, evOr, evPart, evTests, evIt, lift, view, mask, tst, bindT, Tgt.bind, setAll, O.f, appD, extD, putD, haveL, Cop.f, Bop.f, Bi.f, divOk, powOk, mulOk, log2_small, Cst.d, D.isTy, D.lf, D.lfs, D.lfItems, R.bind_assoc, List.foldl, truth_non, truth_bl, truth_int, truth_lst, truth_tup, ix_t0, ix_t1, ix_t2, ix_t3, ix_t4, ix_l0, ix_l1, ix_l2, ix_l3, pd2_ix0, pd2_ix1, len_lst, len_tup, len_scr, ltD_int, eqD_int, eqD_bl, ne_int, ne_bl, cmpI_int, add_int, sub_int, mul_int, fdiv_int, mod_int, pow_int, shr_int, negI_int, asB_bl, asI_int, items_lst, items_tup, listOf_lst, listOf_tup, tupOf_lst, tupOf_tup, rangeOf_1, rangeOf_2, f1_1, f2_2, isNon_non, isNon_bl, isNon_int, isNon_tup, isNon_lst, held_ok _ _ (.inl rfl), hh, hl]
theorem border_lc (ns : List Int) (a m : Nat) (hm : m ≤ 100) : ev [(2, g_law_pair), (2, g_law_held)] lc_law_border_0 [some (.scr ns), some (.int a), some (.int m), none, none, none, none] = .ok (.lst (((List.range m).map fun i => pair ns (a + i)).map pd2)) := by
  rw [List.map_map]
  refine ev_lc_map (fun i : Nat => D.int (i : Int)) _ (List.range m) ?_ (by rw [List.length_range]; omega) fun i hi => ?_
  · simp [runFn, env0, outD, Py.execs, Py.exec, exec_for, ev, evs, evAnd, evOr, evPart, evTests, evIt, lift, view, mask, tst, bindT, Tgt.bind, setAll, O.f, appD, extD, putD, haveL, Cop.f, Bop.f, Bi.f, divOk, powOk, mulOk, log2_small, Cst.d, D.isTy, D.lf, D.lfs, D.lfItems, R.bind_assoc, List.foldl, truth_non, truth_bl, truth_int, truth_lst, truth_tup, ix_t0, ix_t1, ix_t2, ix_t3, ix_t4, ix_l0, ix_l1, ix_l2, ix_l3, pd2_ix0, pd2_ix1, len_lst, len_tup, len_scr, ltD_int, eqD_int, eqD_bl, ne_int, ne_bl, cmpI_int, add_int, sub_int, mul_int, fdiv_int, mod_int, pow_int, shr_int, negI_int, asB_bl, asI_int, items_lst, items_tup, listOf_lst, listOf_tup, tupOf_lst, tupOf_tup, rangeOf_1, rangeOf_2, f1_1, f2_2, isNon_non, isNon_bl, isNon_int, isNon_tup, isNon_lst, rangeD_nat (n := m) (by omega)]
  · have e := pair_ok ns (a + i)
    rw [Int.natCast_add] at e
    simp [lcF, runFn, env0, outD, Py.execs, Py.exec, exec_for, ev, evs, evAnd, evOr, evPart, evTests, evIt, lift, view, mask, tst, bindT, Tgt.bind, setAll, O.f, appD, extD, putD, haveL, Cop.f, Bop.f, Bi.f, divOk, powOk, mulOk, log2_small, Cst.d, D.isTy, D.lf, D.lfs, D.lfItems, R.bind_assoc, List.foldl, truth_non, truth_bl, truth_int, truth_lst, truth_tup, ix_t0, ix_t1, ix_t2, ix_t3, ix_t4, ix_l0, ix_l1, ix_l2, ix_l3, pd2_ix0, pd2_ix1, len_lst, len_tup, len_scr, ltD_int, eqD_int, eqD_bl, ne_int, ne_bl, cmpI_int, add_int, sub_int, mul_int, fdiv_int, mod_int, pow_int, shr_int, negI_int, asB_bl, asI_int, items_lst, items_tup, listOf_lst, listOf_tup, tupOf_lst, tupOf_tup, rangeOf_1, rangeOf_2, f1_1, f2_2, isNon_non, isNon_bl, isNon_int, isNon_tup, isNon_lst, e]
theorem border_ev (S A N : D) (l ys f' : List D) (y' : Option D) (elc : ev [(2, g_law_pair), (2, g_law_held)] lc_law_border_0 [some S, some A, some N, none, none, none, none] = .ok (.lst l)) (hs : D.sorted (.lst l) = .ok (.lst ys))
    (h2 : forGo (.nm 5) (Py.execs [(2, g_law_pair), (2, g_law_held)] [4] L_law_border_0) ys [some S, some A, some N, some (.lst ys), some (.lst []), none, none] = .ok (.nx [some S, some A, some N, some (.lst ys), some (.lst f'), y', none])) (hc : D.tupOf (.lst f') = .ok (.tup f')) : g_law_border [S, A, N] = .ok (.tup f') := by
  simp [g_law_border, b_law_border, runFn, env0, outD, Py.execs, Py.exec, exec_for, ev, evs, evAnd, evOr, evPart, evTests, evIt, lift, view, mask, tst, bindT, Tgt.bind, setAll, O.f, appD, extD, putD, haveL, Cop.f, Bop.f, Bi.f, divOk, powOk, mulOk, log2_small, Cst.d, D.isTy, D.lf, D.lfs, D.lfItems, R.bind_assoc, List.foldl, truth_non, truth_bl, truth_int, truth_lst, truth_tup, ix_t0, ix_t1, ix_t2, ix_t3, ix_t4, ix_l0, ix_l1, ix_l2, ix_l3, pd2_ix0, pd2_ix1, len_lst, len_tup, len_scr, ltD_int, eqD_int, eqD_bl, ne_int, ne_bl, cmpI_int, add_int, sub_int, mul_int, fdiv_int, mod_int, pow_int, shr_int, negI_int, asB_bl, asI_int, items_lst, items_tup, listOf_lst, listOf_tup, tupOf_lst, tupOf_tup, rangeOf_1, rangeOf_2, f1_1, f2_2, isNon_non, isNon_bl, isNon_int, isNon_tup, isNon_lst, elc, hs, h2, hc]
theorem border_ok (ns : List Int) (a m : Nat) (hm : m ≤ 100) : ∃ b : List (Int × Int), b.length ≤ m ∧ g_law_border [.scr ns, .int a, .int m] = .ok (.tup (b.map pd2)) := by
  obtain ⟨ys, hp, hs⟩ := sorted_pd2 ((List.range m).map fun i => pair ns (a + i))
  have hl : ys.length = m := by rw [hp.length_eq]; simp
  obtain ⟨f', y', h1, h2⟩ := border_go (.scr ns) (.int a) (.int m) (.lst (ys.map pd2)) ys [] none none (by simp; omega)
  refine ⟨f', by simp at h1; omega, ?_⟩
  have elc := border_lc ns a m hm
  exact border_ev _ _ _ _ _ _ y' elc hs h2 rfl
/-! ## the law -/
theorem asked_go (c : Fns) (S A B C : D) (x y z : Option D) : ∀ (b q : List (Int × Int)), q.length + 2 * b.length ≤ 1000 → ∃ (q' : List (Int × Int)) (x' y' : Option D), q'.length ≤ q.length + 2 * b.length ∧
    forGo (.tp [5, 6]) (Py.execs c [] L_law_0) (b.map pd2) [some S, some A, some B, some C, some (.lst (q.map pd2)), x, y, z] = .ok (.nx [some S, some A, some B, some C, some (.lst (q'.map pd2)), x', y', z])
  | [], q, _ => ⟨q, x, y, by simp, rfl⟩
  | p :: b, q, h => by
    obtain ⟨q', x', y', h1, h2⟩ := asked_go c S A B C (some (.int p.1)) (some (.int p.2)) z b (q ++ [(max 0 (p.1 - 1), p.2), (p.1, max 0 (p.2 - 1))]) (by simp at h ⊢; omega)
    refine ⟨q', x', y', by simp at h1 ⊢; omega, ?_⟩
    have hl : q.length + 2 ≤ 16777216 := by simp at h; omega
    rw [List.map_cons, forGo_nx (ρ1 := [some S, some A, some B, some C, some (.lst (q.map pd2)), some (.int p.1), some (.int p.2), z]) (ρ2 := [some S, some A, some B, some C, some (.lst ((q ++ [(max 0 (p.1 - 1), p.2), (p.1, max 0 (p.2 - 1))]).map pd2)), some (.int p.1), some (.int p.2), z]) rfl ?_, h2]
    have e1 : ∀ i : Int, D.max2 (.int 0) (.int i) = .ok (.int (max 0 i)) := fun i => by
      show R.ok (D.int (if i > 0 then i else 0)) = _
      congr 2
      by_cases hi : i > 0
      · rw [if_pos hi]; omega
      · rw [if_neg hi]; omega
    simp [L_law_0, runFn, env0, outD, Py.execs, Py.exec, exec_for, ev, evs, evAnd, evOr, evPart, evTests, evIt, lift, view, mask, tst, bindT, Tgt.bind, setAll, O.f, appD, extD, putD, haveL, Cop.f, Bop.f, Bi.f, divOk, powOk, mulOk, log2_small, Cst.d, D.isTy, D.lf, D.lfs, D.lfItems, R.bind_assoc, List.foldl, truth_non, truth_bl, truth_int, truth_lst, truth_tup, ix_t0, ix_t1, ix_t2, ix_t3, ix_t4, ix_l0, ix_l1, ix_l2, ix_l3, pd2_ix0, pd2_ix1, len_lst, len_tup, len_scr, ltD_int, eqD_int, eqD_bl, ne_int, ne_bl, cmpI_int, add_int, sub_int, mul_int, fdiv_int, mod_int, pow_int, shr_int, negI_int, asB_bl, asI_int, items_lst, items_tup, listOf_lst, listOf_tup, tupOf_lst, tupOf_tup, rangeOf_1, rangeOf_2, f1_1, f2_2, isNon_non, isNon_bl, isNon_int, isNon_tup, isNon_lst, e1, add_lst, hl, pd2]
abbrev fsL : Fns := [(2, g_law_pair), (3, g_law_border), (2, g_law_cell), (2, g_law_truth), (2, g_at_or_above), (2, g_holds), (2, g_law_held)]
theorem law_ev (S : D) (p q : Int × Int) (c : Int) (b l bs : List D) (x' y' : Option D) (e1 : g_law_pair [S, .int 1] = .ok (pd2 p)) (e2 : g_law_pair [S, .int 2] = .ok (pd2 q)) (e3 : g_law_cell [S, .int 3] = .ok (.int c)) (e4 : g_law_border [S, .int 4, .int (c % 7)] = .ok (.tup b))
    (hb : b.length ≤ 1000) (e6 : forGo (.tp [5, 6]) (Py.execs fsL [] L_law_0) b [some S, some (pd2 p), some (pd2 q), some (.tup b), some (.lst (pd2 p :: pd2 q :: b)), none, none, none] = .ok (.nx [some S, some (pd2 p), some (pd2 q), some (.tup b), some (.lst l), x', y', none]))
    (e7 : ev fsL lc_law_0 [some S, some (pd2 p), some (pd2 q), some (.tup b), some (.lst l), x', y', none] = .ok (.lst bs)) (e8 : D.allL (.lst bs) = .ok (.bl true)) : g_law [S] = .ok (.bl true) := by
  have hl : b.length + 1 + 1 ≤ 16777216 := by omega
  have hl2 : 1 + 1 + b.length ≤ 16777216 := by omega
  have hl3 : 2 + b.length ≤ 16777216 := by omega
  have t1 : ∀ p q : Int × Int, aoa p q = (decide (q.1 ≤ p.1) && decide (q.2 ≤ p.2)) := fun _ _ => rfl
  have t2 : g_law_truth [.bl (aoa p q), .bl (decide (q.1 ≤ p.1) && decide (q.2 ≤ p.2))] = .ok (.bl true) := by rw [truth_ok, t1]; simp
  have t3 : g_law_truth [.bl (aoa q p), .bl (decide (p.1 ≤ q.1) && decide (p.2 ≤ q.2))] = .ok (.bl true) := by rw [truth_ok, t1]; simp
  cases h1 : decide (q.1 ≤ p.1) <;> cases h2 : decide (p.1 ≤ q.1) <;> rw [h1] at t2 <;> rw [h2] at t3 <;> simp only [Bool.false_and, Bool.true_and] at t2 t3 <;>
    simp [g_law, b_law, runFn, env0, outD, Py.execs, Py.exec, exec_for, ev, evs, evAnd, evOr, evPart, evTests, evIt, lift, view, mask, tst, bindT, Tgt.bind, setAll, O.f, appD, extD, putD, haveL, Cop.f, Bop.f, Bi.f, divOk, powOk, mulOk, log2_small, Cst.d, D.isTy, D.lf, D.lfs, D.lfItems, R.bind_assoc, List.foldl, truth_non, truth_bl, truth_int, truth_lst, truth_tup, ix_t0, ix_t1, ix_t2, ix_t3, ix_t4, ix_l0, ix_l1, ix_l2, ix_l3, pd2_ix0, pd2_ix1, len_lst, len_tup, len_scr, ltD_int, eqD_int, eqD_bl, ne_int, ne_bl, cmpI_int, add_int, sub_int, mul_int, fdiv_int, mod_int, pow_int, shr_int, negI_int, asB_bl, asI_int, items_lst, items_tup, listOf_lst, listOf_tup, tupOf_lst, tupOf_tup, rangeOf_1, rangeOf_2, f1_1, f2_2, isNon_non, isNon_bl, isNon_int, isNon_tup, isNon_lst, e1, e2, e3, e4, aoa_ok, h1, h2, t2, t3, e6, e7, e8, add_lst, hl, hl2, hl3]
theorem law_ok (ns : List Int) (hn : ns.length ≤ 63) : g_law [.scr ns] = .ok (.bl true) := by
  have hc : 0 ≤ cell ns 3 % 7 ∧ cell ns 3 % 7 < 7 := ⟨Int.emod_nonneg _ (by decide), Int.emod_lt_of_pos _ (by decide)⟩
  obtain ⟨b, hb, e4⟩ := border_ok ns 4 (cell ns 3 % 7).toNat (by omega)
  have em : (((cell ns 3 % 7).toNat : Nat) : Int) = cell ns 3 % 7 := Int.toNat_of_nonneg hc.1
  rw [em] at e4
  obtain ⟨q', x', y', h1, h2⟩ := asked_go fsL (.scr ns) (pd2 (pair ns 1)) (pd2 (pair ns 2)) (.tup (b.map pd2)) none none none b ([pair ns 1, pair ns 2] ++ b) (by simp; omega)
  refine law_ev (.scr ns) (pair ns 1) (pair ns 2) (cell ns 3) (b.map pd2) (q'.map pd2) ((q'.map fun _ => true).map D.bl) x' y' (pair_ok ns 1) (pair_ok ns 2) (cell_ok ns 3) e4 (by simp; omega) h2 ?_ ?_
  · rw [List.map_map]
    refine ev_lc_map pd2 _ q' ?_ (by simp at h1; omega) fun p _ => ?_
    · simp [runFn, env0, outD, Py.execs, Py.exec, exec_for, ev, evs, evAnd, evOr, evPart, evTests, evIt, lift, view, mask, tst, bindT, Tgt.bind, setAll, O.f, appD, extD, putD, haveL, Cop.f, Bop.f, Bi.f, divOk, powOk, mulOk, log2_small, Cst.d, D.isTy, D.lf, D.lfs, D.lfItems, R.bind_assoc, List.foldl, truth_non, truth_bl, truth_int, truth_lst, truth_tup, ix_t0, ix_t1, ix_t2, ix_t3, ix_t4, ix_l0, ix_l1, ix_l2, ix_l3, pd2_ix0, pd2_ix1, len_lst, len_tup, len_scr, ltD_int, eqD_int, eqD_bl, ne_int, ne_bl, cmpI_int, add_int, sub_int, mul_int, fdiv_int, mod_int, pow_int, shr_int, negI_int, asB_bl, asI_int, items_lst, items_tup, listOf_lst, listOf_tup, tupOf_lst, tupOf_tup, rangeOf_1, rangeOf_2, f1_1, f2_2, isNon_non, isNon_bl, isNon_int, isNon_tup, isNon_lst]
    · simp [lcF, runFn, env0, outD, Py.execs, Py.exec, exec_for, ev, evs, evAnd, evOr, evPart, evTests, evIt, lift, view, mask, tst, bindT, Tgt.bind, setAll, O.f, appD, extD, putD, haveL, Cop.f, Bop.f, Bi.f, divOk, powOk, mulOk, log2_small, Cst.d, D.isTy, D.lf, D.lfs, D.lfItems, R.bind_assoc, List.foldl, truth_non, truth_bl, truth_int, truth_lst, truth_tup, ix_t0, ix_t1, ix_t2, ix_t3, ix_t4, ix_l0, ix_l1, ix_l2, ix_l3, pd2_ix0, pd2_ix1, len_lst, len_tup, len_scr, ltD_int, eqD_int, eqD_bl, ne_int, ne_bl, cmpI_int, add_int, sub_int, mul_int, fdiv_int, mod_int, pow_int, shr_int, negI_int, asB_bl, asI_int, items_lst, items_tup, listOf_lst, listOf_tup, tupOf_lst, tupOf_tup, rangeOf_1, rangeOf_2, f1_1, f2_2, isNon_non, isNon_bl, isNon_int, isNon_tup, isNon_lst, holds_ok _ _ (.inr rfl), held_ok _ _ (.inr rfl), truth_ok]
  · rw [allL_bl]
    simp
end Py_k11
open PySem PySem.W PyProof.Rows
set_option maxHeartbeats 0 in
theorem PySem.Challenge.cw_purseborder_k11_at_or_above_holds : PySem.Challenge.rw_purseborder_k11_at_or_above.Holds := by
  w_on; o_law; k_head; (case hw => w_witness2)
  k_fill
  refine L2.walk_of (l := PySem.Challenge.rw_purseborder_k11_at_or_above) (n := 63) (k := 4) (x := "_law_script") (CX := fun w => L2.CX PySem.Challenge.rw_purseborder_k11_at_or_above.prog w) (sp := fun w => Py.spL _ 63) rfl (by decide) rfl ⟨rfl, by decide, by decide⟩ (fun w h Y => PySem.W.kIn_of Y) ?F (fun _ _ a ns hl hO hS => ⟨a, ns, rfl, hl, hO, hS, fun _ => rfl⟩) (fun _ _ _ _ _ h => Py.cx_never h)
  case F =>
    intro w mg fa h KX G hmg
    refine' Py_k11.all_ok KX G hmg ?h_law_cell ?h_law_pair ?h_law_held ?h_law_border ?h_law_truth ?h_at_or_above ?h_holds ?h_law ?z_len ?z_sorted ?z_range ?z_tuple ?z_isinstance ?z_bool ?z_list ?z_max ?z_all Py_k11.law_ok
    (case h_law_cell => (refine' Py.fact_mk ?a ?l ?c ?k; (case a => k_is); (case l => k_is); (case c => k_is); (case k => k_is)))
    (case h_law_pair => (refine' Py.fact_mk ?a ?l ?c ?k; (case a => k_is); (case l => k_is); (case c => k_is); (case k => k_is)))
    (case h_law_held => (refine' Py.fact_mk ?a ?l ?c ?k; (case a => k_is); (case l => k_is); (case c => k_is); (case k => k_is)))
    (case h_law_border => (refine' Py.fact_mk ?a ?l ?c ?k; (case a => k_is); (case l => k_is); (case c => k_is); (case k => k_is)))
    (case h_law_truth => (refine' Py.fact_mk ?a ?l ?c ?k; (case a => k_is); (case l => k_is); (case c => k_is); (case k => k_is)))
    (case h_at_or_above => (refine' Py.fact_mk ?a ?l ?c ?k; (case a => k_is); (case l => k_is); (case c => k_is); (case k => k_is)))
    (case h_holds => (refine' Py.fact_mk ?a ?l ?c ?k; (case a => k_is); (case l => k_is); (case c => k_is); (case k => k_is)))
    (case h_law => (refine' Py.fact_mk ?a ?l ?c ?k; (case a => k_is); (case l => k_is); (case c => k_is); (case k => k_is)))
    (case z_len => k_is)
    (case z_sorted => k_is)
    (case z_range => k_is)
    (case z_tuple => k_is)
    (case z_isinstance => k_is)
    (case z_bool => k_is)
    (case z_list => k_is)
    (case z_max => k_is)
    (case z_all => k_is)
