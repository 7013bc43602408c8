import PyProof.Rows.All
import Wide.All
import OpenK.AllK
import Wide.FinOn
import HandS.ForMost
import HandS.Exc
import HandS.More
import HandS.WordsExc
import HandS.ForExc
import HandS.Defaults
import HandS.IsInst
import HandS.Walk
import HandS.TupAny
import HandS.ExcCtx
import HandS.HotCalls
import HandS.ExcInit
import HandS.ExcField
import HandS.ExcIs
import HandS.Deep
import HandS.NoneIn
import HandS.MakeKw
import KE.GoesMore
import KE.GoesZip
import HandS.SetFor
import HandS.Set
import HandS.Strs
import HandS.Zip
import HandS.SlotsOwn
import HandS.Property
import HandS.HeadHook1
import HandS.HeadHook2
import HandS.TupMul
import PyProof.EqKinds
import KE.KExcIs
import HandS.ExcInitHot
import HandS.Style
import HandS.Head0
import HandS.Head1
import HandS.Head2
import HandS.HeadEnd
import PySem.Challenge.RW_millsluices_k13_walks_followed
set_option Elab.async false
set_option linter.all false
set_option maxRecDepth 100000
section
set_option maxHeartbeats 4000000
/-! EV: expressions and statements as partial functions over heap-free data. -/
namespace EV
open PySem L2

/-- data -/
inductive D where
  | non | bl (b : Bool) | int (i : Int) | str (s : Str)
  | tup (xs : List D) | lst (xs : List D) | obj (c : Nat) (xs : List D)
  | scr (xs : List Int)
instance : Inhabited D := ⟨.non⟩

/-- the classes by number: where they stand, their fields in order -/
structure TabC where
  K : PySem.W.Frag
  cls : Nat → Addr
  flds : Nat → List Str
/-- the tables, and the exception that a suite holds: where it lies, its class, its dict -/
structure Tab where
  B : TabC
  xa : Option (Addr × Value × Option Addr)
instance : Coe Tab TabC := ⟨Tab.B⟩
abbrev Tab.K (T : Tab) : PySem.W.Frag := T.B.K
abbrev Tab.cls (T : Tab) : Nat → Addr := T.B.cls
abbrev Tab.flds (T : Tab) : Nat → List Str := T.B.flds

mutual
/-- the value v stands for the datum d -/
inductive Is (T : TabC) (H : Hp) : V → D → Prop where
  | non : Is T H .non .non
  | bl (b : Bool) : Is T H (.bl b) (.bl b)
  | int (i : Int) : Is T H (.int i) (.int i)
  | str (s : Str) : Is T H (.str s) (.str s)
  | tup {a : Addr} {vs : List V} {ds : List D} : SqT T.K H a vs → Iss T H vs ds → Is T H (.ref a) (.tup ds)
  | lst {a : Addr} {vs : List V} {ds : List D} : H a = some (.lst vs) → Iss T H vs ds → Is T H (.ref a) (.lst ds)
  | obj {a dx : Addr} {c : Nat} {vs : List V} {ds : List D} : H a = some (.ins (T.cls c) dx ((T.flds c).zip vs)) → vs.length ≤ (T.flds c).length → Iss T H vs ds → Is T H (.ref a) (.obj c ds)
  | scr {a : Addr} {ns : List Int} : SqL T.K H a (ns.map V.int) → ns.length ≤ 100 → Is T H (.ref a) (.scr ns)
inductive Iss (T : TabC) (H : Hp) : List V → List D → Prop where
  | nil : Iss T H [] []
  | cons {v : V} {vs : List V} {d : D} {ds : List D} : Is T H v d → Iss T H vs ds → Iss T H (v :: vs) (d :: ds)
end

theorem Same.seqT {K : PySem.W.Frag} {H H' : Hp} {a : Addr} {xs : List V} (e : Same H H') (h : SqT K H a xs) : SqT K H' a xs := by
  rcases h with (h | ⟨o, h⟩) | h
  · exact .inl (.inl (e _ _ h))
  · exact .inl (.inr ⟨o, e _ _ h⟩)
  · exact .inr h

mutual
theorem Is.mono {T : TabC} {H H' : Hp} (e : Same H H') : ∀ {v : V} {d : D}, Is T H v d → Is T H' v d
  | _, _, .non => .non
  | _, _, .bl b => .bl b
  | _, _, .int i => .int i
  | _, _, .str s => .str s
  | _, _, .tup h hs => .tup (Same.seqT e h) (Iss.mono e hs)
  | _, _, .lst h hs => .lst (e _ _ h) (Iss.mono e hs)
  | _, _, .obj h l hs => .obj (e _ _ h) l (Iss.mono e hs)
  | _, _, .scr h l => .scr (e.seq h) l
theorem Iss.mono {T : TabC} {H H' : Hp} (e : Same H H') : ∀ {vs : List V} {ds : List D}, Iss T H vs ds → Iss T H' vs ds
  | _, _, .nil => .nil
  | _, _, .cons h hs => .cons (Is.mono e h) (Iss.mono e hs)
end

theorem Iss.length {T : TabC} {H : Hp} : ∀ {vs : List V} {ds : List D}, Iss T H vs ds → vs.length = ds.length
  | _, _, .nil => rfl
  | _, _, .cons _ hs => by simp [Iss.length hs]
theorem Iss.get {T : TabC} {H : Hp} : ∀ {vs : List V} {ds : List D} {i : Nat} {v : V}, Iss T H vs ds → vs[i]? = some v → ∃ d, ds[i]? = some d ∧ Is T H v d
  | _, _, _, _, .nil, e => by simp at e
  | _, _, 0, _, .cons h _, e => by simp at e; subst e; exact ⟨_, rfl, h⟩
  | _, _, i + 1, v, .cons _ hs, e => by
    obtain ⟨d, h1, h2⟩ := Iss.get (i := i) (v := v) hs (by simpa using e)
    exact ⟨d, by simpa using h1, h2⟩
theorem Iss.get' {T : TabC} {H : Hp} : ∀ {vs : List V} {ds : List D} {i : Nat} {d : D}, Iss T H vs ds → ds[i]? = some d → ∃ v, vs[i]? = some v ∧ Is T H v d
  | _, _, _, _, .nil, e => by simp at e
  | _, _, 0, _, .cons h _, e => by simp at e; subst e; exact ⟨_, rfl, h⟩
  | _, _, i + 1, v, .cons _ hs, e => by
    obtain ⟨d, h1, h2⟩ := Iss.get' (i := i) (d := v) hs (by simpa using e)
    exact ⟨d, by simpa using h1, h2⟩
theorem Iss.append {T : TabC} {H : Hp} : ∀ {vs ws : List V} {ds es : List D}, Iss T H vs ds → Iss T H ws es → Iss T H (vs ++ ws) (ds ++ es)
  | _, _, _, _, .nil, h => h
  | _, _, _, _, .cons h hs, h' => .cons h (Iss.append hs h')
theorem Iss.take {T : TabC} {H : Hp} : ∀ {vs : List V} {ds : List D} (n : Nat), Iss T H vs ds → Iss T H (vs.take n) (ds.take n)
  | _, _, 0, _ => by simp; exact .nil
  | _, _, _ + 1, .nil => .nil
  | _, _, n + 1, .cons h hs => .cons h (Iss.take n hs)
theorem Iss.drop {T : TabC} {H : Hp} : ∀ {vs : List V} {ds : List D} (n : Nat), Iss T H vs ds → Iss T H (vs.drop n) (ds.drop n)
  | _, _, 0, h => h
  | _, _, _ + 1, .nil => .nil
  | _, _, n + 1, .cons _ hs => Iss.drop n hs
theorem Iss.set {T : TabC} {H : Hp} {v : V} {d : D} (h : Is T H v d) : ∀ {vs : List V} {ds : List D} (i : Nat), Iss T H vs ds → Iss T H (vs.set i v) (ds.set i d)
  | _, _, _, .nil => .nil
  | _, _, 0, .cons _ hs => .cons h hs
  | _, _, i + 1, .cons h' hs => .cons h' (Iss.set h i hs)
theorem Iss.reverse {T : TabC} {H : Hp} : ∀ {vs : List V} {ds : List D}, Iss T H vs ds → Iss T H vs.reverse ds.reverse
  | _, _, .nil => .nil
  | _, _, .cons h hs => by simp only [List.reverse_cons]; exact (Iss.reverse hs).append (.cons h .nil)
theorem Iss.ints {T : TabC} {H : Hp} : ∀ (ns : List Int), Iss T H (ns.map V.int) (ns.map D.int)
  | [] => .nil
  | _ :: r => .cons (.int _) (Iss.ints r)
theorem Iss.rep {T : TabC} {H : Hp} {vs : List V} {ds : List D} (h : Iss T H vs ds) : ∀ k : Nat, Iss T H (List.replicate k vs).flatten (List.replicate k ds).flatten
  | 0 => by simp; exact .nil
  | k + 1 => by
    rw [List.replicate_succ, List.replicate_succ, List.flatten_cons, List.flatten_cons]
    exact h.append (Iss.rep h k)
theorem Iss.dropLast {T : TabC} {H : Hp} {vs : List V} {ds : List D} (h : Iss T H vs ds) : Iss T H vs.dropLast ds.dropLast := by
  rw [List.dropLast_eq_take, List.dropLast_eq_take, h.length]
  exact h.take _

/-! ### the part of the heap that stands -/
/-- tuples (and what is locked) never change -/
def isFix : HO → Bool
  | .tup _ => true
  | .frz _ _ => true
  | .xd _ => true
  | _ => false
/-- S: what stands for good; H: all. Only lists, instances and the like may be in H alone -/
structure Sub (S H : Hp) : Prop where
  same : Same S H
  fix : ∀ a o, H a = some o → isFix o = true → S a = some o
theorem Sub.refl (H : Hp) : Sub H H := ⟨Same.refl H, fun _ _ h _ => h⟩
/-- a step that changes nothing tracked: more objects -/
structure Kp (S H S' H' : Hp) : Prop where
  s : Same S S'
  h : Same H H'
  sub : Sub S' H'
  hid : ∀ a, H a ≠ none → S a = none → S' a = none
theorem Kp.refl {S H : Hp} (sh : Sub S H) : Kp S H S H := ⟨Same.refl S, Same.refl H, sh, fun _ _ h => h⟩
theorem Same.some {H H' : Hp} (e : Same H H') {a : Addr} (h : H a ≠ none) : H' a ≠ none := by
  cases q : H a with
  | none => exact absurd q h
  | some o => rw [e a o q]; intro z; cases z
theorem Kp.trans {S H S1 H1 S2 H2 : Hp} (a : Kp S H S1 H1) (b : Kp S1 H1 S2 H2) : Kp S H S2 H2 :=
  ⟨a.s.trans b.s, a.h.trans b.h, b.sub, fun x h1 h2 => b.hid x (Same.some a.h h1) (a.hid x h1 h2)⟩
/-- a new object, standing -/
theorem Kp.new {S H : Hp} {p : Addr} {o : HO} (sh : Sub S H) (hp : H p = none) : Kp S H (upd S p o) (upd H p o) := by
  have sp : S p = none := sh.same.free hp
  refine ⟨fun a u e => ?_, fun a u e => ?_, ⟨fun a u e => ?_, fun a u e f => ?_⟩, fun a h1 h2 => ?_⟩
  · rw [upd_ne (ne_of_none e sp)]; exact e
  · rw [upd_ne (ne_of_none e hp)]; exact e
  · by_cases h : a = p
    · subst h; rw [upd_same] at e ⊢; exact e
    · rw [upd_ne h] at e ⊢; exact sh.same a u e
  · by_cases h : a = p
    · subst h; rw [upd_same] at e ⊢; exact e
    · rw [upd_ne h] at e ⊢; exact sh.fix a u e f
  · have : a ≠ p := fun z => h1 (z ▸ hp)
    rw [upd_ne this]; exact h2
/-- a new object, not yet standing -/
theorem Kp.hide {S H : Hp} {p : Addr} {o : HO} (sh : Sub S H) (hp : H p = none) (hf : isFix o = false) : Kp S H S (upd H p o) := by
  have sp : S p = none := sh.same.free hp
  refine ⟨Same.refl S, fun a u e => ?_, ⟨fun a u e => ?_, fun a u e f => ?_⟩, fun a h1 h2 => h2⟩
  · rw [upd_ne (ne_of_none e hp)]; exact e
  · rw [upd_ne (ne_of_none e sp)]; exact sh.same a u e
  · by_cases h : a = p
    · subst h; rw [upd_same] at e; cases e; rw [hf] at f; cases f
    · rw [upd_ne h] at e; exact sh.fix a u e f

/-! ### results -/
/-- an exception: its class by number, its fields -/
structure Xn where
  c : Nat
  fs : List D
inductive R where
  | ok (d : D)
  | ex (x : Xn)
def R1 (o : Option R) (k : D → Option R) : Option R := match o with
  | some (.ok d) => k d
  | some (.ex x) => some (.ex x)
  | none => none
@[simp] theorem R1_ok (d : D) (k : D → Option R) : R1 (some (.ok d)) k = k d := rfl
@[simp] theorem R1_ex (x : Xn) (k : D → Option R) : R1 (some (.ex x)) k = some (.ex x) := rfl
@[simp] theorem R1_none (k : D → Option R) : R1 none k = none := rfl
def okO (o : Option D) : Option R := o.map R.ok
@[simp] theorem okO_some (d : D) : okO (some d) = some (.ok d) := rfl
@[simp] theorem okO_none : okO none = none := rfl

/-- a slot of the frame -/
inductive Sl where
  | no
  | v (d : D)
  | own (ds : List D)
  | ins (c : Nat) (ds : List D)
  | exn (x : Xn)
abbrev Env := List Sl
abbrev FE := Env → Option R

/-- how an exception lies -/
def XIs (T : TabC) (H : Hp) (x : Xn) (cls : Value) (d : Option Addr) : Prop :=
  cls = .ref (T.cls x.c) ∧ ((x.fs = [] ∧ d = none) ∨ ∃ dx vs, d = some dx ∧ H dx = some (.xd ((T.flds x.c).zip vs)) ∧ vs.length = (T.flds x.c).length ∧ Iss T H vs x.fs)

theorem XIs.mono {T : TabC} {H H' : Hp} {x : Xn} {cls : Value} {d : Option Addr} (e : Same H H') (h : XIs T H x cls d) : XIs T H' x cls d := by
  obtain ⟨h1, h2⟩ := h
  refine ⟨h1, ?_⟩
  rcases h2 with h2 | ⟨dx, vs, h3, h4, h5, h6⟩
  · exact .inl h2
  · exact .inr ⟨dx, vs, h3, e _ _ h4, h5, h6.mono e⟩
/-- the slot i holds the suite's exception -/
def XAt (T : Tab) (S : Hp) (σ : L2.St) (i : Nat) (x : Xn) : Prop := ∃ a cls d, T.xa = some (a, cls, d) ∧ σ[i]? = some (some (.ref a)) ∧ XIs T S x cls d
theorem XAt.mono {T : Tab} {S S' : Hp} {σ : L2.St} {i : Nat} {x : Xn} (e : Same S S') (h : XAt T S σ i x) : XAt T S' σ i x := by
  obtain ⟨a, cls, d, h1, h2, h3⟩ := h
  exact ⟨a, cls, d, h1, h2, h3.mono e⟩
theorem XAt.set {T : Tab} {S : Hp} {σ : L2.St} {i j : Nat} {v : Option V} {x : Xn} (hj : i ≠ j) (h : XAt T S σ j x) : XAt T S (σ.set i v) j x := by
  obtain ⟨a, cls, d, h1, h2, h3⟩ := h
  exact ⟨a, cls, d, h1, by rw [List.getElem?_set_ne hj]; exact h2, h3⟩

structure RepE (T : Tab) (S : Hp) (ρ : Env) (σ : L2.St) : Prop where
  len : σ.length = ρ.length
  v : ∀ (i : Nat) (d : D), ρ[i]? = some (.v d) → ∃ v, σ[i]? = some (some v) ∧ Is T S v d
  x : ∀ (i : Nat) (x : Xn), ρ[i]? = some (.exn x) → XAt T S σ i x
theorem RepE.mono {T : Tab} {S S' : Hp} {ρ : Env} {σ : L2.St} (e : Same S S') (h : RepE T S ρ σ) : RepE T S' ρ σ := ⟨h.len, fun i d q => by
  obtain ⟨v, h1, h2⟩ := h.v i d q
  exact ⟨v, h1, h2.mono e⟩, fun i x q => (h.x i x q).mono e⟩

def REnd (T : Tab) (W : WX) (S H : Hp) (σ : L2.St) (Q : VK) : R → Prop
  | .ok d => ∀ v S' H', Kp S H S' H' → Is T S' v d → Q v H'
  | .ex x => ∀ S' H' cls d, Kp S H S' H' → XIs T S' x cls d → W cls d σ H'
theorem REnd.mono {T : Tab} {W : WX} {S H S' H' : Hp} {σ : L2.St} {Q : VK} {r : R} (k : Kp S H S' H') (h : REnd T W S H σ Q r) : REnd T W S' H' σ Q r := by
  cases r with
  | ok d => exact fun v S2 H2 k2 i => h v S2 H2 (k.trans k2) i
  | ex x => exact fun S2 H2 cls d k2 i => h S2 H2 cls d (k.trans k2) i

def tF (T : Tab) (W : WX) (f : FE) : TE := fun σ H Q => ∃ ρ S r, Sub S H ∧ RepE T S ρ σ ∧ f ρ = some r ∧ REnd T W S H σ Q r
/-- THE judgement of an expression -/
def EE (X : Cx) (T : Tab) (W : WX) (e : Expr) (f : FE) : Prop := PE X e (tF T W f)
theorem PE.weak {X : Cx} {e : Expr} {t u : TE} (h : PE X e t) (w : ∀ σ H Q, u σ H Q → t σ H Q) : PE X e u := ⟨fun pins s σ H Q I q => h.run pins s σ H Q I (w σ H Q q)⟩

section
variable {T : Tab} {W : WX} {S H : Hp} {σ : L2.St} {ρ : Env} {Q P : VK} {f : FE} {k : D → Option R} {r : R}
/-- the first part of an expression -/
theorem tF_go (sh : Sub S H) (rep : RepE T S ρ σ) (h : R1 (f ρ) k = some r) (fin : REnd T W S H σ Q r)
    (go : ∀ d v S' H', Kp S H S' H' → Is T S' v d → RepE T S' ρ σ → k d = some r → REnd T W S' H' σ Q r → P v H') : tF T W f σ H P := by
  cases e : f ρ with
  | none => rw [e] at h; cases h
  | some q =>
    rw [e] at h
    refine ⟨ρ, S, q, sh, rep, e, ?_⟩
    cases q with
    | ok d => exact fun v S' H' kp i => go d v S' H' kp i (rep.mono kp.s) h (fin.mono kp)
    | ex x =>
      cases h
      exact fin
end

/-! ### atoms -/
section
variable {X : Cx} {T : Tab} {W : WX} {e a b : Expr} {f fa fb : FE} {pos : Pos}
def vVar (i : Nat) : FE := fun ρ => match ρ[i]? with
  | some (.v d) => some (.ok d)
  | _ => none
def vC (d : D) : FE := fun _ => some (.ok d)
theorem ee_var (i : Nat) {x : Str} (hN : X.N[i]? = some x := by rfl) (hv : Vis X.env.scope x := by first | exact Or.inl rfl | exact Or.inr (Or.inl rfl) | exact Or.inr (Or.inr rfl)) (hd : (x == ("__debug__" : Str)) = false := by decide)
    (hcd : (x == ("__classdict__" : Str)) = false := by decide) : EE X T W (.Name x pos) (vVar i) := by
  refine PE.weak (pe_var hN hv hd hcd) fun σ H Q h => ?_
  obtain ⟨ρ, S, r, sh, rep, e, fin⟩ := h
  unfold vVar at e
  split at e
  · rename_i d hd'
    cases e
    obtain ⟨v, h1, h2⟩ := rep.v i d hd'
    exact ⟨v, h1, fin v S H (Kp.refl sh) h2⟩
  · cases e
theorem ee_const {v : V} {d : D} (h : PE X e (tC v)) (hi : ∀ H, Is T H v d) : EE X T W e (vC d) := by
  refine PE.weak h fun σ H Q q => ?_
  obtain ⟨ρ, S, r, sh, rep, e, fin⟩ := q
  cases e
  exact fin v S H (Kp.refl sh) (hi S)
theorem ee_int {i : Int} {j} : EE X T W (.Constant (.int i) j pos) (vC (.int i)) := ee_const pe_int fun _ => .int i
theorem ee_bl {b : Bool} {j} : EE X T W (.Constant (.bool b) j pos) (vC (.bl b)) := ee_const pe_bl fun _ => .bl b
theorem ee_non {j} : EE X T W (.Constant .none j pos) (vC .non) := ee_const pe_non fun _ => .non
theorem ee_str {x : Str} {j} : EE X T W (.Constant (.str x) j pos) (vC (.str x)) := ee_const pe_str fun _ => .str x

/-! ### operators by values -/
/-- r does what o says -/
def Op2 (T : TabC) (r : R2) (o : D → D → Option D) : Prop := ∀ (S H : Hp) (x y : V) (p q d : D) (Q : VK), Sub S H → Is T S x p → Is T S y q → o p q = some d → (∀ v S' H', Kp S H S' H' → Is T S' v d → Q v H') → r x y H Q
def Op1 (T : TabC) (r : V → Hp → VK → Prop) (o : D → Option D) : Prop := ∀ (S H : Hp) (x : V) (p d : D) (Q : VK), Sub S H → Is T S x p → o p = some d → (∀ v S' H', Kp S H S' H' → Is T S' v d → Q v H') → r x H Q
def v2 (o : D → D → Option D) (fa fb : FE) : FE := fun ρ => R1 (fa ρ) fun p => R1 (fb ρ) fun q => okO (o p q)
def v1 (o : D → Option D) (fa : FE) : FE := fun ρ => R1 (fa ρ) fun p => okO (o p)
theorem okO_inv {o : Option D} {r : R} (h : okO o = some r) : ∃ d, o = some d ∧ r = .ok d := by
  cases o with
  | none => cases h
  | some d => cases h; exact ⟨d, rfl, rfl⟩
theorem w2 {r : R2} {o : D → D → Option D} (h : Op2 T r o) (σ : L2.St) (H : Hp) (Q : VK) (q : tF T W (v2 o fa fb) σ H Q) : tOp r (tF T W fa) (tF T W fb) σ H Q := by
  obtain ⟨ρ, S, z, sh, rep, e, fin⟩ := q
  refine tF_go sh rep e fin fun p x S1 H1 k1 i1 rep1 e1 fin1 => ?_
  refine tF_go k1.sub rep1 e1 fin1 fun p2 y S2 H2 k2 i2 rep2 e2 fin2 => ?_
  obtain ⟨d, e3, rfl⟩ := okO_inv e2
  exact h S2 H2 x y p p2 d Q k2.sub (i1.mono k2.s) i2 e3 fin2
theorem ee_op {op : Operator} {r : R2} {o : D → D → Option D} (ho : OpR X (binaryOp op) r) (h : Op2 T r o) (ha : EE X T W a fa) (hb : EE X T W b fb) : EE X T W (.BinOp a op b pos) (v2 o fa fb) :=
  PE.weak (pe_op ho ha hb) (w2 h)
theorem ee_cmp {op : CmpOp} {r : R2} {o : D → D → Option D} (ho : OpR X (compareOp op) r) (h : Op2 T r o) (ha : EE X T W a fa) (hb : EE X T W b fb) (hm : behindInMarks op b = false) : EE X T W (.Compare a [op] [b] pos) (v2 o fa fb) :=
  PE.weak (pe_cmpR ho ha hb hm) (w2 h)
theorem ee_un {op : UnaryOp} {r : V → Hp → VK → Prop} {o : D → Option D} (ho : UnR X (unaryOp op) r) (h : Op1 T r o) (ha : EE X T W a fa) : EE X T W (.UnaryOp op a pos) (v1 o fa) := by
  refine PE.weak (pe_un ho ha) fun σ H Q q => ?_
  obtain ⟨ρ, S, z, sh, rep, e, fin⟩ := q
  refine tF_go sh rep e fin fun p x S1 H1 k1 i1 rep1 e1 fin1 => ?_
  obtain ⟨d, e3, rfl⟩ := okO_inv e1
  exact h S1 H1 x p d Q k1.sub i1 e3 fin1
theorem Op2.or {r r' : R2} {o : D → D → Option D} {o1 o2 : D → D → Option D} (h1 : Op2 T r o1) (h2 : Op2 T r' o2) (ho : ∀ p q d, o p q = some d → o1 p q = some d ∨ o2 p q = some d) : Op2 T (fun x y H Q => r x y H Q ∨ r' x y H Q) o :=
  fun S H x y p q d Q sh i1 i2 e fin => (ho p q d e).elim (fun e => .inl (h1 S H x y p q d Q sh i1 i2 e fin)) fun e => .inr (h2 S H x y p q d Q sh i1 i2 e fin)
end
end EV
end

section
set_option maxHeartbeats 4000000
/-! EV2: operators, subscripts, slices, comparisons. -/
namespace EV
open PySem L2

/-! ### equality of data -/
mutual
def D.eqv : D → D → Bool
  | .non, .non => true
  | .bl a, .bl b => a == b
  | .bl a, .int j => (if a then 1 else 0) == j
  | .int i, .bl b => i == (if b then 1 else 0)
  | .int i, .int j => i == j
  | .str x, .str y => x == y
  | .lst xs, .lst ys => D.eqvs xs ys
  | .tup xs, .tup ys => D.eqvs xs ys
  | _, _ => false
def D.eqvs : List D → List D → Bool
  | [], [] => true
  | x :: xs, y :: ys => D.eqv x y && D.eqvs xs ys
  | _, _ => false
end
mutual
def D.py : D → PyData
  | .non => .none
  | .bl b => .bool b
  | .int i => .int i
  | .str s => .str s
  | .tup xs => .tuple (D.pys xs)
  | .lst xs => .list (D.pys xs)
  | .obj _ _ => .none
  | .scr _ => .none
def D.pys : List D → List PyData
  | [] => []
  | x :: xs => D.py x :: D.pys xs
end
mutual
/-- plain data of depth at most n -/
def D.pl : Nat → D → Bool
  | _, .non => true
  | _, .bl _ => true
  | _, .int _ => true
  | _, .str s => PyData.strOk s
  | n + 1, .tup xs => D.pls n xs
  | n + 1, .lst xs => D.pls n xs
  | _, _ => false
def D.pls : Nat → List D → Bool
  | _, [] => true
  | n, x :: xs => D.pl n x && D.pls n xs
end
theorem pls_all {n : Nat} : ∀ {xs : List D}, D.pls n xs = true ↔ ∀ x ∈ xs, D.pl n x = true
  | [] => by simp [D.pls]
  | x :: xs => by
    rw [D.pls, Bool.and_eq_true, pls_all]
    simp

mutual
theorem shaped_pl : ∀ (n : Nat) (d : D), D.pl n d = true → (D.py d).canLay0 = true ∧ (D.py d).depth ≤ n
  | n, .non, _ => by simp [D.py, PyData.canLay0, PyData.depth]
  | n, .bl _, _ => by simp [D.py, PyData.canLay0, PyData.depth]
  | n, .int _, _ => by simp [D.py, PyData.canLay0, PyData.depth]
  | n, .str s, h => by
    cases n <;> simp only [D.pl] at h <;> simp [D.py, PyData.canLay0, PyData.depth, h]
  | n + 1, .tup xs, h => by
    have h' : D.pls n xs = true := by simpa [D.pl] using h
    have q := shaped_pls n xs h'
    simp only [D.py, PyData.canLay0, PyData.depth]
    exact ⟨q.1, by have := q.2; omega⟩
  | n + 1, .lst xs, h => by
    have h' : D.pls n xs = true := by simpa [D.pl] using h
    have q := shaped_pls n xs h'
    simp only [D.py, PyData.canLay0, PyData.depth]
    exact ⟨q.1, by have := q.2; omega⟩
  | 0, .tup _, h => by simp [D.pl] at h
  | 0, .lst _, h => by simp [D.pl] at h
  | 0, .obj _ _, h => by simp [D.pl] at h
  | _ + 1, .obj _ _, h => by simp [D.pl] at h
  | 0, .scr _, h => by simp [D.pl] at h
  | _ + 1, .scr _, h => by simp [D.pl] at h
theorem shaped_pls : ∀ (n : Nat) (xs : List D), D.pls n xs = true → PyData.canLayAll0 (D.pys xs) = true ∧ PyData.depthAll (D.pys xs) ≤ n
  | _, [], _ => by simp [D.pys, PyData.canLayAll0, PyData.depthAll]
  | n, x :: xs, h => by
    rw [D.pls, Bool.and_eq_true] at h
    have h1 := shaped_pl n x h.1
    have h2 := shaped_pls n xs h.2
    simp only [D.pys, PyData.canLayAll0, PyData.depthAll, h1.1, h2.1]
    exact ⟨rfl, by have := h1.2; have := h2.2; omega⟩
end
theorem shaped_of {n : Nat} {d : D} (h : D.pl n d = true) (hn : n ≤ 64) : SeqAt.shaped (D.py d) = true := by
  have q := shaped_pl n d h
  unfold SeqAt.shaped
  rw [q.1, decide_eq_true (Nat.le_trans q.2 hn)]
  rfl
mutual
theorem eqv_py : ∀ (n : Nat) (d e : D), D.pl n d = true → D.pl n e = true → PyData.eqv (D.py d) (D.py e) = D.eqv d e
  | n, d, e, h1, h2 => by
    cases d <;> cases e <;> first
      | (cases n <;> simp [D.pl] at h1; done)
      | (cases n <;> simp [D.pl] at h2; done)
      | (simp only [D.py, PyData.eqv, D.eqv]; done)
      | (cases n with
         | zero => simp [D.pl] at h1
         | succ n =>
           simp only [D.py, PyData.eqv, D.eqv]
           exact eqvs_pys n _ _ (by simpa [D.pl] using h1) (by simpa [D.pl] using h2))
theorem eqvs_pys : ∀ (n : Nat) (ds es : List D), D.pls n ds = true → D.pls n es = true → PyData.eqvAll (D.pys ds) (D.pys es) = D.eqvs ds es
  | _, [], [], _, _ => by simp [D.pys, PyData.eqvAll, D.eqvs]
  | _, [], _ :: _, _, _ => by simp [D.pys, PyData.eqvAll, D.eqvs]
  | _, _ :: _, [], _, _ => by simp [D.pys, PyData.eqvAll, D.eqvs]
  | n, d :: ds, e :: es, h1, h2 => by
    rw [D.pls, Bool.and_eq_true] at h1 h2
    simp only [D.pys, PyData.eqvAll, D.eqvs]
    rw [eqv_py n d e h1.1 h2.1, eqvs_pys n ds es h1.2 h2.2]
end
mutual
theorem Is.dp {T : Tab} {H : Hp} : ∀ {n : Nat} {v : V} {d : D}, Is T H v d → D.pl n d = true → Dp T.K H v (D.py d)
  | _, _, _, .non, _ => by rw [D.py]; exact .non
  | _, _, _, .bl b, _ => by rw [D.py]; exact .bl b
  | _, _, _, .int i, _ => by rw [D.py]; exact .int i
  | _, _, _, .str s, _ => by rw [D.py]; exact .str s
  | n + 1, _, _, .tup h hs, p => by rw [D.py]; exact .tup h (Iss.dps hs (n := n) (by simpa [D.pl] using p))
  | n + 1, _, _, .lst h hs, p => by rw [D.py]; exact .lst (SqL.of h) (Iss.dps hs (n := n) (by simpa [D.pl] using p))
  | 0, _, _, .tup h hs, p => by simp [D.pl] at p
  | 0, _, _, .lst h hs, p => by simp [D.pl] at p
  | n, _, _, .obj h l hs, p => by cases n <;> simp [D.pl] at p
  | n, _, _, .scr h l, p => by cases n <;> simp [D.pl] at p
theorem Iss.dps {T : Tab} {H : Hp} : ∀ {n : Nat} {vs : List V} {ds : List D}, Iss T H vs ds → D.pls n ds = true → DpAll T.K H vs (D.pys ds)
  | _, _, _, .nil, _ => by rw [D.pys]; exact .nil
  | n, _, _, .cons h hs, p => by
    rw [D.pls, Bool.and_eq_true] at p
    rw [D.pys]
    exact .cons (Is.dp h p.1) (Iss.dps hs p.2)
end
theorem pys_map : ∀ ds : List D, D.pys ds = ds.map D.py
  | [] => by simp [D.pys]
  | d :: ds => by simp [D.pys, pys_map ds]

/-! ### arithmetic -/
def addD : D → D → Option D
  | .int i, .int j => some (.int (i + j))
  | .lst xs, .lst ys => if xs.length + ys.length ≤ 100000 then some (.lst (xs ++ ys)) else none
  | .tup xs, .tup ys => if xs.length + ys.length ≤ 100000 then some (.tup (xs ++ ys)) else none
  | .str x, .str y => if x.length + y.length ≤ 100000 then some (.str (x ++ y)) else none
  | _, _ => none
def subD : D → D → Option D
  | .int i, .int j => some (.int (i - j))
  | _, _ => none
def mulD : D → D → Option D
  | .int i, .int j => if (-(2 ^ 64) < i ∧ i < 2 ^ 64) ∨ (-(2 ^ 64) < j ∧ j < 2 ^ 64) then some (.int (i * j)) else none
  | .lst xs, .int k => if -(2 ^ 63) ≤ k ∧ k < 2 ^ 63 ∧ xs.length * k.toNat ≤ 100000 then some (.lst (List.replicate k.toNat xs).flatten) else none
  | _, _ => none
def modD : D → D → Option D
  | .int i, .int j => if 0 < j then some (.int (i % j)) else none
  | _, _ => none
def fdivD : D → D → Option D
  | .int i, .int j => if 0 < j ∧ j < 1073741824 then some (.int (i / j)) else none
  | _, _ => none
def powD : D → D → Option D
  | .int i, .int j => if 0 ≤ j ∧ j ≤ 1000000 ∧ i.natAbs < 2 ^ 64 then some (.int (i ^ j.toNat)) else none
  | _, _ => none
def negD : D → Option D
  | .int i => some (.int (-i))
  | _ => none
def cmpD (p : Int → Int → Bool) : D → D → Option D
  | .int i, .int j => some (.bl (p i j))
  | _, _ => none
abbrev ltD := cmpD fun i j => decide (i < j)
abbrev leD := cmpD fun i j => decide (i ≤ j)
abbrev gtD := cmpD fun i j => decide (j < i)
abbrev geD := cmpD fun i j => decide (j ≤ i)
def eqD (p q : D) : Option D := if D.pl 8 p && D.pl 8 q then some (.bl (D.eqv p q)) else none
def neD (p q : D) : Option D := if D.pl 8 p && D.pl 8 q then some (.bl (!D.eqv p q)) else none
def D.isNon : D → Bool
  | .non => true
  | _ => false
def isNonD : D → D → Option D
  | p, .non => some (.bl p.isNon)
  | _, _ => none
def notNonD : D → D → Option D
  | p, .non => some (.bl (!p.isNon))
  | _, _ => none

theorem line_of {n : Nat} (h : n ≤ 100000) : n ≤ sizeLine := by rw [sizeLine_eq]; omega
theorem line_lt {n : Nat} (h : n < 100000) : n < sizeLine := by rw [sizeLine_eq]; omega
section
variable {T : Tab} {X : Cx}
theorem o_I0 {g : Int → Int → D} {gv : Int → Int → V} {o : D → D → Option D} (hg : ∀ H i j, Is T H (gv i j) (g i j)) (ho : ∀ p q d, o p q = some d → ∃ i j, p = .int i ∧ q = .int j ∧ d = g i j) : Op2 T (rI0 gv) o := by
  intro S H x y p q d Q sh i1 i2 e fin
  obtain ⟨i, j, rfl, rfl, rfl⟩ := ho p q d e
  cases i1
  cases i2
  exact ⟨i, j, rfl, rfl, fin _ S H (Kp.refl sh) (hg S i j)⟩
theorem o_I {C : Int → Int → Prop} {g : Int → Int → D} {gv : Int → Int → V} {o : D → D → Option D} (hg : ∀ H i j, Is T H (gv i j) (g i j)) (ho : ∀ p q d, o p q = some d → ∃ i j, p = .int i ∧ q = .int j ∧ C i j ∧ d = g i j) : Op2 T (rI C gv) o := by
  intro S H x y p q d Q sh i1 i2 e fin
  obtain ⟨i, j, rfl, rfl, c, rfl⟩ := ho p q d e
  cases i1
  cases i2
  exact ⟨i, j, rfl, rfl, c, fin _ S H (Kp.refl sh) (hg S i j)⟩

def addI : D → D → Option D
  | .int i, .int j => some (.int (i + j))
  | _, _ => none
def addL : D → D → Option D
  | .lst xs, .lst ys => if xs.length + ys.length ≤ 100000 then some (.lst (xs ++ ys)) else none
  | _, _ => none
def addT : D → D → Option D
  | .tup xs, .tup ys => if xs.length + ys.length ≤ 100000 then some (.tup (xs ++ ys)) else none
  | _, _ => none
def addS : D → D → Option D
  | .str x, .str y => if x.length + y.length ≤ 100000 then some (.str (x ++ y)) else none
  | _, _ => none
theorem o_addI : Op2 T (rI0 fun i j => .int (i + j)) addI := o_I0 (g := fun i j => .int (i + j)) (fun _ i j => .int _) fun p q d e => by
  unfold addI at e
  split at e <;> cases e
  exact ⟨_, _, rfl, rfl, rfl⟩
theorem o_addL : Op2 T rCat addL := by
  intro S H x y p q d Q sh i1 i2 e fin
  unfold addL at e
  split at e <;> try cases e
  rename_i xs ys
  split at e <;> cases e
  rename_i hl
  cases i1 with
  | @lst a1 vs1 _ h1 s1 => cases i2 with
    | @lst a2 vs2 _ h2 s2 =>
      refine ⟨_, _, _, _, rfl, rfl, sh.same _ _ h1, sh.same _ _ h2, ?_, fun np hp => ?_⟩
      · rw [s1.length, s2.length]; exact line_of hl
      · have k := Kp.new (o := .lst (vs1 ++ vs2)) sh hp
        exact fin _ _ _ k (.lst upd_same ((s1.mono k.s).append (s2.mono k.s)))
theorem o_addT {K : PySem.W.Frag} (hK : K = T.K) : Op2 T (rCatA K) addT := by
  subst hK
  intro S H x y p q d Q sh i1 i2 e fin
  unfold addT at e
  split at e <;> try cases e
  rename_i xs ys
  split at e <;> cases e
  rename_i hl
  cases i1 with
  | @tup a1 vs1 _ h1 s1 => cases i2 with
    | @tup a2 vs2 _ h2 s2 =>
      refine ⟨_, _, _, _, rfl, rfl, Same.seqT sh.same h1, Same.seqT sh.same h2, ?_, fun z => ?_, fun z1 z2 => ?_, fun z1 z2 np hp => ?_⟩
      · rw [s1.length, s2.length]; exact line_of hl
      · subst z
        cases s1
        exact fin _ S H (Kp.refl sh) (.tup h2 s2)
      · subst z2
        cases s2
        rw [List.append_nil] at *
        exact fin _ S H (Kp.refl sh) (.tup h1 s1)
      · have k := Kp.new (o := .tup (vs1 ++ vs2)) sh hp
        exact fin _ _ _ k (.tup (SqT.of upd_same) ((s1.mono k.s).append (s2.mono k.s)))
theorem o_addS : Op2 T (fun x y H Q => ∃ i j, x = .str i ∧ y = .str j ∧ i.length + j.length ≤ sizeLine ∧ Q (.str (i ++ j)) H) addS := by
  intro S H x y p q d Q sh i1 i2 e fin
  unfold addS at e
  split at e <;> try cases e
  split at e <;> cases e
  rename_i hl
  cases i1
  cases i2
  exact ⟨_, _, rfl, rfl, line_of hl, fin _ S H (Kp.refl sh) (.str _)⟩
theorem o_add {K : PySem.W.Frag} (hK : K = T.K) : Op2 T (fun x y H Q => (rI0 (fun i j => .int (i + j)) x y H Q ∨ rCat x y H Q) ∨ (rCatA K x y H Q ∨ ∃ i j, x = .str i ∧ y = .str j ∧ i.length + j.length ≤ sizeLine ∧ Q (.str (i ++ j)) H)) addD := by
  refine Op2.or (o1 := fun p q => if (addI p q).isSome then addI p q else addL p q) (o2 := fun p q => if (addT p q).isSome then addT p q else addS p q)
    (Op2.or o_addI o_addL fun p q d e => ?_) (Op2.or (o_addT hK) o_addS fun p q d e => ?_) fun p q d e => ?_
  · split at e
    · exact .inl e
    · exact .inr e
  · split at e
    · exact .inl e
    · exact .inr e
  · unfold addD at e
    split at e
    · exact .inl e
    · exact .inl e
    · split at e <;> cases e
      rename_i h
      exact .inr (by simp [addT, h])
    · exact .inr e
    · cases e
variable {W : WX} {a b : Expr} {fa fb : FE} {pos : Pos}
theorem ee_add (hK : X.K = T.K := by rfl) (ha : EE X T W a fa) (hb : EE X T W b fb) : EE X T W (.BinOp a .Add b pos) (v2 addD fa fb) := ee_op ((op_add.or op_cat).or (op_catA.or op_add_str)) (o_add hK) ha hb
theorem ee_sub (ha : EE X T W a fa) (hb : EE X T W b fb) : EE X T W (.BinOp a .Sub b pos) (v2 subD fa fb) := ee_op op_sub (o_I0 (g := fun i j => .int (i - j)) (fun _ i j => .int _) fun p q d e => by
  unfold subD at e
  split at e <;> cases e
  exact ⟨_, _, rfl, rfl, rfl⟩) ha hb
theorem ee_mul (ha : EE X T W a fa) (hb : EE X T W b fb) : EE X T W (.BinOp a .Mult b pos) (v2 mulD fa fb) := by
  refine ee_op (op_mul.or op_rep) (Op2.or (o1 := fun p q => match p, q with | .int _, .int _ => mulD p q | _, _ => none) (o2 := fun p q => match p, q with | .lst _, .int _ => mulD p q | _, _ => none)
    (o_I (g := fun i j => .int (i * j)) (fun _ i j => .int _) fun p q d e => ?_) ?_ fun p q d e => ?_) ha hb
  · split at e <;> try cases e
    simp only [mulD] at e
    split at e <;> cases e
    rename_i h
    exact ⟨_, _, rfl, rfl, h, rfl⟩
  · intro S H x y p q d Q sh i1 i2 e fin
    dsimp only at e
    split at e <;> try cases e
    rename_i xs kk
    simp only [mulD] at e
    split at e <;> cases e
    rename_i h
    cases i1 with
    | @lst a1 vs1 _ h1 s1 =>
      cases i2
      refine ⟨_, _, _, rfl, rfl, sh.same _ _ h1, h.1, h.2.1, ?_, fun np hp => ?_⟩
      · rw [s1.length]; exact line_of h.2.2
      · have k := Kp.new (o := .lst (List.replicate kk.toNat vs1).flatten) sh hp
        exact fin _ _ _ k (.lst upd_same ((s1.mono k.s).rep _))
  · unfold mulD at e
    split at e
    · exact .inl e
    · exact .inr e
    · cases e
theorem ee_mod (ha : EE X T W a fa) (hb : EE X T W b fb) : EE X T W (.BinOp a .Mod b pos) (v2 modD fa fb) := ee_op op_mod (o_I (g := fun i j => .int (i % j)) (fun _ i j => .int _) fun p q d e => by
  unfold modD at e
  split at e <;> try cases e
  split at e <;> cases e
  rename_i h
  exact ⟨_, _, rfl, rfl, h, rfl⟩) ha hb
theorem ee_fdiv (ha : EE X T W a fa) (hb : EE X T W b fb) : EE X T W (.BinOp a .FloorDiv b pos) (v2 fdivD fa fb) := ee_op op_fdiv (o_I (g := fun i j => .int (i / j)) (fun _ i j => .int _) fun p q d e => by
  unfold fdivD at e
  split at e <;> try cases e
  split at e <;> cases e
  rename_i h
  exact ⟨_, _, rfl, rfl, h, rfl⟩) ha hb
theorem ee_pow (ha : EE X T W a fa) (hb : EE X T W b fb) : EE X T W (.BinOp a .Pow b pos) (v2 powD fa fb) := ee_op op_pow (o_I (g := fun i j => .int (i ^ j.toNat)) (fun _ i j => .int _) fun p q d e => by
  unfold powD at e
  split at e <;> try cases e
  split at e <;> cases e
  rename_i h
  exact ⟨_, _, rfl, rfl, h, rfl⟩) ha hb
theorem ee_neg (ha : EE X T W a fa) : EE X T W (.UnaryOp .USub a pos) (v1 negD fa) := by
  refine ee_un un_neg (fun S H x p d Q sh i1 e fin => ?_) ha
  unfold negD at e
  split at e <;> cases e
  cases i1
  exact ⟨_, rfl, fin _ S H (Kp.refl sh) (.int _)⟩
theorem o_cmp {c : Int → Int → Bool} : Op2 T (rI0 fun i j => .bl (c i j)) (cmpD c) := o_I0 (g := fun i j => .bl (c i j)) (fun _ i j => .bl _) fun p q d e => by
  unfold cmpD at e
  split at e <;> cases e
  exact ⟨_, _, rfl, rfl, rfl⟩
theorem ee_lt (ha : EE X T W a fa) (hb : EE X T W b fb) : EE X T W (.Compare a [.Lt] [b] pos) (v2 ltD fa fb) := ee_cmp op_lt o_cmp ha hb (nomark _)
theorem ee_le (ha : EE X T W a fa) (hb : EE X T W b fb) : EE X T W (.Compare a [.LtE] [b] pos) (v2 leD fa fb) := ee_cmp op_le o_cmp ha hb (nomark _)
theorem ee_gt (ha : EE X T W a fa) (hb : EE X T W b fb) : EE X T W (.Compare a [.Gt] [b] pos) (v2 gtD fa fb) := ee_cmp op_gt o_cmp ha hb (nomark _)
theorem ee_ge (ha : EE X T W a fa) (hb : EE X T W b fb) : EE X T W (.Compare a [.GtE] [b] pos) (v2 geD fa fb) := ee_cmp op_ge o_cmp ha hb (nomark _)
theorem o_eq {K : PySem.W.Frag} (hK : K = T.K) : Op2 T (rEqD K) eqD := by
  subst hK
  intro S H x y p q d Q sh i1 i2 e fin
  unfold eqD at e
  split at e <;> cases e
  rename_i h
  rw [Bool.and_eq_true] at h
  refine ⟨_, _, (i1.mono sh.same).dp h.1, (i2.mono sh.same).dp h.2, shaped_of h.1 (by decide), shaped_of h.2 (by decide), ?_⟩
  rw [eqv_py 8 p q h.1 h.2]
  exact fin _ S H (Kp.refl sh) (.bl _)
theorem o_ne {K : PySem.W.Frag} (hK : K = T.K) : Op2 T (rNeD K) neD := by
  subst hK
  intro S H x y p q d Q sh i1 i2 e fin
  unfold neD at e
  split at e <;> cases e
  rename_i h
  rw [Bool.and_eq_true] at h
  refine ⟨_, _, (i1.mono sh.same).dp h.1, (i2.mono sh.same).dp h.2, shaped_of h.1 (by decide), shaped_of h.2 (by decide), ?_⟩
  rw [eqv_py 8 p q h.1 h.2]
  exact fin _ S H (Kp.refl sh) (.bl _)
theorem ee_eq {n : Nat} (hr : Room n X.A) (hK : X.K = T.K := by rfl) (ha : EE X T W a fa) (hb : EE X T W b fb) : EE X T W (.Compare a [.Eq] [b] pos) (v2 eqD fa fb) := ee_cmp (op_eqD hr.units) (o_eq hK) ha hb (nomark _)
theorem ee_ne {n : Nat} (hr : Room n X.A) (hK : X.K = T.K := by rfl) (ha : EE X T W a fa) (hb : EE X T W b fb) : EE X T W (.Compare a [.NotEq] [b] pos) (v2 neD fa fb) := ee_cmp (op_neD hr.units) (o_ne hK) ha hb (nomark _)
theorem is_non {H : Hp} {x : V} {p : D} (h : Is T H x p) : decide (x = .non) = p.isNon := by
  cases h <;> simp [D.isNon]
theorem ee_isN (ha : EE X T W a fa) (hb : EE X T W b fb) : EE X T W (.Compare a [.Is] [b] pos) (v2 isNonD fa fb) := by
  refine ee_cmp op_isN (fun S H x y p q d Q sh i1 i2 e fin => ?_) ha hb (nomark _)
  unfold isNonD at e
  split at e <;> cases e
  cases i2
  refine ⟨rfl, ?_⟩
  rw [is_non i1]
  exact fin _ S H (Kp.refl sh) (.bl _)
theorem ee_notN (ha : EE X T W a fa) (hb : EE X T W b fb) : EE X T W (.Compare a [.IsNot] [b] pos) (v2 notNonD fa fb) := by
  refine ee_cmp op_notN (fun S H x y p q d Q sh i1 i2 e fin => ?_) ha hb (nomark _)
  unfold notNonD at e
  split at e <;> cases e
  cases i2
  refine ⟨rfl, ?_⟩
  rw [is_non i1]
  exact fin _ S H (Kp.refl sh) (.bl _)

/-! ### in -/
def inD : D → D → Option D
  | p, .lst xs => if D.pl 8 p && D.pls 8 xs then some (.bl (xs.any fun z => D.eqv z p)) else none
  | p, .tup xs => if D.pl 8 p && D.pls 8 xs then some (.bl (xs.any fun z => D.eqv z p)) else none
  | _, _ => none
def ninD : D → D → Option D
  | p, .lst xs => if D.pl 8 p && D.pls 8 xs then some (.bl (!xs.any fun z => D.eqv z p)) else none
  | p, .tup xs => if D.pl 8 p && D.pls 8 xs then some (.bl (!xs.any fun z => D.eqv z p)) else none
  | _, _ => none
theorem any_py {p : D} (hp : D.pl 8 p = true) : ∀ {xs : List D}, D.pls 8 xs = true → ((D.pys xs).any fun z => PyData.eqv z (D.py p)) = xs.any fun z => D.eqv z p
  | [], _ => by simp [D.pys]
  | x :: xs, h => by
    rw [D.pls, Bool.and_eq_true] at h
    rw [D.pys, List.any_cons, List.any_cons, eqv_py 8 x p h.1 hp, any_py hp h.2]
def rAmong (K : PySem.W.Frag) (neg : Bool) : R2 := fun x y H Q => ∃ d ds, Dp K H x d ∧ (Dp K H y (.list ds) ∨ Dp K H y (.tuple ds)) ∧ d.canLay0 = true ∧ PyData.canLayAll0 ds = true ∧ d.depth ≤ 60 ∧ Q (.bl (if neg then !(ds.any fun z => PyData.eqv z d) else ds.any fun z => PyData.eqv z d)) H
theorem op_among (hu : X.A.units + 64 < cLine) : OpR X (compareOp .In) (rAmong X.K false) := by
  intro pins s σ H x y v u Q I rx ry h
  obtain ⟨d, ds, hd, he, c1, c2, hdp, q⟩ := h
  obtain ⟨as, r1⟩ := Dp.reads I d x v hd rx
  have hm : X.A.units + 1 + min (PyData.depthAll ds) d.depth < cLine := by
    have := Nat.min_le_right (PyData.depthAll ds) d.depth
    omega
  rcases he with he | he
  · obtain ⟨bs, r2⟩ := Dp.reads I (.list ds) y u he ry
    exact SeqAt.in_list_reads r2 r1 c2 c1 hm ⟨.bl _, H, I, rfl, q⟩
  · obtain ⟨bs, r2⟩ := Dp.reads I (.tuple ds) y u he ry
    exact SeqAt.in_tuple_reads r2 r1 c2 c1 hm ⟨.bl _, H, I, rfl, q⟩
theorem op_namong (hu : X.A.units + 64 < cLine) : OpR X (compareOp .NotIn) (rAmong X.K true) := by
  intro pins s σ H x y v u Q I rx ry h
  obtain ⟨d, ds, hd, he, c1, c2, hdp, q⟩ := h
  obtain ⟨as, r1⟩ := Dp.reads I d x v hd rx
  have hm : X.A.units + 1 + min (PyData.depthAll ds) d.depth < cLine := by
    have := Nat.min_le_right (PyData.depthAll ds) d.depth
    omega
  rcases he with he | he
  · obtain ⟨bs, r2⟩ := Dp.reads I (.list ds) y u he ry
    exact SeqAt.notIn_list_reads r2 r1 c2 c1 hm ⟨.bl _, H, I, rfl, q⟩
  · obtain ⟨bs, r2⟩ := Dp.reads I (.tuple ds) y u he ry
    exact SeqAt.notIn_tuple_reads r2 r1 c2 c1 hm ⟨.bl _, H, I, rfl, q⟩
theorem among_go {K : PySem.W.Frag} (hK : K = T.K) {neg : Bool} {S H : Hp} {x y : V} {p : D} {xs : List D} {Q : VK} (sh : EV.Sub S H) (i1 : Is T S x p) (h : (D.pl 8 p && D.pls 8 xs) = true) (i2 : Is T S y (.lst xs) ∨ Is T S y (.tup xs))
    (fin : Q (.bl (if neg then !(xs.any fun z => D.eqv z p) else xs.any fun z => D.eqv z p)) H) : rAmong K neg x y H Q := by
  subst hK
  rw [Bool.and_eq_true] at h
  have q1 := shaped_pl 8 p h.1
  have q2 := shaped_pls 8 xs h.2
  refine ⟨D.py p, D.pys xs, (i1.mono sh.same).dp h.1, ?_, q1.1, q2.1, Nat.le_trans q1.2 (by decide), by rw [any_py h.1 h.2]; exact fin⟩
  rcases i2 with i2 | i2
  · have z := (i2.mono sh.same).dp (n := 9) (by simpa [D.pl] using h.2)
    rw [D.py] at z
    exact .inl z
  · have z := (i2.mono sh.same).dp (n := 9) (by simpa [D.pl] using h.2)
    rw [D.py] at z
    exact .inr z
theorem o_in {K : PySem.W.Frag} (hK : K = T.K) : Op2 T (rAmong K false) inD := by
  intro S H x y p q d Q sh i1 i2 e fin
  unfold inD at e
  split at e <;> try cases e
  all_goals
    split at e <;> cases e
    rename_i h
    exact among_go hK sh i1 h (by first | exact .inl i2 | exact .inr i2) (fin _ S H (Kp.refl sh) (.bl _))
theorem o_nin {K : PySem.W.Frag} (hK : K = T.K) : Op2 T (rAmong K true) ninD := by
  intro S H x y p q d Q sh i1 i2 e fin
  unfold ninD at e
  split at e <;> try cases e
  all_goals
    split at e <;> cases e
    rename_i h
    exact among_go hK sh i1 h (by first | exact .inl i2 | exact .inr i2) (fin _ S H (Kp.refl sh) (.bl _))
theorem room64 {n : Nat} (hr : Room n X.A) : X.A.units + 64 < cLine := by
  have := hr.un
  omega
theorem ee_in {n : Nat} (hr : Room n X.A) (hm : behindInMarks .In b = false) (hK : X.K = T.K := by rfl) (ha : EE X T W a fa) (hb : EE X T W b fb) : EE X T W (.Compare a [.In] [b] pos) (v2 inD fa fb) := ee_cmp (op_among (room64 hr)) (o_in hK) ha hb hm
theorem ee_nin {n : Nat} (hr : Room n X.A) (hm : behindInMarks .NotIn b = false) (hK : X.K = T.K := by rfl) (ha : EE X T W a fa) (hb : EE X T W b fb) : EE X T W (.Compare a [.NotIn] [b] pos) (v2 ninD fa fb) := ee_cmp (op_namong (room64 hr)) (o_nin hK) ha hb hm

/-! ### subscripts -/
def ixD : D → D → Option D
  | .lst xs, .int i => atI xs i
  | .tup xs, .int i => atI xs i
  | .scr ns, .int i => (atI ns i).map D.int
  | _, _ => none
theorem atI_iss {H : Hp} {vs : List V} {ds : List D} {i : Int} {d : D} (h : Iss T H vs ds) (e : atI ds i = some d) : ∃ v, atI vs i = some v ∧ Is T H v d := by
  unfold atI at e ⊢
  rw [h.length]
  cases q : ixN ds.length i with
  | none => rw [q] at e; cases e
  | some j =>
    rw [q] at e
    exact h.get' e
theorem atI_map {ns : List Int} {i j : Int} (e : atI ns i = some j) : atI (ns.map V.int) i = some (V.int j) := by
  unfold atI at e ⊢
  rw [List.length_map]
  cases q : ixN ns.length i with
  | none => rw [q] at e; cases e
  | some k =>
    rw [q] at e
    have e' : ns[k]? = some j := e
    show (ns.map V.int)[k]? = some (V.int j)
    rw [List.getElem?_map, e']
    rfl
theorem o_ix {K : PySem.W.Frag} (hK : K = T.K) : Op2 T (fun x y H Q => rIxL K x y H Q ∨ rIxT K x y H Q) ixD := by
  subst hK
  intro S H x y p q d Q sh i1 i2 e fin
  unfold ixD at e
  split at e <;> try cases e
  · cases i1 with
    | lst h1 s1 =>
      cases i2
      obtain ⟨v, h2, h3⟩ := atI_iss s1 e
      exact .inl ⟨_, _, _, _, rfl, rfl, SqL.of (sh.same _ _ h1), h2, fin _ S H (Kp.refl sh) h3⟩
  · cases i1 with
    | tup h1 s1 =>
      cases i2
      obtain ⟨v, h2, h3⟩ := atI_iss s1 e
      exact .inr ⟨_, _, _, _, rfl, rfl, Same.seqT sh.same h1, h2, fin _ S H (Kp.refl sh) h3⟩
  · cases i1 with
    | scr h1 l1 =>
      cases i2
      obtain ⟨j, h2, rfl⟩ := Option.map_eq_some_iff.mp e
      exact .inl ⟨_, _, _, _, rfl, rfl, sh.same.seq h1, atI_map h2, fin _ S H (Kp.refl sh) (.int j)⟩
theorem ee_ix (hs : PlainIx b := by exact fun _ _ => rfl) (hK : X.K = T.K := by rfl) (ha : EE X T W a fa) (hb : EE X T W b fb) : EE X T W (.Subscript a b pos) (v2 ixD fa fb) :=
  PE.weak (pe_ix (ix_list.or ix_tup) ha hb hs) (w2 (o_ix hK))

/-! ### slices -/
def cutD (xs : List D) (lo hi : Option Int) : List D := (xs.drop (HT.sIx xs.length 0 lo)).take (HT.sIx xs.length xs.length hi - HT.sIx xs.length 0 lo)
theorem Iss.cut {H : Hp} {vs : List V} {ds : List D} (h : Iss T H vs ds) (lo hi : Option Int) : Iss T H (cutV vs lo hi) (cutD ds lo hi) := by
  unfold cutV cutD
  rw [h.length]
  exact (h.drop _).take _
def sliceD : D → Option Int → Option Int → Option D
  | .lst xs, lo, hi => some (.lst (cutD xs lo hi))
  | .tup xs, lo, hi => some (.tup (cutD xs lo hi))
  | _, _, _ => none
/-- a slice's part -/
def FO := Env → Option (Option R)
def oNone : FO := fun _ => some none
def oSome (f : FE) : FO := fun ρ => (f ρ).map some
def RO (o : Option (Option R)) (k : Option Int → Option R) : Option R := match o with
  | some none => k none
  | some (some (.ok (.int i))) => k (some i)
  | some (some (.ex x)) => some (.ex x)
  | _ => none
@[simp] theorem RO_none (k : Option Int → Option R) : RO (some none) k = k none := rfl
@[simp] theorem RO_int (i : Int) (k : Option Int → Option R) : RO (some (some (.ok (.int i)))) k = k (some i) := rfl
def vSlice (f : FE) (l u : FO) : FE := fun ρ => R1 (f ρ) fun d => RO (l ρ) fun lo => RO (u ρ) fun hi => okO (sliceD d lo hi)
def tO (T : Tab) (W : WX) (f : FO) : TO := fun σ H Q => ∃ ρ S r, L2.Same S H ∧ EV.Sub S H ∧ RepE T S ρ σ ∧ f ρ = some r ∧ (match r with
  | none => Q none H
  | some r => REnd T W S H σ (fun v H' => ∃ i, v = .int i ∧ Q (some i) H') r)
def EO (X : Cx) (T : Tab) (W : WX) (e : Option Expr) (f : FO) : Prop := PO X e (tO T W f)
theorem eo_none : EO X T W none oNone := ⟨fun pins s σ H Q I h => by
  obtain ⟨ρ, S, r, _, sh, rep, e, q⟩ := h
  cases e
  exact po_none.run pins s σ H Q I q⟩
theorem eo_some (h : EE X T W a fa) : EO X T W (some a) (oSome fa) := ⟨fun pins s σ H Q I hw => by
  obtain ⟨ρ, S, r, _, sh, rep, e, q⟩ := hw
  refine (po_some h).run pins s σ H Q I ?_
  obtain ⟨r', e1, rfl⟩ := Option.map_eq_some_iff.mp e
  exact ⟨ρ, S, r', sh, rep, e1, q⟩⟩
theorem tO_go {S H : Hp} {σ : L2.St} {ρ : Env} {Q : VK} {P : Option Int → Hp → Prop} {f : FO} {k : Option Int → Option R} {r : R} (sh : EV.Sub S H) (rep : RepE T S ρ σ) (h : RO (f ρ) k = some r) (fin : REnd T W S H σ Q r)
    (go : ∀ o S' H', Kp S H S' H' → RepE T S' ρ σ → k o = some r → REnd T W S' H' σ Q r → P o H') : tO T W f σ H P := by
  cases e : f ρ with
  | none => rw [e] at h; cases h
  | some q =>
    rw [e] at h
    refine ⟨ρ, S, q, sh.same, sh, rep, e, ?_⟩
    cases q with
    | none => exact go none S H (Kp.refl sh) rep h fin
    | some q =>
      cases q with
      | ok d =>
        intro v S' H' kp i
        cases i with
        | int i => exact ⟨i, rfl, go (some i) S' H' kp (rep.mono kp.s) h (fin.mono kp)⟩
        | _ => cases h
      | ex x =>
        cases h
        exact fin
theorem ee_slice {lo hi : Option Expr} {fl fu : FO} {p2 : Pos} (hK : X.K = T.K := by rfl) (ha : EE X T W a fa) (hl : EO X T W lo fl) (hu : EO X T W hi fu) : EE X T W (.Subscript a (.Slice lo hi none p2) pos) (vSlice fa fl fu) := by
  refine PE.weak (pe_slice (sl_list.or sl_tupA) ha hl hu) fun σ H Q q => ?_
  obtain ⟨ρ, S, z, sh, rep, e, fin⟩ := q
  refine tF_go sh rep e fin fun p x S1 H1 k1 i1 rep1 e1 fin1 => ?_
  refine tO_go k1.sub rep1 e1 fin1 fun l S2 H2 k2 rep2 e2 fin2 => ?_
  refine tO_go k2.sub rep2 e2 fin2 fun u S3 H3 k3 rep3 e3 fin3 => ?_
  obtain ⟨d, e4, rfl⟩ := okO_inv e3
  have i3 := (i1.mono k2.s).mono k3.s
  rw [hK]
  unfold sliceD at e4
  split at e4 <;> cases e4
  all_goals rename_i ys
  · cases i3 with
    | @lst a vs _ h s =>
      refine .inl ⟨_, _, rfl, SqL.of (k3.sub.same _ _ h), fun p hp => ?_⟩
      have k := Kp.new (o := .lst (cutV vs l u)) k3.sub hp
      exact fin3 _ _ _ k (.lst upd_same ((s.cut l u).mono k.s))
  · cases i3 with
    | @tup a vs _ h s =>
      refine .inr ⟨_, _, rfl, Same.seqT k3.sub.same h, fun hw => ?_, fun _ p hp => ?_⟩
      · have c : cutD ys l u = ys := by
          unfold cutD
          rw [← s.length, hw.1, hw.2, List.drop_zero, s.length, Nat.sub_zero]
          exact List.take_length
        rw [c] at fin3
        exact fin3 _ _ _ (Kp.refl k3.sub) (.tup h s)
      · have k := Kp.new (o := .tup (cutV vs l u)) k3.sub hp
        exact fin3 _ _ _ k (.tup (SqT.of upd_same) ((s.cut l u).mono k.s))
end
end EV
end

section
set_option maxHeartbeats 4000000
/-! EV3: tests, displays, comprehensions, statements, loops. -/
namespace EV
open PySem L2

section
variable {T : Tab} {X : Cx} {W : WX} {a b c e : Expr} {f fa fb fc : FE} {pos : Pos} {es rest : List Expr}

/-! ### tests -/
def tFT (T : Tab) (W : WX) (f : FE) : TT := fun σ H Q => tF T W f σ H fun v H' => ∃ b, v = .bl b ∧ Q b H'
def EB (X : Cx) (T : Tab) (W : WX) (e : Expr) (f : FE) : Prop := PT X e (tFT T W f)
def EW (X : Cx) (T : Tab) (W : WX) (e : Expr) (f : FE) : Prop := PW X e (tFT T W f)
theorem PT.weak {e : Expr} {t u : TT} (h : PT X e t) (w : ∀ σ H Q, u σ H Q → t σ H Q) : PT X e u := ⟨fun pins s σ H Q I q => h.run pins s σ H Q I (w σ H Q q)⟩
theorem PW.weak {e : Expr} {t u : TT} (h : PW X e t) (w : ∀ σ H Q, u σ H Q → t σ H Q) : PW X e u := ⟨fun wh pins s σ H Q I q => h.run wh pins s σ H Q I (w σ H Q q)⟩
theorem eb_val (h : EE X T W e f) (he : ∀ whole, isTrue e X.env whole = (do let v ← whole; standAt e.pos; holding [v] (truthy v)) := by intro _; rfl) : EB X T W e f := pt_val h he
theorem eb_cmp {op : CmpOp} {r : R2} {o : D → D → Option D} (ho : OpR X (compareOp op) r) (h : Op2 T r o) (ha : EE X T W a fa) (hb : EE X T W b fb) (hm : behindInMarks op b = false) : EB X T W (.Compare a [op] [b] pos) (v2 o fa fb) :=
  PT.weak (pt_cmpR ho ha hb hm) fun σ H Q q => w2 h σ H _ q
theorem eb_lt (ha : EE X T W a fa) (hb : EE X T W b fb) : EB X T W (.Compare a [.Lt] [b] pos) (v2 ltD fa fb) := eb_cmp op_lt o_cmp ha hb (nomark _)
theorem eb_le (ha : EE X T W a fa) (hb : EE X T W b fb) : EB X T W (.Compare a [.LtE] [b] pos) (v2 leD fa fb) := eb_cmp op_le o_cmp ha hb (nomark _)
theorem eb_gt (ha : EE X T W a fa) (hb : EE X T W b fb) : EB X T W (.Compare a [.Gt] [b] pos) (v2 gtD fa fb) := eb_cmp op_gt o_cmp ha hb (nomark _)
theorem eb_ge (ha : EE X T W a fa) (hb : EE X T W b fb) : EB X T W (.Compare a [.GtE] [b] pos) (v2 geD fa fb) := eb_cmp op_ge o_cmp ha hb (nomark _)
theorem eb_eq {n : Nat} (hr : Room n X.A) (hK : X.K = T.K := by rfl) (ha : EE X T W a fa) (hb : EE X T W b fb) : EB X T W (.Compare a [.Eq] [b] pos) (v2 eqD fa fb) := eb_cmp (op_eqD hr.units) (o_eq hK) ha hb (nomark _)
theorem eb_ne {n : Nat} (hr : Room n X.A) (hK : X.K = T.K := by rfl) (ha : EE X T W a fa) (hb : EE X T W b fb) : EB X T W (.Compare a [.NotEq] [b] pos) (v2 neD fa fb) := eb_cmp (op_neD hr.units) (o_ne hK) ha hb (nomark _)
theorem eb_in {n : Nat} (hr : Room n X.A) (hm : behindInMarks .In b = false) (hK : X.K = T.K := by rfl) (ha : EE X T W a fa) (hb : EE X T W b fb) : EB X T W (.Compare a [.In] [b] pos) (v2 inD fa fb) := eb_cmp (op_among (room64 hr)) (o_in hK) ha hb hm
theorem eb_nin {n : Nat} (hr : Room n X.A) (hm : behindInMarks .NotIn b = false) (hK : X.K = T.K := by rfl) (ha : EE X T W a fa) (hb : EE X T W b fb) : EB X T W (.Compare a [.NotIn] [b] pos) (v2 ninD fa fb) := eb_cmp (op_namong (room64 hr)) (o_nin hK) ha hb hm
theorem o_isN : Op2 T (fun x y H Q => y = .non ∧ Q (.bl (decide (x = .non))) H) isNonD := by
  intro S H x y p q d Q sh i1 i2 e fin
  unfold isNonD at e
  split at e <;> cases e
  cases i2
  refine ⟨rfl, ?_⟩
  rw [is_non i1]
  exact fin _ S H (Kp.refl sh) (.bl _)
theorem o_notN : Op2 T (fun x y H Q => y = .non ∧ Q (.bl (!decide (x = .non))) H) notNonD := by
  intro S H x y p q d Q sh i1 i2 e fin
  unfold notNonD at e
  split at e <;> cases e
  cases i2
  refine ⟨rfl, ?_⟩
  rw [is_non i1]
  exact fin _ S H (Kp.refl sh) (.bl _)
theorem eb_isN (ha : EE X T W a fa) (hb : EE X T W b fb) : EB X T W (.Compare a [.Is] [b] pos) (v2 isNonD fa fb) := eb_cmp op_isN o_isN ha hb (nomark _)
theorem eb_notN (ha : EE X T W a fa) (hb : EE X T W b fb) : EB X T W (.Compare a [.IsNot] [b] pos) (v2 notNonD fa fb) := eb_cmp op_notN o_notN ha hb (nomark _)
def notD : D → Option D
  | .bl b => some (.bl (!b))
  | _ => none
def vAnd (fa fb : FE) : FE := fun ρ => R1 (fa ρ) fun
  | .bl true => fb ρ
  | .bl false => some (.ok (.bl false))
  | _ => none
def vOr (fa fb : FE) : FE := fun ρ => R1 (fa ρ) fun
  | .bl true => some (.ok (.bl true))
  | .bl false => fb ρ
  | _ => none
theorem eb_not (ha : EB X T W a fa) : EB X T W (.UnaryOp .Not a pos) (v1 notD fa) := by
  refine PT.weak (pt_not ha) fun σ H Q q => ?_
  obtain ⟨ρ, S, z, sh, rep, e, fin⟩ := q
  refine tF_go sh rep e fin fun p x S1 H1 k1 i1 rep1 e1 fin1 => ?_
  obtain ⟨d, e3, rfl⟩ := okO_inv e1
  unfold notD at e3
  split at e3 <;> cases e3
  cases i1
  obtain ⟨b, e4, q⟩ := fin1 _ S1 H1 (Kp.refl k1.sub) (.bl _)
  cases e4
  exact ⟨_, rfl, q⟩
theorem ew_and1 (ha : EB X T W a fa) : EW X T W (.BoolOp .And [a] pos) fa := pw_and1 ha
theorem ew_or1 (ha : EB X T W a fa) : EW X T W (.BoolOp .Or [a] pos) fa := pw_or1 ha
theorem ew_and (ha : EB X T W a fa) (hb : EW X T W (.BoolOp .And (b :: rest) pos) fb) : EW X T W (.BoolOp .And (a :: b :: rest) pos) (vAnd fa fb) := by
  refine PW.weak (pw_and ha hb) fun σ H Q q => ?_
  obtain ⟨ρ, S, z, sh, rep, e, fin⟩ := q
  refine tF_go sh rep e fin fun p x S1 H1 k1 i1 rep1 e1 fin1 => ?_
  split at e1
  · cases i1
    refine ⟨true, rfl, ?_⟩
    show tFT T W fb σ H1 Q
    exact ⟨ρ, S1, z, k1.sub, rep1, e1, fin1⟩
  · cases i1
    cases e1
    refine ⟨false, rfl, ?_⟩
    obtain ⟨b, e4, q⟩ := fin1 _ S1 H1 (Kp.refl k1.sub) (.bl _)
    cases e4
    exact q
  · cases e1
theorem ew_or (ha : EB X T W a fa) (hb : EW X T W (.BoolOp .Or (b :: rest) pos) fb) : EW X T W (.BoolOp .Or (a :: b :: rest) pos) (vOr fa fb) := by
  refine PW.weak (pw_or ha hb) fun σ H Q q => ?_
  obtain ⟨ρ, S, z, sh, rep, e, fin⟩ := q
  refine tF_go sh rep e fin fun p x S1 H1 k1 i1 rep1 e1 fin1 => ?_
  split at e1
  · cases i1
    cases e1
    refine ⟨true, rfl, ?_⟩
    obtain ⟨b, e4, q⟩ := fin1 _ S1 H1 (Kp.refl k1.sub) (.bl _)
    cases e4
    exact q
  · cases i1
    refine ⟨false, rfl, ?_⟩
    show tFT T W fb σ H1 Q
    exact ⟨ρ, S1, z, k1.sub, rep1, e1, fin1⟩
  · cases e1
theorem eb_w (h : EW X T W e f) : EB X T W e f := L2.PW.pt h
/-- as values -/
theorem ee_one {op} (ha : EE X T W a fa) : EE X T W (.BoolOp op [a] pos) fa := pe_one ha
theorem ee_and (ha : EE X T W a fa) (hb : EE X T W (.BoolOp .And (b :: rest) pos) fb) : EE X T W (.BoolOp .And (a :: b :: rest) pos) (vAnd fa fb) := by
  refine PE.weak (pe_and ha hb) fun σ H Q q => ?_
  obtain ⟨ρ, S, z, sh, rep, e, fin⟩ := q
  refine tF_go sh rep e fin fun p x S1 H1 k1 i1 rep1 e1 fin1 => ?_
  split at e1
  · cases i1
    refine ⟨true, rfl, ?_⟩
    show tF T W fb σ H1 Q
    exact ⟨ρ, S1, z, k1.sub, rep1, e1, fin1⟩
  · cases i1
    cases e1
    exact ⟨false, rfl, fin1 _ S1 H1 (Kp.refl k1.sub) (.bl _)⟩
  · cases e1
theorem ee_or (ha : EE X T W a fa) (hb : EE X T W (.BoolOp .Or (b :: rest) pos) fb) : EE X T W (.BoolOp .Or (a :: b :: rest) pos) (vOr fa fb) := by
  refine PE.weak (pe_or ha hb) fun σ H Q q => ?_
  obtain ⟨ρ, S, z, sh, rep, e, fin⟩ := q
  refine tF_go sh rep e fin fun p x S1 H1 k1 i1 rep1 e1 fin1 => ?_
  split at e1
  · cases i1
    cases e1
    exact ⟨true, rfl, fin1 _ S1 H1 (Kp.refl k1.sub) (.bl _)⟩
  · cases i1
    refine ⟨false, rfl, ?_⟩
    show tF T W fb σ H1 Q
    exact ⟨ρ, S1, z, k1.sub, rep1, e1, fin1⟩
  · cases e1
theorem ee_not (ha : EE X T W a fa) : EE X T W (.UnaryOp .Not a pos) (v1 notD fa) := by
  refine PE.weak (pe_not ha) fun σ H Q q => ?_
  obtain ⟨ρ, S, z, sh, rep, e, fin⟩ := q
  refine tF_go sh rep e fin fun p x S1 H1 k1 i1 rep1 e1 fin1 => ?_
  obtain ⟨d, e3, rfl⟩ := okO_inv e1
  unfold notD at e3
  split at e3 <;> cases e3
  cases i1
  exact ⟨_, rfl, fin1 _ S1 H1 (Kp.refl k1.sub) (.bl _)⟩
def vIf (fc fa fb : FE) : FE := fun ρ => R1 (fc ρ) fun
  | .bl true => fa ρ
  | .bl false => fb ρ
  | _ => none
theorem ee_if (hc : EB X T W c fc) (ha : EE X T W a fa) (hb : EE X T W b fb) : EE X T W (.IfExp c a b pos) (vIf fc fa fb) := by
  refine PE.weak (pe_ifExp hc ha hb) fun σ H Q q => ?_
  obtain ⟨ρ, S, z, sh, rep, e, fin⟩ := q
  refine tF_go sh rep e fin fun p x S1 H1 k1 i1 rep1 e1 fin1 => ?_
  split at e1
  · cases i1
    refine ⟨true, rfl, ?_⟩
    show tF T W fa σ H1 Q
    exact ⟨ρ, S1, z, k1.sub, rep1, e1, fin1⟩
  · cases i1
    refine ⟨false, rfl, ?_⟩
    show tF T W fb σ H1 Q
    exact ⟨ρ, S1, z, k1.sub, rep1, e1, fin1⟩
  · cases e1

/-! ### arguments, displays, new lists -/
inductive RL where
  | ok (ds : List D)
  | ex (x : Xn)
abbrev FL := Env → Option RL
def RLEnd (T : Tab) (W : WX) (S H : Hp) (σ : L2.St) (Q : List V → Hp → Prop) : RL → Prop
  | .ok ds => ∀ vs S' H', Kp S H S' H' → Iss T S' vs ds → Q vs H'
  | .ex x => ∀ S' H' cls d, Kp S H S' H' → XIs T S' x cls d → W cls d σ H'
theorem RLEnd.mono {S H S' H' : Hp} {σ : L2.St} {Q : List V → Hp → Prop} {r : RL} (k : Kp S H S' H') (h : RLEnd T W S H σ Q r) : RLEnd T W S' H' σ Q r := by
  cases r with
  | ok d => exact fun v S2 H2 k2 i => h v S2 H2 (k.trans k2) i
  | ex x => exact fun S2 H2 cls d k2 i => h S2 H2 cls d (k.trans k2) i
def tA (T : Tab) (W : WX) (f : FL) : TA := fun σ H Q => ∃ ρ S r, EV.Sub S H ∧ RepE T S ρ σ ∧ f ρ = some r ∧ RLEnd T W S H σ Q r
def EA (X : Cx) (T : Tab) (W : WX) (es : List Expr) (f : FL) : Prop := PA X es (tA T W f)
def aNil : FL := fun _ => some (.ok [])
def R1L (o : Option R) (k : D → Option RL) : Option RL := match o with
  | some (.ok d) => k d
  | some (.ex x) => some (.ex x)
  | none => none
def RL1 (o : Option RL) (k : List D → Option R) : Option R := match o with
  | some (.ok d) => k d
  | some (.ex x) => some (.ex x)
  | none => none
def RLL (o : Option RL) (k : List D → Option RL) : Option RL := match o with
  | some (.ok d) => k d
  | some (.ex x) => some (.ex x)
  | none => none
@[simp] theorem R1L_ok (d : D) (k : D → Option RL) : R1L (some (.ok d)) k = k d := rfl
@[simp] theorem R1L_ex (x : Xn) (k : D → Option RL) : R1L (some (.ex x)) k = some (.ex x) := rfl
@[simp] theorem RL1_ok (d : List D) (k : List D → Option R) : RL1 (some (.ok d)) k = k d := rfl
@[simp] theorem RL1_ex (x : Xn) (k : List D → Option R) : RL1 (some (.ex x)) k = some (.ex x) := rfl
@[simp] theorem RLL_ok (d : List D) (k : List D → Option RL) : RLL (some (.ok d)) k = k d := rfl
@[simp] theorem RLL_ex (x : Xn) (k : List D → Option RL) : RLL (some (.ex x)) k = some (.ex x) := rfl
def aCons (fa : FE) (fr : FL) : FL := fun ρ => R1L (fa ρ) fun d => RLL (fr ρ) fun ds => some (.ok (d :: ds))
theorem tF_goL {S H : Hp} {σ : L2.St} {ρ : Env} {Q : List V → Hp → Prop} {P : VK} {f : FE} {k : D → Option RL} {r : RL} (sh : EV.Sub S H) (rep : RepE T S ρ σ) (h : R1L (f ρ) k = some r) (fin : RLEnd T W S H σ Q r)
    (go : ∀ d v S' H', Kp S H S' H' → Is T S' v d → RepE T S' ρ σ → k d = some r → RLEnd T W S' H' σ Q r → P v H') : tF T W f σ H P := by
  cases e : f ρ with
  | none => rw [e] at h; cases h
  | some q =>
    rw [e] at h
    refine ⟨ρ, S, q, sh, rep, e, ?_⟩
    cases q with
    | ok d => exact fun v S' H' kp i => go d v S' H' kp i (rep.mono kp.s) h (fin.mono kp)
    | ex x =>
      cases h
      exact fin
theorem tA_goL {S H : Hp} {σ : L2.St} {ρ : Env} {Q P : List V → Hp → Prop} {f : FL} {k : List D → Option RL} {r : RL} (sh : EV.Sub S H) (rep : RepE T S ρ σ) (h : RLL (f ρ) k = some r) (fin : RLEnd T W S H σ Q r)
    (go : ∀ ds vs S' H', Kp S H S' H' → Iss T S' vs ds → RepE T S' ρ σ → k ds = some r → RLEnd T W S' H' σ Q r → P vs H') : tA T W f σ H P := by
  cases e : f ρ with
  | none => rw [e] at h; cases h
  | some q =>
    rw [e] at h
    refine ⟨ρ, S, q, sh, rep, e, ?_⟩
    cases q with
    | ok d => exact fun v S' H' kp i => go d v S' H' kp i (rep.mono kp.s) h (fin.mono kp)
    | ex x =>
      cases h
      exact fin
theorem tA_go {S H : Hp} {σ : L2.St} {ρ : Env} {Q : VK} {P : List V → Hp → Prop} {f : FL} {k : List D → Option R} {r : R} (sh : EV.Sub S H) (rep : RepE T S ρ σ) (h : RL1 (f ρ) k = some r) (fin : REnd T W S H σ Q r)
    (go : ∀ ds vs S' H', Kp S H S' H' → Iss T S' vs ds → RepE T S' ρ σ → k ds = some r → REnd T W S' H' σ Q r → P vs H') : tA T W f σ H P := by
  cases e : f ρ with
  | none => rw [e] at h; cases h
  | some q =>
    rw [e] at h
    refine ⟨ρ, S, q, sh, rep, e, ?_⟩
    cases q with
    | ok d => exact fun v S' H' kp i => go d v S' H' kp i (rep.mono kp.s) h (fin.mono kp)
    | ex x =>
      cases h
      exact fin
theorem PA.weak {es : List Expr} {t u : TA} (h : PA X es t) (w : ∀ σ H Q, u σ H Q → t σ H Q) : PA X es u := ⟨fun po pins s σ H Q I q => h.run po pins s σ H Q I (w σ H Q q)⟩
theorem ea_nil : EA X T W [] aNil := PA.weak pa_nil fun σ H Q q => by
  obtain ⟨ρ, S, r, sh, rep, e, fin⟩ := q
  cases e
  exact fin [] S H (Kp.refl sh) .nil
theorem ea_cons {fr : FL} (ha : EE X T W a fa) (hr : EA X T W es fr) (hs : starEach (a :: es) X.env = (false, eval a X.env) :: starEach es X.env := by rfl) : EA X T W (a :: es) (aCons fa fr) := by
  refine PA.weak (pa_cons ha hr hs) fun σ H Q q => ?_
  obtain ⟨ρ, S, r, sh, rep, e, fin⟩ := q
  refine tF_goL sh rep e fin fun d v S1 H1 k1 i1 rep1 e1 fin1 => ?_
  refine tA_goL k1.sub rep1 e1 fin1 fun ds vs S2 H2 k2 i2 rep2 e2 fin2 => ?_
  cases e2
  exact fin2 _ S2 H2 (Kp.refl k2.sub) (.cons (i1.mono k2.s) i2)
def tupD (ds : List D) : Option D := if ds.length ≤ 100000 then some (.tup ds) else none
def vTup (f : FL) : FE := fun ρ => RL1 (f ρ) fun ds => okO (tupD ds)
theorem ee_tup {x1} {f : FL} (h : EA X T W es f) : EE X T W (.Tuple es x1 pos) (vTup f) := by
  refine PE.weak (pe_tup h) fun σ H Q q => ?_
  obtain ⟨ρ, S, r, sh, rep, e, fin⟩ := q
  refine tA_go sh rep e fin fun ds vs S1 H1 k1 i1 rep1 e1 fin1 => ?_
  obtain ⟨d, e2, rfl⟩ := okO_inv e1
  unfold tupD at e2
  split at e2 <;> cases e2
  rename_i hl
  refine ⟨by rw [i1.length]; exact line_of hl, fun p hp => ?_⟩
  have k := Kp.new (o := .tup vs) k1.sub hp
  exact fin1 _ _ _ k (.tup (SqT.of upd_same) (i1.mono k.s))

/-- a new list, in nobody's hands -/
def RNEnd (T : Tab) (W : WX) (S H : Hp) (σ : L2.St) (Q : VK) : RL → Prop
  | .ok ds => ∀ a vs S' H', Kp S H S' H' → H a = none → S' a = none → H' a = some (.lst vs) → Iss T S' vs ds → Q (.ref a) H'
  | .ex x => ∀ S' H' cls d, Kp S H S' H' → XIs T S' x cls d → W cls d σ H'
theorem RNEnd.mono {S H S' H' : Hp} {σ : L2.St} {Q : VK} {r : RL} (k : Kp S H S' H') (h : RNEnd T W S H σ Q r) : RNEnd T W S' H' σ Q r := by
  cases r with
  | ok d => exact fun a vs S2 H2 k2 h1 h2 h3 i => h a vs S2 H2 (k.trans k2) (k.h.free h1) h2 h3 i
  | ex x => exact fun S2 H2 cls d k2 i => h S2 H2 cls d (k.trans k2) i
def tN (T : Tab) (W : WX) (f : FL) : TE := fun σ H Q => ∃ ρ S r, EV.Sub S H ∧ RepE T S ρ σ ∧ f ρ = some r ∧ RNEnd T W S H σ Q r
def EN (X : Cx) (T : Tab) (W : WX) (e : Expr) (f : FL) : Prop := PE X e (tN T W f)
def vL (f : FL) : FE := fun ρ => RL1 (f ρ) fun ds => some (.ok (.lst ds))
/-- what is hidden is laid open -/
theorem Kp.open {S H S' H' : Hp} {a : Addr} {o : HO} (k : Kp S H S' H') (hn : H a = none) (h' : H' a = some o) (hs : S' a = none) : Kp S H (upd S' a o) H' := by
  refine ⟨fun b u e => ?_, k.h, ⟨fun b u e => ?_, fun b u e f => ?_⟩, fun b h1 h2 => ?_⟩
  · have : b ≠ a := fun z => by
      have := k.s b u e
      rw [z, hs] at this; cases this
    rw [upd_ne this]; exact k.s b u e
  · by_cases h : b = a
    · subst h; rw [upd_same] at e; rw [← e]; exact h'
    · rw [upd_ne h] at e; exact k.sub.same b u e
  · by_cases h : b = a
    · subst h; rw [upd_same]; rw [h'] at e; exact e
    · rw [upd_ne h]; exact k.sub.fix b u e f
  · have : b ≠ a := fun z => h1 (z ▸ hn)
    rw [upd_ne this]; exact k.hid b h1 h2
theorem Same.opened {S' : Hp} {a : Addr} {o : HO} (hs : S' a = none) : Same S' (upd S' a o) := fun b u e => by
  have : b ≠ a := fun z => by rw [z, hs] at e; cases e
  rw [upd_ne this]; exact e
theorem en_ee {f : FL} (h : EN X T W e f) : EE X T W e (vL f) := by
  refine PE.weak h fun σ H Q q => ?_
  obtain ⟨ρ, S, r, sh, rep, e, fin⟩ := q
  unfold vL at e
  cases e1 : f ρ with
  | none => rw [e1] at e; cases e
  | some z =>
    rw [e1] at e
    refine ⟨ρ, S, z, sh, rep, e1, ?_⟩
    cases z with
    | ok ds =>
      cases e
      intro a vs S' H' k hn hs h' i
      exact fin _ _ _ (k.open hn h' hs) (.lst upd_same (i.mono (Same.opened hs)))
    | ex x =>
      cases e
      exact fin
theorem tA_goN {S H : Hp} {σ : L2.St} {ρ : Env} {Q : VK} {P : List V → Hp → Prop} {f : FL} {k : List D → Option RL} {r : RL} (sh : EV.Sub S H) (rep : RepE T S ρ σ) (h : RLL (f ρ) k = some r) (fin : RNEnd T W S H σ Q r)
    (go : ∀ ds vs S' H', Kp S H S' H' → Iss T S' vs ds → RepE T S' ρ σ → k ds = some r → RNEnd T W S' H' σ Q r → P vs H') : tA T W f σ H P := by
  cases e : f ρ with
  | none => rw [e] at h; cases h
  | some q =>
    rw [e] at h
    refine ⟨ρ, S, q, sh, rep, e, ?_⟩
    cases q with
    | ok d => exact fun v S' H' kp i => go d v S' H' kp i (rep.mono kp.s) h (fin.mono kp)
    | ex x =>
      cases h
      exact fin
theorem tF_goN {S H : Hp} {σ : L2.St} {ρ : Env} {Q P : VK} {f : FE} {k : D → Option RL} {r : RL} (sh : EV.Sub S H) (rep : RepE T S ρ σ) (h : R1L (f ρ) k = some r) (fin : RNEnd T W S H σ Q r)
    (go : ∀ d v S' H', Kp S H S' H' → Is T S' v d → RepE T S' ρ σ → k d = some r → RNEnd T W S' H' σ Q r → P v H') : tF T W f σ H P := by
  cases e : f ρ with
  | none => rw [e] at h; cases h
  | some q =>
    rw [e] at h
    refine ⟨ρ, S, q, sh, rep, e, ?_⟩
    cases q with
    | ok d => exact fun v S' H' kp i => go d v S' H' kp i (rep.mono kp.s) h (fin.mono kp)
    | ex x =>
      cases h
      exact fin
def lenOk (f : FL) : FL := fun ρ => RLL (f ρ) fun ds => if ds.length ≤ 100000 then some (.ok ds) else none
theorem en_lst {f : FL} (h : EA X T W es f) : EN X T W (.List es pos) (lenOk f) := by
  refine PE.weak (pe_lst h) fun σ H Q q => ?_
  obtain ⟨ρ, S, r, sh, rep, e, fin⟩ := q
  refine tA_goN sh rep e fin fun ds vs S1 H1 k1 i1 rep1 e1 fin1 => ?_
  split at e1 <;> cases e1
  rename_i hl
  refine ⟨by rw [i1.length]; exact line_of hl, fun p hp => ?_⟩
  exact fin1 p vs S1 _ (Kp.hide k1.sub hp rfl) hp (k1.sub.same.free hp) upd_same i1
/-- operators that make a list -/
def nAdd (fa fb : FE) : FL := fun ρ => R1L (fa ρ) fun p => R1L (fb ρ) fun q => match p, q with
  | .lst xs, .lst ys => if xs.length + ys.length ≤ 100000 then some (.ok (xs ++ ys)) else none
  | _, _ => none
def nRep (fa fb : FE) : FL := fun ρ => R1L (fa ρ) fun p => R1L (fb ρ) fun q => match p, q with
  | .lst xs, .int k => if -(2 ^ 63) ≤ k ∧ k < 2 ^ 63 ∧ xs.length * k.toNat ≤ 100000 then some (.ok (List.replicate k.toNat xs).flatten) else none
  | _, _ => none
theorem en_add (ha : EE X T W a fa) (hb : EE X T W b fb) : EN X T W (.BinOp a .Add b pos) (nAdd fa fb) := by
  refine PE.weak (pe_op op_cat ha hb) fun σ H Q q => ?_
  obtain ⟨ρ, S, r, sh, rep, e, fin⟩ := q
  refine tF_goN sh rep e fin fun p x S1 H1 k1 i1 rep1 e1 fin1 => ?_
  refine tF_goN k1.sub rep1 e1 fin1 fun p2 y S2 H2 k2 i2 rep2 e2 fin2 => ?_
  split at e2 <;> try cases e2
  split at e2 <;> cases e2
  rename_i hl
  have i1' := i1.mono k2.s
  cases i1' with
  | @lst a1 vs1 _ h1 s1 => cases i2 with
    | @lst a2 vs2 _ h2 s2 =>
      refine ⟨_, _, _, _, rfl, rfl, k2.sub.same _ _ h1, k2.sub.same _ _ h2, ?_, fun np hp => ?_⟩
      · rw [s1.length, s2.length]; exact line_of hl
      · exact fin2 np _ S2 _ (Kp.hide k2.sub hp rfl) hp (k2.sub.same.free hp) upd_same (s1.append s2)
theorem en_rep (ha : EE X T W a fa) (hb : EE X T W b fb) : EN X T W (.BinOp a .Mult b pos) (nRep fa fb) := by
  refine PE.weak (pe_op op_rep ha hb) fun σ H Q q => ?_
  obtain ⟨ρ, S, r, sh, rep, e, fin⟩ := q
  refine tF_goN sh rep e fin fun p x S1 H1 k1 i1 rep1 e1 fin1 => ?_
  refine tF_goN k1.sub rep1 e1 fin1 fun p2 y S2 H2 k2 i2 rep2 e2 fin2 => ?_
  split at e2 <;> try cases e2
  split at e2 <;> cases e2
  rename_i hl
  have i1' := i1.mono k2.s
  cases i1' with
  | @lst a1 vs1 _ h1 s1 =>
    cases i2
    refine ⟨_, _, _, rfl, rfl, k2.sub.same _ _ h1, hl.1, hl.2.1, ?_, fun np hp => ?_⟩
    · rw [s1.length]; exact line_of hl.2.2
    · exact fin2 np _ S2 _ (Kp.hide k2.sub hp rfl) hp (k2.sub.same.free hp) upd_same (s1.rep _)
end
end EV
end

section
set_option maxHeartbeats 4000000
/-! EV4: the frame with lists of its own; statements. -/
namespace EV
open PySem L2

/-! ### the frame -/
structure Rep (T : Tab) (ρ : Env) (σ : L2.St) (S H : Hp) (L : Nat → Option Addr) : Prop where
  sub : EV.Sub S H
  len : σ.length = ρ.length
  v : ∀ (i : Nat) (d : D), ρ[i]? = some (.v d) → ∃ v, σ[i]? = some (some v) ∧ Is T S v d
  own : ∀ (i : Nat) (ds : List D), ρ[i]? = some (.own ds) → ∃ a vs, L i = some a ∧ σ[i]? = some (some (.ref a)) ∧ H a = some (.lst vs) ∧ S a = none ∧ Iss T S vs ds
  ins : ∀ (i c : Nat) (ds : List D), ρ[i]? = some (.ins c ds) → ∃ a dx vs, L i = some a ∧ σ[i]? = some (some (.ref a)) ∧ H a = some (.ins (T.cls c) dx ((T.flds c).zip vs)) ∧ S a = none ∧ vs.length ≤ (T.flds c).length ∧ Iss T S vs ds
  inj : ∀ i j a, L i = some a → L j = some a → i = j
  dom : ∀ i a, L i = some a → (∃ ds, ρ[i]? = some (.own ds)) ∨ ∃ c ds, ρ[i]? = some (.ins c ds)
  x : ∀ (i : Nat) (x : Xn), ρ[i]? = some (.exn x) → XAt T S σ i x
structure Stp (S H : Hp) (L : Nat → Option Addr) (S' H' : Hp) (L' : Nat → Option Addr) : Prop where
  s : Same S S'
  fr : ∀ a o, H a = some o → (∀ i, L i ≠ some a) → H' a = some o
  hid : ∀ a, H a ≠ none → S a = none → (∀ i, L i ≠ some a) → S' a = none
  own : ∀ i a, L' i = some a → (∃ j, L j = some a) ∨ (H a = none ∧ ∃ xs, H' a = some (.lst xs))
  lk : ∀ a xs, H a = some (.lst xs) → ∃ ys, H' a = some (.lst ys)
  ik : ∀ a C dx fs, H a = some (.ins C dx fs) → ∃ fs', H' a = some (.ins C dx fs')
section
variable {T : Tab} {ρ : Env} {σ : L2.St} {S H S' H' S2 H2 : Hp} {L L' L2' : Nat → Option Addr}
theorem Stp.refl : Stp S H L S H L := ⟨Same.refl S, fun _ _ h _ => h, fun _ _ h _ => h, fun i a h => .inl ⟨i, h⟩, fun _ xs h => ⟨xs, h⟩, fun _ _ _ fs h => ⟨fs, h⟩⟩
theorem Stp.trans (a : Stp S H L S' H' L') (b : Stp S' H' L' S2 H2 L2') : Stp S H L S2 H2 L2' := by
  have nl : ∀ x o, H x = some o → (∀ i, L i ≠ some x) → ∀ i, L' i ≠ some x := fun x o h n i z => by
    rcases a.own i x z with ⟨j, q⟩ | ⟨q, _⟩
    · exact n j q
    · rw [h] at q; cases q
  refine ⟨a.s.trans b.s, fun x o h n => b.fr x o (a.fr x o h n) (nl x o h n), fun x h1 h2 n => ?_, fun i x z => ?_, fun x xs h => ?_, fun x C dx fs h => ?_⟩
  · cases q : H x with
    | none => exact absurd q h1
    | some o => exact b.hid x (by rw [a.fr x o q n]; intro z; cases z) (a.hid x h1 h2 n) (nl x o q n)
  · rcases b.own i x z with ⟨j, q⟩ | ⟨q, q2⟩
    · rcases a.own j x q with q | ⟨q, xs, q2⟩
      · exact .inl q
      · exact .inr ⟨q, b.lk x xs q2⟩
    · by_cases hj : ∃ j, L j = some x
      · exact .inl hj
      · refine .inr ⟨?_, q2⟩
        cases e : H x with
        | none => rfl
        | some o =>
          rw [a.fr x o e fun i z => hj ⟨i, z⟩] at q
          cases q
  · obtain ⟨ys, h1⟩ := a.lk x xs h
    exact b.lk x ys h1
  · obtain ⟨ys, h1⟩ := a.ik x C dx fs h
    exact b.ik x C dx ys h1
theorem Kp.stp (k : Kp S H S' H') : Stp S H L S' H' L := ⟨k.s, fun a o h _ => k.h a o h, fun a h1 h2 _ => k.hid a h1 h2, fun i a h => .inl ⟨i, h⟩, fun a xs h => ⟨xs, k.h a _ h⟩, fun a _ _ fs h => ⟨fs, k.h a _ h⟩⟩
theorem Rep.kp (r : Rep T ρ σ S H L) (k : Kp S H S' H') : Rep T ρ σ S' H' L := by
  refine ⟨k.sub, r.len, fun i d e => ?_, fun i ds e => ?_, fun i c ds e => ?_, r.inj, r.dom, fun i x q => (r.x i x q).mono k.s⟩
  · obtain ⟨v, h1, h2⟩ := r.v i d e
    exact ⟨v, h1, h2.mono k.s⟩
  · obtain ⟨a, vs, h1, h2, h3, h4, h5⟩ := r.own i ds e
    exact ⟨a, vs, h1, h2, k.h a _ h3, k.hid a (by rw [h3]; intro z; cases z) h4, h5.mono k.s⟩
  · obtain ⟨a, dx, vs, h1, h2, h3, h4, h5, h6⟩ := r.ins i c ds e
    exact ⟨a, dx, vs, h1, h2, k.h a _ h3, k.hid a (by rw [h3]; intro z; cases z) h4, h5, h6.mono k.s⟩
theorem Rep.repE (r : Rep T ρ σ S H L) : RepE T S ρ σ := ⟨r.len, r.v, r.x⟩
/-- a slot's list in no slot's hands -/
def off (L : Nat → Option Addr) (i : Nat) : Nat → Option Addr := fun j => if j = i then none else L j
theorem off_some {i j : Nat} {a : Addr} (h : off L i j = some a) : j ≠ i ∧ L j = some a := by
  unfold off at h
  split at h
  · cases h
  · exact ⟨by assumption, h⟩
theorem off_ne {i j : Nat} (h : j ≠ i) : off L i j = L j := if_neg h
theorem Stp.off {i : Nat} : Stp S H L S H (off L i) := ⟨Same.refl S, fun _ _ h _ => h, fun _ _ h _ => h, fun j a h => .inl ⟨j, (off_some h).2⟩, fun _ xs h => ⟨xs, h⟩, fun _ _ _ fs h => ⟨fs, h⟩⟩
/-- a slot is set to a value that stands -/
theorem Rep.setV {i : Nat} {v : V} {d : D} (r : Rep T ρ σ S H L) (h : Is T S v d) : Rep T (ρ.set i (.v d)) (σ.set i (some v)) S H (EV.off L i) := by
  refine ⟨r.sub, by simp [r.len], fun j e q => ?_, fun j ds q => ?_, fun j c ds q => ?_, fun j k a h1 h2 => ?_, fun j a q => ?_, fun j x q => by
      by_cases hj : i = j
      · subst hj
        by_cases hl : i < ρ.length
        · rw [List.getElem?_set_self hl] at q; cases q
        · rw [List.getElem?_eq_none (by simpa using hl)] at q; cases q
      · rw [List.getElem?_set_ne hj] at q
        exact (r.x j x q).set hj⟩
  · by_cases hj : i = j
    · subst hj
      by_cases hl : i < ρ.length
      · rw [List.getElem?_set_self hl] at q
        cases q
        exact ⟨v, List.getElem?_set_self (by rw [r.len]; exact hl), h⟩
      · rw [List.getElem?_eq_none (by simpa using hl)] at q; cases q
    · rw [List.getElem?_set_ne hj] at q ⊢
      exact r.v j e q
  · by_cases hj : i = j
    · subst hj
      by_cases hl : i < ρ.length
      · rw [List.getElem?_set_self hl] at q; cases q
      · rw [List.getElem?_eq_none (by simpa using hl)] at q; cases q
    · rw [List.getElem?_set_ne hj] at q ⊢
      rw [off_ne (Ne.symm hj)]
      exact r.own j ds q
  · by_cases hj : i = j
    · subst hj
      by_cases hl : i < ρ.length
      · rw [List.getElem?_set_self hl] at q; cases q
      · rw [List.getElem?_eq_none (by simpa using hl)] at q; cases q
    · rw [List.getElem?_set_ne hj] at q ⊢
      rw [off_ne (Ne.symm hj)]
      exact r.ins j c ds q
  · exact r.inj j k a (off_some h1).2 (off_some h2).2
  · obtain ⟨hj, q⟩ := off_some q
    rw [List.getElem?_set_ne (Ne.symm hj)]
    exact r.dom j a q
/-- a slot is set to a new list of its own -/
def on (L : Nat → Option Addr) (i : Nat) (a : Addr) : Nat → Option Addr := fun j => if j = i then some a else L j
theorem Rep.setOwn {i : Nat} {a : Addr} {vs : List V} {ds : List D} (hi : i < ρ.length) (r : Rep T ρ σ S H L) (ha : H a = some (.lst vs)) (hs : S a = none) (hn : ∀ j, L j ≠ some a) (h : Iss T S vs ds) : Rep T (ρ.set i (.own ds)) (σ.set i (some (.ref a))) S H (EV.on L i a) := by
  have on_ne : ∀ {j}, j ≠ i → EV.on L i a j = L j := fun h => if_neg h
  have on_same : EV.on L i a i = some a := if_pos rfl
  refine ⟨r.sub, by simp [r.len], fun j e q => ?_, fun j es q => ?_, fun j c es q => ?_, fun j k b h1 h2 => ?_, fun j b q => ?_, fun j x q => by
      by_cases hj : i = j
      · subst hj
        by_cases hl : i < ρ.length
        · rw [List.getElem?_set_self hl] at q; cases q
        · rw [List.getElem?_eq_none (by simpa using hl)] at q; cases q
      · rw [List.getElem?_set_ne hj] at q
        exact (r.x j x q).set hj⟩
  · by_cases hj : i = j
    · subst hj
      rw [List.getElem?_set_self hi] at q; cases q
    · rw [List.getElem?_set_ne hj] at q ⊢
      exact r.v j e q
  · by_cases hj : i = j
    · subst hj
      rw [List.getElem?_set_self hi] at q; cases q
      exact ⟨a, vs, on_same, List.getElem?_set_self (by rw [r.len]; exact hi), ha, hs, h⟩
    · rw [List.getElem?_set_ne hj] at q ⊢
      rw [on_ne (Ne.symm hj)]
      exact r.own j es q
  · by_cases hj : i = j
    · subst hj
      rw [List.getElem?_set_self hi] at q; cases q
    · rw [List.getElem?_set_ne hj] at q ⊢
      rw [on_ne (Ne.symm hj)]
      exact r.ins j c es q
  · by_cases hj : j = i
    · subst hj
      rw [on_same] at h1; cases h1
      by_cases hk : k = j
      · exact hk.symm
      · rw [on_ne hk] at h2; exact absurd h2 (hn k)
    · rw [on_ne hj] at h1
      by_cases hk : k = i
      · subst hk
        rw [on_same] at h2; cases h2
        exact absurd h1 (hn j)
      · rw [on_ne hk] at h2; exact r.inj j k b h1 h2
  · by_cases hj : j = i
    · subst hj
      exact .inl ⟨ds, List.getElem?_set_self hi⟩
    · rw [on_ne hj] at q
      rw [List.getElem?_set_ne (Ne.symm hj)]
      exact r.dom j b q
theorem Rep.setNone {i : Nat} (r : Rep T ρ σ S H L) : Rep T (ρ.set i .no) (σ.set i none) S H (EV.off L i) := by
  refine ⟨r.sub, by simp [r.len], fun j e q => ?_, fun j ds q => ?_, fun j c ds q => ?_, fun j k a h1 h2 => ?_, fun j a q => ?_, fun j x q => by
      by_cases hj : i = j
      · subst hj
        by_cases hl : i < ρ.length
        · rw [List.getElem?_set_self hl] at q; cases q
        · rw [List.getElem?_eq_none (by simpa using hl)] at q; cases q
      · rw [List.getElem?_set_ne hj] at q
        exact (r.x j x q).set hj⟩
  · by_cases hj : i = j
    · subst hj
      by_cases hl : i < ρ.length
      · rw [List.getElem?_set_self hl] at q; cases q
      · rw [List.getElem?_eq_none (by simpa using hl)] at q; cases q
    · rw [List.getElem?_set_ne hj] at q ⊢
      exact r.v j e q
  · by_cases hj : i = j
    · subst hj
      by_cases hl : i < ρ.length
      · rw [List.getElem?_set_self hl] at q; cases q
      · rw [List.getElem?_eq_none (by simpa using hl)] at q; cases q
    · rw [List.getElem?_set_ne hj] at q ⊢
      rw [off_ne (Ne.symm hj)]
      exact r.own j ds q
  · by_cases hj : i = j
    · subst hj
      by_cases hl : i < ρ.length
      · rw [List.getElem?_set_self hl] at q; cases q
      · rw [List.getElem?_eq_none (by simpa using hl)] at q; cases q
    · rw [List.getElem?_set_ne hj] at q ⊢
      rw [off_ne (Ne.symm hj)]
      exact r.ins j c ds q
  · exact r.inj j k a (off_some h1).2 (off_some h2).2
  · obtain ⟨hj, q⟩ := off_some q
    rw [List.getElem?_set_ne (Ne.symm hj)]
    exact r.dom j a q
/-- a list of the frame's own changes -/
theorem Rep.upd {i : Nat} {a : Addr} {ds ds' : List D} {vs' : List V} (r : Rep T ρ σ S H L) (h : ρ[i]? = some (.own ds)) (hL : L i = some a) (h' : Iss T S vs' ds') : Rep T (ρ.set i (.own ds')) σ S (L2.upd H a (.lst vs')) L := by
  obtain ⟨a0, vs0, e1, e2, e3, e4, e5⟩ := r.own i ds h
  rw [hL] at e1; cases e1
  have hi : i < ρ.length := (List.getElem?_eq_some_iff.mp h).1
  refine ⟨⟨fun b u e => ?_, fun b u e f => ?_⟩, by simp [r.len], fun j e q => ?_, fun j es q => ?_, fun j c es q => ?_, r.inj, fun j b q => ?_, fun j x q => by
      by_cases hj : i = j
      · subst hj
        by_cases hl : i < ρ.length
        · rw [List.getElem?_set_self hl] at q; cases q
        · rw [List.getElem?_eq_none (by simpa using hl)] at q; cases q
      · rw [List.getElem?_set_ne hj] at q
        exact r.x j x q⟩
  · have : b ≠ a := fun z => by rw [z, e4] at e; cases e
    rw [upd_ne this]; exact r.sub.same b u e
  · by_cases hb : b = a
    · subst hb; rw [upd_same] at e; cases e; cases f
    · rw [upd_ne hb] at e; exact r.sub.fix b u e f
  · by_cases hj : i = j
    · subst hj
      rw [List.getElem?_set_self hi] at q; cases q
    · rw [List.getElem?_set_ne hj] at q
      exact r.v j e q
  · by_cases hj : i = j
    · subst hj
      rw [List.getElem?_set_self hi] at q; cases q
      exact ⟨a, vs', hL, e2, upd_same, e4, h'⟩
    · rw [List.getElem?_set_ne hj] at q
      obtain ⟨b, vs, q1, q2, q3, q4, q5⟩ := r.own j es q
      have : b ≠ a := fun z => hj (r.inj i j a hL (z ▸ q1))
      exact ⟨b, vs, q1, q2, by rw [upd_ne this]; exact q3, q4, q5⟩
  · by_cases hj : i = j
    · subst hj
      rw [List.getElem?_set_self hi] at q; cases q
    · rw [List.getElem?_set_ne hj] at q
      obtain ⟨b, dx, vs, q1, q2, q3, q4, q5⟩ := r.ins j c es q
      have : b ≠ a := fun z => hj (r.inj i j a hL (z ▸ q1))
      exact ⟨b, dx, vs, q1, q2, by rw [upd_ne this]; exact q3, q4, q5⟩
  · by_cases hj : i = j
    · subst hj
      exact .inl ⟨ds', List.getElem?_set_self hi⟩
    · rw [List.getElem?_set_ne hj]
      exact r.dom j b q
theorem Stp.upd {i : Nat} {a : Addr} {ws vs : List V} (hL : L i = some a) (ha : H a = some (.lst ws)) : Stp S H L S (L2.upd H a (.lst vs)) L :=
  ⟨Same.refl S, fun b u h n => by rw [upd_ne (fun (z : b = a) => n i (by rw [z]; exact hL))]; exact h, fun b _ h _ => h, fun j b h => .inl ⟨j, h⟩, fun b xs h => by
    by_cases hb : b = a
    · subst hb; exact ⟨vs, upd_same⟩
    · exact ⟨xs, by rw [upd_ne hb]; exact h⟩, fun b C dx fs h => by
    have : b ≠ a := fun z => by rw [z, ha] at h; cases h
    exact ⟨fs, by rw [upd_ne this]; exact h⟩⟩
theorem Stp.updI {i : Nat} {a C dx : Addr} {fs0 fs1 : List (Str × V)} (hL : L i = some a) (ha : H a = some (.ins C dx fs0)) : Stp S H L S (L2.upd H a (.ins C dx fs1)) L :=
  ⟨Same.refl S, fun b u h n => by rw [upd_ne (fun (z : b = a) => n i (by rw [z]; exact hL))]; exact h, fun b _ h _ => h, fun j b h => .inl ⟨j, h⟩, fun b xs h => by
    have : b ≠ a := fun z => by rw [z, ha] at h; cases h
    exact ⟨xs, by rw [upd_ne this]; exact h⟩, fun b C' dx' fs h => by
    by_cases hb : b = a
    · subst hb; rw [ha] at h; cases h; exact ⟨fs1, upd_same⟩
    · exact ⟨fs, by rw [upd_ne hb]; exact h⟩⟩
/-- a field of the instance under way is set -/
theorem Rep.updI {i c : Nat} {a dx : Addr} {ds ds' : List D} {vs' : List V} (r : Rep T ρ σ S H L) (h : ρ[i]? = some (.ins c ds)) (hL : L i = some a) (hz : vs'.length ≤ (T.flds c).length) (h' : Iss T S vs' ds') :
    Rep T (ρ.set i (.ins c ds')) σ S (L2.upd H a (.ins (T.cls c) dx ((T.flds c).zip vs'))) L := by
  obtain ⟨a0, dx0, vs0, e1, e2, e3, e4, e5⟩ := r.ins i c ds h
  rw [hL] at e1; cases e1
  have hi : i < ρ.length := (List.getElem?_eq_some_iff.mp h).1
  refine ⟨⟨fun b u e => ?_, fun b u e f => ?_⟩, by simp [r.len], fun j e q => ?_, fun j es q => ?_, fun j c' es q => ?_, r.inj, fun j b q => ?_, fun j x q => by
      by_cases hj : i = j
      · subst hj
        by_cases hl : i < ρ.length
        · rw [List.getElem?_set_self hl] at q; cases q
        · rw [List.getElem?_eq_none (by simpa using hl)] at q; cases q
      · rw [List.getElem?_set_ne hj] at q
        exact r.x j x q⟩
  · have : b ≠ a := fun z => by rw [z, e4] at e; cases e
    rw [upd_ne this]; exact r.sub.same b u e
  · by_cases hb : b = a
    · subst hb; rw [upd_same] at e; cases e; cases f
    · rw [upd_ne hb] at e; exact r.sub.fix b u e f
  · by_cases hj : i = j
    · subst hj
      rw [List.getElem?_set_self hi] at q; cases q
    · rw [List.getElem?_set_ne hj] at q
      exact r.v j e q
  · by_cases hj : i = j
    · subst hj
      rw [List.getElem?_set_self hi] at q; cases q
    · rw [List.getElem?_set_ne hj] at q
      obtain ⟨b, vs, q1, q2, q3, q4, q5⟩ := r.own j es q
      have : b ≠ a := fun z => hj (r.inj i j a hL (z ▸ q1))
      exact ⟨b, vs, q1, q2, by rw [upd_ne this]; exact q3, q4, q5⟩
  · by_cases hj : i = j
    · subst hj
      rw [List.getElem?_set_self hi] at q; cases q
      exact ⟨a, dx, vs', hL, e2, upd_same, e4, hz, h'⟩
    · rw [List.getElem?_set_ne hj] at q
      obtain ⟨b, dx', vs, q1, q2, q3, q4, q5⟩ := r.ins j c' es q
      have : b ≠ a := fun z => hj (r.inj i j a hL (z ▸ q1))
      exact ⟨b, dx', vs, q1, q2, by rw [upd_ne this]; exact q3, q4, q5⟩
  · by_cases hj : i = j
    · subst hj
      exact .inr ⟨c, ds', List.getElem?_set_self hi⟩
    · rw [List.getElem?_set_ne hj]
      exact r.dom j b q

/-! ### a list of the frame's own is given out -/
def relS : Sl → Sl
  | .own ds => .v (.lst ds)
  | .ins c ds => .v (.obj c ds)
  | s => s
def rel (i : Nat) (ρ : Env) : Env := match ρ[i]? with
  | some s => ρ.set i (relS s)
  | none => ρ
theorem Rep.rel (r : Rep T ρ σ S H L) (i : Nat) : ∃ S' L', Rep T (EV.rel i ρ) σ S' H L' ∧ Stp S H L S' H L' := by
  have same : ∀ s, ρ[i]? = some s → relS s = s → ∃ S' L', Rep T (EV.rel i ρ) σ S' H L' ∧ Stp S H L S' H L' := fun s e q => by
    refine ⟨S, L, ?_, Stp.refl⟩
    unfold EV.rel
    rw [e]
    show Rep T (ρ.set i (relS s)) σ S H L
    rw [q]
    have hi := (List.getElem?_eq_some_iff.mp e).1
    have : ρ.set i s = ρ := by
      apply List.ext_getElem?
      intro j
      by_cases hj : i = j
      · subst hj; rw [List.getElem?_set_self hi, e]
      · rw [List.getElem?_set_ne hj]
    rw [this]
    exact r
  have go : ∀ (a : Addr) (o : HO) (d : D) (s : Sl), ρ[i]? = some s → relS s = .v d → L i = some a → σ[i]? = some (some (.ref a)) → H a = some o → S a = none → Is T (L2.upd S a o) (.ref a) d → ∃ S' L', Rep T (EV.rel i ρ) σ S' H L' ∧ Stp S H L S' H L' := fun a o d s e q hL hσ hH hS hI => by
    have hi := (List.getElem?_eq_some_iff.mp e).1
    have ss : Same S (L2.upd S a o) := Same.opened hS
    refine ⟨L2.upd S a o, EV.off L i, ?_, ⟨ss, fun _ _ h _ => h, fun b h1 h2 n => ?_, fun j b h => .inl ⟨j, (off_some h).2⟩, fun _ xs h => ⟨xs, h⟩, fun _ _ _ fs h => ⟨fs, h⟩⟩⟩
    · unfold EV.rel
      rw [e]
      show Rep T (ρ.set i (relS s)) σ (L2.upd S a o) H (EV.off L i)
      rw [q]
      refine ⟨⟨fun b u z => ?_, fun b u z f => ?_⟩, by simp [r.len], fun j e q => ?_, fun j es q => ?_, fun j c' es q => ?_, fun j k b h1 h2 => r.inj j k b (off_some h1).2 (off_some h2).2, fun j b z => ?_, fun j x q => by
        by_cases hj : i = j
        · subst hj
          rw [List.getElem?_set_self hi] at q; cases q
        · rw [List.getElem?_set_ne hj] at q
          exact (r.x j x q).mono ss⟩
      · by_cases hb : b = a
        · subst hb; rw [upd_same] at z; rw [← z]; exact hH
        · rw [upd_ne hb] at z; exact r.sub.same b u z
      · exact ss b u (r.sub.fix b u z f)
      · by_cases hj : i = j
        · subst hj
          rw [List.getElem?_set_self hi] at q; cases q
          exact ⟨_, hσ, hI⟩
        · rw [List.getElem?_set_ne hj] at q
          obtain ⟨v, h1, h2⟩ := r.v j e q
          exact ⟨v, h1, h2.mono ss⟩
      · by_cases hj : i = j
        · subst hj
          rw [List.getElem?_set_self hi] at q; cases q
        · rw [List.getElem?_set_ne hj] at q
          obtain ⟨b, vs, q1, q2, q3, q4, q5⟩ := r.own j es q
          have : b ≠ a := fun z => hj (r.inj i j a hL (z ▸ q1))
          exact ⟨b, vs, by rw [off_ne (Ne.symm hj)]; exact q1, q2, q3, by rw [upd_ne this]; exact q4, q5.mono ss⟩
      · by_cases hj : i = j
        · subst hj
          rw [List.getElem?_set_self hi] at q; cases q
        · rw [List.getElem?_set_ne hj] at q
          obtain ⟨b, dx', vs, q1, q2, q3, q4, q5, q6⟩ := r.ins j c' es q
          have : b ≠ a := fun z => hj (r.inj i j a hL (z ▸ q1))
          exact ⟨b, dx', vs, by rw [off_ne (Ne.symm hj)]; exact q1, q2, q3, by rw [upd_ne this]; exact q4, q5, q6.mono ss⟩
      · obtain ⟨hj, z⟩ := off_some z
        rw [List.getElem?_set_ne (Ne.symm hj)]
        exact r.dom j b z
    · rw [upd_ne (fun (z : b = a) => n i (by rw [z]; exact hL))]
      exact h2
  cases e : ρ[i]? with
  | none =>
    refine ⟨S, L, ?_, Stp.refl⟩
    unfold EV.rel
    rw [e]
    exact r
  | some s =>
    cases s with
    | no => exact same _ e rfl
    | v d => exact same _ e rfl
    | own ds =>
      obtain ⟨a, vs, h1, h2, h3, h4, h5⟩ := r.own i ds e
      exact go a _ _ _ e rfl h1 h2 h3 h4 (.lst upd_same (h5.mono (Same.opened h4)))
    | exn x => exact same _ e rfl
    | ins c ds =>
      obtain ⟨a, dx, vs, h1, h2, h3, h4, h5, h6⟩ := r.ins i c ds e
      exact go a _ _ _ e rfl h1 h2 h3 h4 (.obj upd_same h5 (h6.mono (Same.opened h4)))

/-! ### the frame read as a whole -/
def thaw (ρ : Env) : Env := ρ.map relS
theorem thaw_get {i : Nat} : (thaw ρ)[i]? = (ρ[i]?).map relS := by unfold thaw; rw [List.getElem?_map]
theorem Rep.thaw (r : Rep T ρ σ S H L) : RepE T H (EV.thaw ρ) σ := by
  refine ⟨by unfold EV.thaw; simp [r.len], fun i d e => ?_, fun i x e => ?_⟩
  rotate_left
  · rw [thaw_get] at e
    obtain ⟨s, e1, e2⟩ := Option.map_eq_some_iff.mp e
    cases s <;> cases e2
    exact (r.x i x e1).mono r.sub.same
  rw [thaw_get] at e
  obtain ⟨s, e1, e2⟩ := Option.map_eq_some_iff.mp e
  cases s with
  | no => cases e2
  | exn x => cases e2
  | v d' =>
    cases e2
    obtain ⟨v, h1, h2⟩ := r.v i d e1
    exact ⟨v, h1, h2.mono r.sub.same⟩
  | own ds =>
    cases e2
    obtain ⟨a, vs, h1, h2, h3, h4, h5⟩ := r.own i ds e1
    exact ⟨_, h2, .lst h3 (h5.mono r.sub.same)⟩
  | ins c ds =>
    cases e2
    obtain ⟨a, dx, vs, h1, h2, h3, h4, h5, h6⟩ := r.ins i c ds e1
    exact ⟨_, h2, .obj h3 h5 (h6.mono r.sub.same)⟩
end
/-! data without lists and instances -/
mutual
def D.pure : D → Bool
  | .non => true
  | .bl _ => true
  | .int _ => true
  | .str _ => true
  | .tup xs => D.pures xs
  | _ => false
def D.pures : List D → Bool
  | [] => true
  | x :: xs => D.pure x && D.pures xs
end
mutual
theorem Is.pure {T : Tab} {S H : Hp} (sh : EV.Sub S H) : ∀ {v : V} {d : D}, Is T H v d → d.pure = true → Is T S v d
  | _, _, .non, _ => .non
  | _, _, .bl b, _ => .bl b
  | _, _, .int i, _ => .int i
  | _, _, .str s, _ => .str s
  | _, _, .tup h hs, p => by
    refine .tup ?_ (Iss.pure sh hs (by simpa [D.pure] using p))
    rcases h with (h | ⟨o, h⟩) | h
    · exact .inl (.inl (sh.fix _ _ h rfl))
    · exact .inl (.inr ⟨o, sh.fix _ _ h rfl⟩)
    · exact .inr h
  | _, _, .lst h hs, p => by simp [D.pure] at p
  | _, _, .obj h l hs, p => by simp [D.pure] at p
  | _, _, .scr h l, p => by simp [D.pure] at p
theorem Iss.pure {T : Tab} {S H : Hp} (sh : EV.Sub S H) : ∀ {vs : List V} {ds : List D}, Iss T H vs ds → D.pures ds = true → Iss T S vs ds
  | _, _, .nil, _ => .nil
  | _, _, .cons h hs, p => by
    rw [D.pures, Bool.and_eq_true] at p
    exact .cons (Is.pure sh h p.1) (Iss.pure sh hs p.2)
end
theorem pures_all : ∀ {xs : List D}, D.pures xs = true ↔ ∀ x ∈ xs, D.pure x = true
  | [] => by simp [D.pures]
  | x :: xs => by
    rw [D.pures, Bool.and_eq_true, pures_all]
    simp
/-- what stands behind an expression that was read over all of H -/
theorem unthaw {S H S2 H2 : Hp} (sh : EV.Sub S H) (k : Kp H H S2 H2) : ∃ S', Kp S H S' H2 ∧ Same S' S2 := by
  classical
  refine ⟨fun a => if H a ≠ none ∧ S a = none then none else S2 a, ⟨fun a o e => ?_, k.h, ⟨fun a o e => ?_, fun a o e f => ?_⟩, fun a h1 h2 => if_pos ⟨h1, h2⟩⟩, fun a o e => ?_⟩
  · show (if H a ≠ none ∧ S a = none then none else S2 a) = some o
    rw [if_neg (fun z => by rw [e] at z; cases z.2)]
    exact k.s a o (sh.same a o e)
  · have e' : (if H a ≠ none ∧ S a = none then none else S2 a) = some o := e
    split at e'
    · cases e'
    · exact k.sub.same a o e'
  · show (if H a ≠ none ∧ S a = none then none else S2 a) = some o
    rw [if_neg, k.sub.fix a o e f]
    rintro ⟨z1, z2⟩
    cases q : H a with
    | none => exact z1 q
    | some u =>
      have := k.h a u q
      rw [e] at this; cases this
      rw [sh.fix a o q f] at z2; cases z2
  · have e' : (if H a ≠ none ∧ S a = none then none else S2 a) = some o := e
    split at e'
    · cases e'
    · exact e'

/-! ### statements -/
inductive Out where
  | nx (ρ : Env)
  | rt (d : D)
  | bk (ρ : Env)
  | ct (ρ : Env)
  | rs (x : Xn) (ρ : Env)
  | rl (ds : List D)
abbrev FS := Env → Option Out
def SEnd (T : Tab) (W : WX) (Dn : Ends) (S H : Hp) (L : Nat → Option Addr) : Out → Prop
  | .nx ρ => ∀ σ' S' H' L', Rep T ρ σ' S' H' L' → Stp S H L S' H' L' → Dn.nx σ' H'
  | .rt d => ∀ v S' H' L', EV.Sub S' H' → Stp S H L S' H' L' → Is T S' v d → Dn.rt v H'
  | .bk ρ => ∀ σ' S' H' L', Rep T ρ σ' S' H' L' → Stp S H L S' H' L' → Dn.bk σ' H'
  | .ct ρ => ∀ σ' S' H' L', Rep T ρ σ' S' H' L' → Stp S H L S' H' L' → Dn.ct σ' H'
  | .rs x ρ => ∀ σ' S' H' L' cls d, Rep T ρ σ' S' H' L' → Stp S H L S' H' L' → XIs T S' x cls d → W cls d σ' H'
  | .rl ds => ∀ a vs S' H' L', EV.Sub S' H' → Stp S H L S' H' L' → (H a = none ∨ ∃ i, L i = some a) → S' a = none → H' a = some (.lst vs) → Iss T S' vs ds → Dn.rt (.ref a) H'
theorem Stp.young {S H S' H' : Hp} {L L' : Nat → Option Addr} {a : Addr} (k : Stp S H L S' H' L') (h : H' a = none ∨ ∃ i, L' i = some a) : H a = none ∨ ∃ i, L i = some a := by
  rcases h with h | ⟨i, h⟩
  · by_cases hl : ∃ i, L i = some a
    · exact .inr hl
    · refine .inl ?_
      cases e : H a with
      | none => rfl
      | some o =>
        rw [k.fr a o e fun i z => hl ⟨i, z⟩] at h
        cases h
  · rcases k.own i a h with q | ⟨q, _⟩
    · exact .inr q
    · exact .inl q
theorem SEnd.mono {T : Tab} {W : WX} {Dn : Ends} {S H S1 H1 : Hp} {L L1 : Nat → Option Addr} {o : Out} (k : Stp S H L S1 H1 L1) (h : SEnd T W Dn S H L o) : SEnd T W Dn S1 H1 L1 o := by
  cases o with
  | nx ρ => exact fun σ' S' H' L' r s => h σ' S' H' L' r (k.trans s)
  | rt d => exact fun v S' H' L' sh s i => h v S' H' L' sh (k.trans s) i
  | bk ρ => exact fun σ' S' H' L' r s => h σ' S' H' L' r (k.trans s)
  | ct ρ => exact fun σ' S' H' L' r s => h σ' S' H' L' r (k.trans s)
  | rs x ρ => exact fun σ' S' H' L' cls d r s i => h σ' S' H' L' cls d r (k.trans s) i
  | rl ds => exact fun a vs S' H' L' sh s hy h1 h2 i => h a vs S' H' L' sh (k.trans s) (k.young hy) h1 h2 i
def tG (T : Tab) (W : WX) (g : FS) : TS := fun Dn σ H => ∃ ρ S L o, Rep T ρ σ S H L ∧ g ρ = some o ∧ SEnd T W Dn S H L o
def SS (X : Cx) (T : Tab) (W : WX) (st : Stmt) (g : FS) : Prop := PS X st (tG T W g)
def SSs (X : Cx) (T : Tab) (W : WX) (st : List Stmt) (g : FS) : Prop := PSs X st (tG T W g)
theorem PS.weak {X : Cx} {st : Stmt} {t u : TS} (h : PS X st t) (w : ∀ Dn σ H, u Dn σ H → t Dn σ H) : PS X st u := ⟨fun pins s σ H Dn I q => h.run pins s σ H Dn I (w Dn σ H q)⟩
theorem PSs.weak {X : Cx} {st : List Stmt} {t u : TS} (h : PSs X st t) (w : ∀ Dn σ H, u Dn σ H → t Dn σ H) : PSs X st u := ⟨fun pins s σ H Dn I q => h.run pins s σ H Dn I (w Dn σ H q)⟩

section
variable {X : Cx} {T : Tab} {W : WX} {st : Stmt} {rest body els : List Stmt} {g g1 g2 : FS} {e : Expr} {f : FE} {pos : Pos}
def gNext : FS := fun ρ => some (.nx ρ)
def gSeq (g1 g2 : FS) : FS := fun ρ => match g1 ρ with
  | some (.nx ρ') => g2 ρ'
  | o => o
theorem ss_nil : SSs X T W [] gNext := PSs.weak pss_nil fun Dn σ H q => by
  obtain ⟨ρ, S, L, o, r, e, fin⟩ := q
  cases e
  exact fin σ S H L r Stp.refl
theorem ss_cons (h1 : SS X T W st g1) (h2 : SSs X T W rest g2) : SSs X T W (st :: rest) (gSeq g1 g2) := by
  refine PSs.weak (pss_cons h1 h2) fun Dn σ H q => ?_
  obtain ⟨ρ, S, L, o, r, e, fin⟩ := q
  show tG T W g1 { Dn with nx := tG T W g2 Dn } σ H
  unfold gSeq at e
  cases q1 : g1 ρ with
  | none => rw [q1] at e; cases e
  | some o1 =>
    rw [q1] at e
    refine ⟨ρ, S, L, o1, r, q1, ?_⟩
    cases o1 with
    | nx ρ1 => exact fun σ' S' H' L' r' s => ⟨ρ1, S', L', o, r', e, fin.mono s⟩
    | rt d => cases e; exact fin
    | bk ρ => cases e; exact fin
    | ct ρ => cases e; exact fin
    | rs x ρ => cases e; exact fin
    | rl ds => cases e; exact fin
theorem ss_one (h1 : SS X T W st g1) : SSs X T W [st] g1 := pss_one h1
theorem ss_pass : SS X T W (.Pass pos) gNext := PS.weak ps_pass fun Dn σ H q => by
  obtain ⟨ρ, S, L, o, r, e, fin⟩ := q
  cases e
  exact fin σ S H L r Stp.refl
def gBrk : FS := fun ρ => some (.bk ρ)
def gCt : FS := fun ρ => some (.ct ρ)
theorem ss_brk : SS X T W (.Break pos) gBrk := PS.weak ps_break fun Dn σ H q => by
  obtain ⟨ρ, S, L, o, r, e, fin⟩ := q
  cases e
  exact fin σ S H L r Stp.refl
theorem ss_ct : SS X T W (.Continue pos) gCt := PS.weak ps_continue fun Dn σ H q => by
  obtain ⟨ρ, S, L, o, r, e, fin⟩ := q
  cases e
  exact fin σ S H L r Stp.refl
def gNever : FS := fun _ => none
theorem ss_never : SS X T W st gNever := PS.weak ps_never fun Dn σ H q => by
  obtain ⟨ρ, S, L, o, r, e, fin⟩ := q
  cases e
/-- lists of the frame's own are given out ahead of a statement -/
def gRel (i : Nat) (g : FS) : FS := fun ρ => g (rel i ρ)
theorem ss_rel (i : Nat) (h : SS X T W st g) : SS X T W st (gRel i g) := PS.weak h fun Dn σ H q => by
  obtain ⟨ρ, S, L, o, r, e, fin⟩ := q
  obtain ⟨S', L', r', s⟩ := r.rel i
  exact ⟨_, S', L', o, r', e, fin.mono s⟩
/-- .. behind a statement -/
def gThenRel (i : Nat) (g : FS) : FS := fun ρ => match g ρ with
  | some (.nx ρ') => some (.nx (rel i ρ'))
  | o => o
theorem ss_thenRel (i : Nat) (h : SS X T W st g) : SS X T W st (gThenRel i g) := PS.weak h fun Dn σ H q => by
  obtain ⟨ρ, S, L, o, r, e, fin⟩ := q
  unfold gThenRel at e
  cases q1 : g ρ with
  | none => rw [q1] at e; cases e
  | some o1 =>
    rw [q1] at e
    refine ⟨ρ, S, L, o1, r, q1, ?_⟩
    cases o1 with
    | nx ρ1 =>
      cases e
      intro σ' S' H' L' r' s
      obtain ⟨S2, L2, r2, s2⟩ := r'.rel i
      exact fin σ' S2 H' L2 r2 (s.trans s2)
    | rt d => cases e; exact fin
    | bk ρ => cases e; exact fin
    | ct ρ => cases e; exact fin
    | rs x ρ => cases e; exact fin
    | rl ds => cases e; exact fin
theorem sss_rel (i : Nat) (h : SSs X T W rest g) : SSs X T W rest (gRel i g) := PSs.weak h fun Dn σ H q => by
  obtain ⟨ρ, S, L, o, r, e, fin⟩ := q
  obtain ⟨S', L', r', s⟩ := r.rel i
  exact ⟨_, S', L', o, r', e, fin.mono s⟩

/-! an expression's part in a statement; mode B: own lists are not seen; mode A: all is seen, the result is pure -/
def RS (o : Option R) (ρ : Env) (k : D → Option Out) : Option Out := match o with
  | some (.ok d) => k d
  | some (.ex x) => some (.rs x ρ)
  | none => none
def RA (o : Option R) (ρ : Env) (k : D → Option Out) : Option Out := match o with
  | some (.ok d) => if d.pure then k d else none
  | some (.ex x) => if D.pures x.fs then some (.rs x ρ) else none
  | none => none
@[simp] theorem RS_ok (d : D) (ρ : Env) (k : D → Option Out) : RS (some (.ok d)) ρ k = k d := rfl
@[simp] theorem RS_ex (x : Xn) (ρ : Env) (k : D → Option Out) : RS (some (.ex x)) ρ k = some (.rs x ρ) := rfl
variable {S H : Hp} {σ : L2.St} {ρ : Env} {L : Nat → Option Addr} {Dn : Ends} {P : VK} {k : D → Option Out} {o : Out}
theorem sB (r : Rep T ρ σ S H L) (h : RS (f ρ) ρ k = some o) (fin : SEnd T W Dn S H L o)
    (go : ∀ d v S' H', Kp S H S' H' → Is T S' v d → Rep T ρ σ S' H' L → k d = some o → SEnd T W Dn S' H' L o → P v H') : tF T W f σ H P := by
  cases e : f ρ with
  | none => rw [e] at h; cases h
  | some q =>
    rw [e] at h
    refine ⟨ρ, S, q, r.sub, r.repE, e, ?_⟩
    cases q with
    | ok d => exact fun v S' H' kp i => go d v S' H' kp i (r.kp kp) h (fin.mono kp.stp)
    | ex x =>
      cases h
      exact fun S' H' cls d kp i => fin σ S' H' L cls d (r.kp kp) kp.stp i
theorem XIs.pure {x : Xn} {cls : Value} {d : Option Addr} (sh : EV.Sub S H) (h : XIs T H x cls d) (p : D.pures x.fs = true) : XIs T S x cls d := by
  obtain ⟨h1, h2⟩ := h
  refine ⟨h1, ?_⟩
  rcases h2 with h2 | ⟨dx, vs, h3, h4, h5, h6⟩
  · exact .inl h2
  · exact .inr ⟨dx, vs, h3, sh.fix _ _ h4 rfl, h5, h6.pure sh p⟩
theorem sA (r : Rep T ρ σ S H L) (h : RA (f (thaw ρ)) ρ k = some o) (fin : SEnd T W Dn S H L o)
    (go : ∀ d v S' H', Kp S H S' H' → Is T S' v d → Rep T ρ σ S' H' L → k d = some o → SEnd T W Dn S' H' L o → P v H') : tF T W f σ H P := by
  cases e : f (thaw ρ) with
  | none => rw [e] at h; cases h
  | some q =>
    rw [e] at h
    refine ⟨thaw ρ, H, q, EV.Sub.refl H, r.thaw, e, ?_⟩
    cases q with
    | ok d =>
      intro v S2 H2 kp i
      have h' : (if d.pure then k d else none) = some o := h
      split at h'
      · rename_i hp
        obtain ⟨S', kp', ss⟩ := unthaw r.sub kp
        exact go d v S' H2 kp' ((i.mono kp.sub.same).pure kp'.sub hp) (r.kp kp') h' (fin.mono kp'.stp)
      · cases h'
    | ex x =>
      intro S2 H2 cls d kp i
      have h' : (if D.pures x.fs then some (Out.rs x ρ) else none) = some o := h
      split at h'
      · rename_i hp
        cases h'
        obtain ⟨S', kp', ss⟩ := unthaw r.sub kp
        exact fin σ S' H2 L cls d (r.kp kp') kp'.stp ((i.mono kp.sub.same).pure kp'.sub hp)
      · cases h'

/-! x = e -/
def gSet (i : Nat) (f : FE) : FS := fun ρ => RS (f ρ) ρ fun d => some (.nx (ρ.set i (.v d)))
def gSetA (i : Nat) (f : FE) : FS := fun ρ => RA (f (thaw ρ)) ρ fun d => some (.nx (ρ.set i (.v d)))
section
variable {i : Nat} {x : Str} {p : Pos}
theorem ss_set_ {te : TE} (he : PS X st (tAsg te (gName i))) (hw : ∀ σ H Q, tF T W f σ H Q → te σ H Q) : SS X T W st (gSet i f) := PS.weak he fun Dn σ H q => by
  obtain ⟨ρ, S, L, o, r, e, fin⟩ := q
  refine hw σ H _ (sB r e fin fun d v S' H' kp hi r' e' fin' => ?_)
  cases e'
  exact fin' _ S' H' _ (r'.setV hi) Stp.off
theorem ss_setA_ {te : TE} (he : PS X st (tAsg te (gName i))) (hw : ∀ σ H Q, tF T W f σ H Q → te σ H Q) : SS X T W st (gSetA i f) := PS.weak he fun Dn σ H q => by
  obtain ⟨ρ, S, L, o, r, e, fin⟩ := q
  refine hw σ H _ (sA r e fin fun d v S' H' kp hi r' e' fin' => ?_)
  cases e'
  exact fin' _ S' H' _ (r'.setV hi) Stp.off
theorem ss_set (i : Nat) (hN : X.N.Nodup) (hi : X.N[i]? = some x := by rfl) (hx : Loc X.env.scope x := by first | exact .inl rfl | exact .inr rfl) (hf : X.fn x = true ∨ X.env.scope.names.lookup x = some .local := by first | exact .inl rfl | exact .inr rfl)
    (hs : swapsWith e (some (.Name x p)) pos.line X.env = pure false := by rfl) (he : EE X T W e f) : SS X T W (.Assign [.Name x p] e pos) (gSet i f) :=
  ss_set_ (ps_set hN hi hx he hs hf) fun _ _ _ h => h
theorem ss_setA (i : Nat) (hN : X.N.Nodup) (hi : X.N[i]? = some x := by rfl) (hx : Loc X.env.scope x := by first | exact .inl rfl | exact .inr rfl) (hf : X.fn x = true ∨ X.env.scope.names.lookup x = some .local := by first | exact .inl rfl | exact .inr rfl)
    (hs : swapsWith e (some (.Name x p)) pos.line X.env = pure false := by rfl) (he : EE X T W e f) : SS X T W (.Assign [.Name x p] e pos) (gSetA i f) :=
  ss_setA_ (ps_set hN hi hx he hs hf) fun _ _ _ h => h
end
end
end EV
end

section
set_option maxHeartbeats 4000000
/-! EV5: own lists, branches, loops, targets. -/
namespace EV
open PySem L2
section
variable {X : Cx} {T : Tab} {W : WX} {st : Stmt} {rest body els : List Stmt} {g g1 g2 : FS} {e a b c : Expr} {es : List Expr} {f fa fb fc : FE} {pos : Pos}
variable {S H : Hp} {σ : L2.St} {ρ : Env} {L : Nat → Option Addr} {Dn : Ends} {P : VK} {o : Out} {i : Nat} {x : Str} {p : Pos}

/-! ### a new list of the frame's own -/
def RSL (o : Option RL) (ρ : Env) (k : List D → Option Out) : Option Out := match o with
  | some (.ok d) => k d
  | some (.ex x) => some (.rs x ρ)
  | none => none
def RAL (o : Option RL) (ρ : Env) (k : List D → Option Out) : Option Out := match o with
  | some (.ok d) => if D.pures d then k d else none
  | some (.ex x) => if D.pures x.fs then some (.rs x ρ) else none
  | none => none
@[simp] theorem RSL_ok (d : List D) (ρ : Env) (k : List D → Option Out) : RSL (some (.ok d)) ρ k = k d := rfl
theorem sBN {f : FL} {k : List D → Option Out} (r : Rep T ρ σ S H L) (h : RSL (f ρ) ρ k = some o) (fin : SEnd T W Dn S H L o)
    (go : ∀ ds a vs S' H', Kp S H S' H' → H a = none → S' a = none → H' a = some (.lst vs) → Iss T S' vs ds → Rep T ρ σ S' H' L → k ds = some o → SEnd T W Dn S' H' L o → P (.ref a) H') : tN T W f σ H P := by
  cases e : f ρ with
  | none => rw [e] at h; cases h
  | some q =>
    rw [e] at h
    refine ⟨ρ, S, q, r.sub, r.repE, e, ?_⟩
    cases q with
    | ok d => exact fun a vs S' H' kp h1 h2 h3 i => go d a vs S' H' kp h1 h2 h3 i (r.kp kp) h (fin.mono kp.stp)
    | ex x =>
      cases h
      exact fun S' H' cls d kp i => fin σ S' H' L cls d (r.kp kp) kp.stp i
theorem sAN {f : FL} {k : List D → Option Out} (r : Rep T ρ σ S H L) (h : RAL (f (thaw ρ)) ρ k = some o) (fin : SEnd T W Dn S H L o)
    (go : ∀ ds a vs S' H', Kp S H S' H' → H a = none → S' a = none → H' a = some (.lst vs) → Iss T S' vs ds → Rep T ρ σ S' H' L → k ds = some o → SEnd T W Dn S' H' L o → P (.ref a) H') : tN T W f σ H P := by
  cases e : f (thaw ρ) with
  | none => rw [e] at h; cases h
  | some q =>
    rw [e] at h
    refine ⟨thaw ρ, H, q, EV.Sub.refl H, r.thaw, e, ?_⟩
    cases q with
    | ok d =>
      intro a vs S2 H2 kp h1 h2 h3 i
      have h' : (if D.pures d then k d else none) = some o := h
      split at h'
      · rename_i hp
        obtain ⟨S', kp', ss⟩ := unthaw r.sub kp
        have hs : S' a = none := ss.free h2
        exact go d a vs S' H2 kp' h1 hs h3 ((i.mono kp.sub.same).pure kp'.sub hp) (r.kp kp') h' (fin.mono kp'.stp)
      · cases h'
    | ex x =>
      intro S2 H2 cls d kp i
      have h' : (if D.pures x.fs then some (Out.rs x ρ) else none) = some o := h
      split at h'
      · rename_i hp
        cases h'
        obtain ⟨S', kp', ss⟩ := unthaw r.sub kp
        exact fin σ S' H2 L cls d (r.kp kp') kp'.stp ((i.mono kp.sub.same).pure kp'.sub hp)
      · cases h'
def setOwn (i : Nat) (ρ : Env) (ds : List D) : Option Out := if i < ρ.length then some (.nx (ρ.set i (.own ds))) else none
def gOwn (i : Nat) (f : FL) : FS := fun ρ => RSL (f ρ) ρ (setOwn i ρ)
def gOwnA (i : Nat) (f : FL) : FS := fun ρ => RAL (f (thaw ρ)) ρ (setOwn i ρ)
theorem on_end {ds : List D} {a : Addr} {vs : List V} {S' H' : Hp} (kp : Kp S H S' H') (hn : H a = none) (hs : S' a = none) (h' : H' a = some (.lst vs)) (hi : Iss T S' vs ds) (r : Rep T ρ σ S H L) (r' : Rep T ρ σ S' H' L) (e' : setOwn i ρ ds = some o) (fin : SEnd T W Dn S H L o) : Dn.nx (σ.set i (some (.ref a))) H' := by
  unfold setOwn at e'
  split at e' <;> cases e'
  rename_i hl
  have nl : ∀ j, L j ≠ some a := fun j z => by
    rcases r.dom j a z with ⟨ds, q⟩ | ⟨c, ds, q⟩
    · obtain ⟨b, vs, q1, _, q3, _⟩ := r.own j ds q
      rw [z] at q1; cases q1; rw [hn] at q3; cases q3
    · obtain ⟨b, dx, vs, q1, _, q3, _⟩ := r.ins j c ds q
      rw [z] at q1; cases q1; rw [hn] at q3; cases q3
  refine fin _ S' H' _ (r'.setOwn hl h' hs nl hi) ⟨kp.s, fun b u h _ => kp.h b u h, fun b h1 h2 _ => kp.hid b h1 h2, fun j b z => ?_, fun b xs h => ⟨xs, kp.h b _ h⟩, fun b _ _ fs h => ⟨fs, kp.h b _ h⟩⟩
  unfold EV.on at z
  split at z
  · cases z; exact .inr ⟨hn, _, h'⟩
  · exact .inl ⟨j, z⟩
theorem ss_own_ {te : TE} {f : FL} (he : PS X st (tAsg te (gName i))) (hw : ∀ σ H Q, tN T W f σ H Q → te σ H Q) : SS X T W st (gOwn i f) := PS.weak he fun Dn σ H q => by
  obtain ⟨ρ, S, L, o, r, e, fin⟩ := q
  exact hw σ H _ (sBN r e fin fun ds a vs S' H' kp h1 h2 h3 hi r' e' fin' => on_end kp h1 h2 h3 hi r r' e' fin)
theorem ss_ownA_ {te : TE} {f : FL} (he : PS X st (tAsg te (gName i))) (hw : ∀ σ H Q, tN T W f σ H Q → te σ H Q) : SS X T W st (gOwnA i f) := PS.weak he fun Dn σ H q => by
  obtain ⟨ρ, S, L, o, r, e, fin⟩ := q
  exact hw σ H _ (sAN r e fin fun ds a vs S' H' kp h1 h2 h3 hi r' e' fin' => on_end kp h1 h2 h3 hi r r' e' fin)
theorem ss_own (i : Nat) {f : FL} (hN : X.N.Nodup) (hi : X.N[i]? = some x := by rfl) (hx : Loc X.env.scope x := by first | exact .inl rfl | exact .inr rfl) (hf : X.fn x = true ∨ X.env.scope.names.lookup x = some .local := by first | exact .inl rfl | exact .inr rfl)
    (hs : swapsWith e (some (.Name x p)) pos.line X.env = pure false := by rfl) (he : EN X T W e f) : SS X T W (.Assign [.Name x p] e pos) (gOwn i f) :=
  ss_own_ (ps_set hN hi hx he hs hf) fun _ _ _ h => h
theorem ss_ownA (i : Nat) {f : FL} (hN : X.N.Nodup) (hi : X.N[i]? = some x := by rfl) (hx : Loc X.env.scope x := by first | exact .inl rfl | exact .inr rfl) (hf : X.fn x = true ∨ X.env.scope.names.lookup x = some .local := by first | exact .inl rfl | exact .inr rfl)
    (hs : swapsWith e (some (.Name x p)) pos.line X.env = pure false := by rfl) (he : EN X T W e f) : SS X T W (.Assign [.Name x p] e pos) (gOwnA i f) :=
  ss_ownA_ (ps_set hN hi hx he hs hf) fun _ _ _ h => h

/-! ### an expression alone, return -/
def gDrop (f : FE) : FS := fun ρ => RS (f ρ) ρ fun _ => some (.nx ρ)
theorem ss_expr (he : EE X T W e f) (hs : swapsWith e none pos.line X.env = pure false := by rfl) : SS X T W (.Expr e pos) (gDrop f) := PS.weak (ps_expr he hs) fun Dn σ H q => by
  obtain ⟨ρ, S, L, o, r, e, fin⟩ := q
  refine sB r e fin fun d v S' H' kp hi r' e' fin' => ?_
  cases e'
  exact fin' _ S' H' L r' Stp.refl
def gRet (f : FE) : FS := fun ρ => RS (f ρ) ρ fun d => some (.rt d)
def gRetA (f : FE) : FS := fun ρ => RA (f (thaw ρ)) ρ fun d => some (.rt d)
theorem ss_ret (he : EE X T W e f) : SS X T W (.Return (some e) pos) (gRet f) := PS.weak (ps_ret he) fun Dn σ H q => by
  obtain ⟨ρ, S, L, o, r, e, fin⟩ := q
  refine sB r e fin fun d v S' H' kp hi r' e' fin' => ?_
  cases e'
  exact fin' v S' H' L kp.sub Stp.refl hi
theorem ss_retA (he : EE X T W e f) : SS X T W (.Return (some e) pos) (gRetA f) := PS.weak (ps_ret he) fun Dn σ H q => by
  obtain ⟨ρ, S, L, o, r, e, fin⟩ := q
  refine sA r e fin fun d v S' H' kp hi r' e' fin' => ?_
  cases e'
  exact fin' v S' H' L kp.sub Stp.refl hi
def gRetN : FS := fun _ => some (.rt .non)
theorem ss_retN : SS X T W (.Return none pos) gRetN := PS.weak ps_retN fun Dn σ H q => by
  obtain ⟨ρ, S, L, o, r, e, fin⟩ := q
  cases e
  exact fin .non S H L r.sub Stp.refl .non

/-! ### if -/
def gIf (fc : FE) (g1 g2 : FS) : FS := fun ρ => RS (fc ρ) ρ fun
  | .bl true => g1 ρ
  | .bl false => g2 ρ
  | _ => none
def gIfA (fc : FE) (g1 g2 : FS) : FS := fun ρ => RA (fc (thaw ρ)) ρ fun
  | .bl true => g1 ρ
  | .bl false => g2 ρ
  | _ => none
theorem ss_if (hc : EB X T W c fc) (h1 : SSs X T W body g1) (h2 : SSs X T W els g2) : SS X T W (.If c body els pos) (gIf fc g1 g2) := PS.weak (ps_if hc h1 h2) fun Dn σ H q => by
  obtain ⟨ρ, S, L, o, r, e, fin⟩ := q
  refine sB r e fin fun d v S' H' kp hi r' e' fin' => ?_
  split at e'
  · cases hi
    exact ⟨true, rfl, ρ, S', L, o, r', e', fin'⟩
  · cases hi
    exact ⟨false, rfl, ρ, S', L, o, r', e', fin'⟩
  · cases e'
theorem ss_ifA (hc : EB X T W c fc) (h1 : SSs X T W body g1) (h2 : SSs X T W els g2) : SS X T W (.If c body els pos) (gIfA fc g1 g2) := PS.weak (ps_if hc h1 h2) fun Dn σ H q => by
  obtain ⟨ρ, S, L, o, r, e, fin⟩ := q
  refine sA r e fin fun d v S' H' kp hi r' e' fin' => ?_
  split at e'
  · cases hi
    exact ⟨true, rfl, ρ, S', L, o, r', e', fin'⟩
  · cases hi
    exact ⟨false, rfl, ρ, S', L, o, r', e', fin'⟩
  · cases e'

/-! ### xs.append(e), xs[k] = e .. of an own list -/
def appK (i : Nat) (ρ : Env) (d : D) : Option Out := match ρ[i]? with
  | some (.own ds) => if ds.length < 100000 then some (.nx (ρ.set i (.own (ds ++ [d])))) else none
  | _ => none
def gApp (i : Nat) (f : FE) : FS := fun ρ => RS (f ρ) ρ (appK i ρ)
def gAppA (i : Nat) (f : FE) : FS := fun ρ => RA (f (thaw ρ)) ρ (appK i ρ)
theorem app_end {d : D} {v : V} {a : Addr} {vs : List V} {ds : List D} (r : Rep T ρ σ S H L) (hd : ρ[i]? = some (.own ds)) (hL : L i = some a) (ha : H a = some (.lst vs)) (hi : Is T S v d) (e : appK i ρ d = some o) (fin : SEnd T W Dn S H L o) :
    rAppend (.ref a) [v] H fun _ H1 => Dn.nx σ H1 := by
  unfold appK at e
  rw [hd] at e
  dsimp only at e
  split at e <;> cases e
  rename_i hl
  obtain ⟨a0, vs0, h1, h2, h3, h4, h5⟩ := r.own i ds hd
  rw [hL] at h1; cases h1
  rw [ha] at h3; cases h3
  exact ⟨a, vs, v, rfl, rfl, ha, by rw [h5.length]; exact line_lt hl, fin σ S _ L (r.upd hd hL (h5.append (.cons hi .nil))) (Stp.upd hL ha)⟩
theorem app_own {d : D} (e : appK i ρ d = some o) : ∃ ds, ρ[i]? = some (.own ds) := by
  unfold appK at e
  split at e
  · exact ⟨_, by assumption⟩
  · cases e
def gAppO (i : Nat) (g : FS) : FS := fun ρ => match ρ[i]? with
  | some (.own _) => g ρ
  | _ => none
section
variable {p1 p2 p3 : Pos}
theorem ss_app (i : Nat) (hN : X.N[i]? = some x := by rfl) (hv : Vis X.env.scope x := by first | exact Or.inl rfl | exact Or.inr (Or.inl rfl) | exact Or.inr (Or.inr rfl)) (hs : swapsWith (.Call (.Attribute (.Name x p1) "append" p2) [e] [] p3) none pos.line X.env = pure false := by rfl)
    (hbase : attributeBase (.Name x p1) "append" X.env (eval (.Name x p1) X.env) = eval (.Name x p1) X.env := by rfl) (hd : (x == ("__debug__" : Str)) = false := by decide) (hcd : (x == ("__classdict__" : Str)) = false := by decide)
    (hfew : ((backTo p3 (starEach [e] X.env)).all (fun x => !x.1) && (backToKw p3 (keywordEach [] X.env)).all (fun x => x.1.isSome) && decide ([e].length + ([] : List Keyword).length + (if ([] : List Keyword).isEmpty then 0 else 1) < 30)) = true := by rfl)
    (hline : (p2.endLine == p3.line) = true := by rfl) (hs1 : starEach [e] X.env = (false, eval e X.env) :: starEach [] X.env := by rfl) (hplain : (backTo p3 (starEach [] X.env)).any (·.1) = false := by rfl)
    (he : EE X T W e f) : SS X T W (.Expr (.Call (.Attribute (.Name x p1) "append" p2) [e] [] p3) pos) (gAppO i (gApp i f)) := by
  refine PS.weak (ps_expr (pe_bm PySem.F.plainAttrs_list PySem.F.slot_list_append PySem.F.type_list_append mt_append (pe_var hN hv hd hcd) (pa_cons he pa_nil hs1) hbase hfew hline hs1 hplain) hs) fun Dn σ H q => ?_
  obtain ⟨ρ, S, L, o, r, e, fin⟩ := q
  unfold gAppO at e
  split at e <;> try cases e
  rename_i ds hd
  obtain ⟨a, vs, h1, h2, h3, h4, h5⟩ := r.own i ds hd
  refine ⟨_, h2, .inl ⟨rfl, _, SqL.of h3⟩, ?_⟩
  refine sB r e fin fun d v S' H' kp hi r' e' fin' => ?_
  exact app_end r' hd h1 (kp.h _ _ h3) hi e' fin'
theorem ss_appA (i : Nat) (hN : X.N[i]? = some x := by rfl) (hv : Vis X.env.scope x := by first | exact Or.inl rfl | exact Or.inr (Or.inl rfl) | exact Or.inr (Or.inr rfl)) (hs : swapsWith (.Call (.Attribute (.Name x p1) "append" p2) [e] [] p3) none pos.line X.env = pure false := by rfl)
    (hbase : attributeBase (.Name x p1) "append" X.env (eval (.Name x p1) X.env) = eval (.Name x p1) X.env := by rfl) (hd : (x == ("__debug__" : Str)) = false := by decide) (hcd : (x == ("__classdict__" : Str)) = false := by decide)
    (hfew : ((backTo p3 (starEach [e] X.env)).all (fun x => !x.1) && (backToKw p3 (keywordEach [] X.env)).all (fun x => x.1.isSome) && decide ([e].length + ([] : List Keyword).length + (if ([] : List Keyword).isEmpty then 0 else 1) < 30)) = true := by rfl)
    (hline : (p2.endLine == p3.line) = true := by rfl) (hs1 : starEach [e] X.env = (false, eval e X.env) :: starEach [] X.env := by rfl) (hplain : (backTo p3 (starEach [] X.env)).any (·.1) = false := by rfl)
    (he : EE X T W e f) : SS X T W (.Expr (.Call (.Attribute (.Name x p1) "append" p2) [e] [] p3) pos) (gAppO i (gAppA i f)) := by
  refine PS.weak (ps_expr (pe_bm PySem.F.plainAttrs_list PySem.F.slot_list_append PySem.F.type_list_append mt_append (pe_var hN hv hd hcd) (pa_cons he pa_nil hs1) hbase hfew hline hs1 hplain) hs) fun Dn σ H q => ?_
  obtain ⟨ρ, S, L, o, r, e, fin⟩ := q
  unfold gAppO at e
  split at e <;> try cases e
  rename_i ds hd
  obtain ⟨a, vs, h1, h2, h3, h4, h5⟩ := r.own i ds hd
  refine ⟨_, h2, .inl ⟨rfl, _, SqL.of h3⟩, ?_⟩
  refine sA r e fin fun d v S' H' kp hi r' e' fin' => ?_
  exact app_end r' hd h1 (kp.h _ _ h3) hi e' fin'
end
/-- xs[k] = e: e first (mode A or B), then the place (mode A) -/
def setK (i : Nat) (fk : FE) (ρ : Env) (d : D) : Option Out := match ρ[i]? with
  | some (.own ds) => (match fk (thaw ρ) with
    | some (.ok (.int k)) => (match ixN ds.length k with
      | some j => some (.nx (ρ.set i (.own (ds.set j d))))
      | none => none)
    | _ => none)
  | _ => none
def gSetIx (i : Nat) (fk f : FE) : FS := fun ρ => RS (f ρ) ρ (setK i fk ρ)
def gSetIxA (i : Nat) (fk f : FE) : FS := fun ρ => RA (f (thaw ρ)) ρ (setK i fk ρ)
section
variable {p1 p2 : Pos} {fk : FE}
theorem set_go {d : D} {v : V} (r : Rep T ρ σ S H L) (hi : Is T S v d) (e : setK i fk ρ d = some o) (fin : SEnd T W Dn S H L o) : tVar i σ H fun x H1 => tF T W fk σ H1 fun y H2 => rSetL x y v H2 fun H3 => Dn.nx σ H3 := by
  unfold setK at e
  split at e <;> try cases e
  rename_i ds hd
  split at e <;> try cases e
  rename_i k hk
  split at e <;> cases e
  rename_i j hj
  obtain ⟨a, vs, h1, h2, h3, h4, h5⟩ := r.own i ds hd
  refine ⟨_, h2, thaw ρ, H, _, EV.Sub.refl H, r.thaw, hk, ?_⟩
  intro y S2 H2 kp i2
  cases i2
  obtain ⟨S', kp', ss⟩ := unthaw r.sub kp
  have r' := r.kp kp'
  refine ⟨a, vs, k, j, rfl, rfl, kp.h _ _ h3, by rw [h5.length]; exact hj, ?_⟩
  exact fin σ S' _ L (r'.upd hd h1 (Iss.set (hi.mono kp'.s) j (h5.mono kp'.s))) (kp'.stp.trans (Stp.upd h1 (kp.h _ _ h3)))
theorem ss_setIx (i : Nat) (hN : X.N[i]? = some x := by rfl) (hv : Vis X.env.scope x := by first | exact Or.inl rfl | exact Or.inr (Or.inl rfl) | exact Or.inr (Or.inr rfl)) (hd : (x == ("__debug__" : Str)) = false := by decide) (hcd : (x == ("__classdict__" : Str)) = false := by decide)
    (hs : swapsWithSole [.Subscript (.Name x p1) c p2] e pos.line X.env = pure false := by rfl) (hw : swappedStores [.Subscript (.Name x p1) c p2] e X.env = pure none := by rfl)
    (h1 : (assignEach [.Subscript (.Name x p1) c p2] X.env).map (·.2) = [assign (.Subscript (.Name x p1) c p2) X.env] := by rfl) (hg : ∀ {tk}, PE X c tk → PG X (.Subscript (.Name x p1) c p2) (gSub (tVar i) tk rSetL))
    (hk : EE X T W c fk) (he : EE X T W e f) : SS X T W (.Assign [.Subscript (.Name x p1) c p2] e pos) (gSetIx i fk f) := by
  refine PS.weak (ps_asg he (hg hk) hs hw h1) fun Dn σ H q => ?_
  obtain ⟨ρ, S, L, o, r, e, fin⟩ := q
  refine sB r e fin fun d v S' H' kp hi r' e' fin' => ?_
  exact set_go r' hi e' fin'
theorem ss_setIxA (i : Nat) (hN : X.N[i]? = some x := by rfl) (hv : Vis X.env.scope x := by first | exact Or.inl rfl | exact Or.inr (Or.inl rfl) | exact Or.inr (Or.inr rfl)) (hd : (x == ("__debug__" : Str)) = false := by decide) (hcd : (x == ("__classdict__" : Str)) = false := by decide)
    (hs : swapsWithSole [.Subscript (.Name x p1) c p2] e pos.line X.env = pure false := by rfl) (hw : swappedStores [.Subscript (.Name x p1) c p2] e X.env = pure none := by rfl)
    (h1 : (assignEach [.Subscript (.Name x p1) c p2] X.env).map (·.2) = [assign (.Subscript (.Name x p1) c p2) X.env] := by rfl) (hg : ∀ {tk}, PE X c tk → PG X (.Subscript (.Name x p1) c p2) (gSub (tVar i) tk rSetL))
    (hk : EE X T W c fk) (he : EE X T W e f) : SS X T W (.Assign [.Subscript (.Name x p1) c p2] e pos) (gSetIxA i fk f) := by
  refine PS.weak (ps_asg he (hg hk) hs hw h1) fun Dn σ H q => ?_
  obtain ⟨ρ, S, L, o, r, e, fin⟩ := q
  refine sA r e fin fun d v S' H' kp hi r' e' fin' => ?_
  exact set_go r' hi e' fin'
end
end
end EV
end

section
set_option maxHeartbeats 4000000
/-! EV6: targets, what is walked, for, while, comprehensions. -/
namespace EV
open PySem L2

/-! ### targets: fg says what a store does to the frame; is: the slots that it may set -/
abbrev FG := D → Env → Option Env
def tT (T : Tab) (is : List Nat) (fg : FG) : TG := fun v σ H Q => ∃ ρ S L d ρ', Rep T ρ σ S H L ∧ Is T S v d ∧ fg d ρ = some ρ' ∧
  ∀ σ' L', Rep T ρ' σ' S H L' → Stp S H L S H L' → (σ'.length = σ.length ∧ ∀ j, j ∉ is → σ'[j]? = σ[j]?) → Q σ' H
def EG (X : Cx) (T : Tab) (e : Expr) (is : List Nat) (fg : FG) : Prop := PG X e (tT T is fg)
abbrev FGs := List D → Env → Option Env
def tTs (T : Tab) (is : List Nat) (fg : FGs) : TGs := fun vs σ H Q => ∃ ρ S L ds ρ', Rep T ρ σ S H L ∧ Iss T S vs ds ∧ fg ds ρ = some ρ' ∧
  ∀ σ' L', Rep T ρ' σ' S H L' → Stp S H L S H L' → (σ'.length = σ.length ∧ ∀ j, j ∉ is → σ'[j]? = σ[j]?) → Q σ' H
def EGs (X : Cx) (T : Tab) (es : List Expr) (is : List Nat) (fg : FGs) : Prop := PGs X es (tTs T is fg)
section
variable {X : Cx} {T : Tab} {W : WX} {st : Stmt} {rest body els : List Stmt} {g g1 g2 : FS} {e a b c : Expr} {es : List Expr} {f fa fb fc : FE} {pos : Pos}
variable {S H : Hp} {σ : L2.St} {ρ : Env} {L : Nat → Option Addr} {Dn : Ends} {P : VK} {o : Out} {i : Nat} {x : Str} {p : Pos} {is js : List Nat} {fg : FG} {fgs : FGs}
theorem PG.weak {e : Expr} {t u : TG} (h : PG X e t) (w : ∀ v σ H Q, u v σ H Q → t v σ H Q) : PG X e u := ⟨fun pins s σ H v uu Q I r q => h.run pins s σ H v uu Q I r (w v σ H Q q)⟩
theorem PGs.weak {e : List Expr} {t u : TGs} (h : PGs X e t) (w : ∀ v σ H Q, u v σ H Q → t v σ H Q) : PGs X e u := ⟨fun pins s σ H v uu Q I r q => h.run pins s σ H v uu Q I r (w v σ H Q q)⟩
def nmG (i : Nat) : FG := fun d ρ => some (ρ.set i (.v d))
theorem eg_name (i : Nat) (hN : X.N.Nodup) (hi : X.N[i]? = some x := by rfl) (hx : Loc X.env.scope x := by first | exact .inl rfl | exact .inr rfl) (hf : X.fn x = true ∨ X.env.scope.names.lookup x = some .local := by first | exact .inl rfl | exact .inr rfl) : EG X T (.Name x pos) [i] (nmG i) :=
  PG.weak (pg_name hN hi hx hf) fun v σ H Q q => by
    obtain ⟨ρ, S, L, d, ρ', r, hi, e, fin⟩ := q
    cases e
    refine fin _ _ (r.setV hi) Stp.off ⟨List.length_set .., fun j hj => ?_⟩
    exact List.getElem?_set_ne (fun z => hj (by simp [z]))
def nilG : FGs := fun ds ρ => match ds with
  | [] => some ρ
  | _ => none
def consG (fg : FG) (fgs : FGs) : FGs := fun ds ρ => match ds with
  | d :: ds => (match fg d ρ with
    | some ρ' => fgs ds ρ'
    | none => none)
  | [] => none
theorem egs_nil : EGs X T [] [] nilG := PGs.weak pgs_nil fun v σ H Q q => by
  obtain ⟨ρ, S, L, d, ρ', r, hi, e, fin⟩ := q
  unfold nilG at e
  split at e <;> cases e
  cases hi
  exact ⟨rfl, fin σ L r Stp.refl ⟨rfl, fun _ _ => rfl⟩⟩
theorem egs_cons (h1 : EG X T e is fg) (h2 : EGs X T es js fgs) (hs : (assignEach (e :: es) X.env).map (·.2) = assign e X.env :: (assignEach es X.env).map (·.2) := by rfl) : EGs X T (e :: es) (is ++ js) (consG fg fgs) :=
  PGs.weak (pgs_cons h1 h2 hs) fun v σ H Q q => by
    obtain ⟨ρ, S, L, ds, ρ', r, hi, e, fin⟩ := q
    unfold consG at e
    split at e <;> try cases e
    rename_i d ds
    split at e <;> try cases e
    rename_i ρ1 e1
    cases hi with
    | cons h1 h2 =>
      refine ⟨_, _, rfl, ρ, S, L, d, ρ1, r, h1, e1, fun σ1 L1 r1 s1 c1 => ⟨ρ1, S, L1, ds, ρ', r1, h2, e, fun σ2 L2 r2 s2 c2 => ?_⟩⟩
      refine fin σ2 L2 r2 (s1.trans s2) ⟨c2.1.trans c1.1, fun j hj => ?_⟩
      rw [c2.2 j fun z => hj (List.mem_append_right _ z), c1.2 j fun z => hj (List.mem_append_left _ z)]
def tupG (fgs : FGs) : FG := fun d ρ => match d with
  | .tup ds => fgs ds ρ
  | .lst ds => fgs ds ρ
  | _ => none
theorem PG.or {e : Expr} {t u : TG} (h : PG X e t) (h' : PG X e u) : PG X e (fun v σ H Q => t v σ H Q ∨ u v σ H Q) := ⟨fun pins s σ H v uu Q I r q => q.elim (h.run pins s σ H v uu Q I r) (h'.run pins s σ H v uu Q I r)⟩
def lenG (n : Nat) (fgs : FGs) : FGs := fun ds ρ => if ds.length = n then fgs ds ρ else none
theorem eg_tup {k n : Nat} (hc : X.calm = true) (hK : X.K = T.K := by rfl) (h : EGs X T es is fgs) (hn : (assignEach es X.env).length = n := by rfl) (hst : (assignEach es X.env).findIdx? (·.1) = none := by rfl) : EG X T (.Tuple es k pos) is (tupG (lenG n fgs)) :=
  PG.weak (PG.or (pg_tup hc h hn hst) (pg_unl hc h hn hst)) fun v σ H Q q => by
    obtain ⟨ρ, S, L, d, ρ', r, hi, e, fin⟩ := q
    unfold tupG at e
    split at e <;> try cases e
    · unfold lenG at e
      split at e <;> try cases e
      rename_i hl
      cases hi with
      | tup h1 h2 => exact .inl ⟨_, _, rfl, by rw [hK]; exact Same.seqT r.sub.same h1, by rw [h2.length]; exact hl, ρ, S, L, _, ρ', r, h2, e, fin⟩
    · unfold lenG at e
      split at e <;> try cases e
      rename_i hl
      cases hi with
      | lst h1 h2 => exact .inr ⟨_, _, rfl, SqL.of (r.sub.same _ _ h1), by rw [h2.length]; exact hl, ρ, S, L, _, ρ', r, h2, e, fin⟩

/-- target = e -/
def gAsg (fg : FG) (f : FE) : FS := fun ρ => RS (f ρ) ρ fun d => (fg d ρ).map Out.nx
def gAsgA (fg : FG) (f : FE) : FS := fun ρ => RA (f (thaw ρ)) ρ fun d => (fg d ρ).map Out.nx
theorem ss_asg (hg : EG X T a is fg) (he : EE X T W e f) (hs : swapsWithSole [a] e pos.line X.env = pure false := by rfl) (hw : swappedStores [a] e X.env = pure none := by rfl)
    (h1 : (assignEach [a] X.env).map (·.2) = [assign a X.env] := by rfl) : SS X T W (.Assign [a] e pos) (gAsg fg f) := PS.weak (ps_asg he hg hs hw h1) fun Dn σ H q => by
  obtain ⟨ρ, S, L, o, r, e, fin⟩ := q
  refine sB r e fin fun d v S' H' kp hi r' e' fin' => ?_
  obtain ⟨ρ', e2, rfl⟩ := Option.map_eq_some_iff.mp e'
  exact ⟨ρ, S', L, d, ρ', r', hi, e2, fun σ' L' r2 s2 _ => fin' σ' S' H' L' r2 s2⟩
theorem ss_asgA (hg : EG X T a is fg) (he : EE X T W e f) (hs : swapsWithSole [a] e pos.line X.env = pure false := by rfl) (hw : swappedStores [a] e X.env = pure none := by rfl)
    (h1 : (assignEach [a] X.env).map (·.2) = [assign a X.env] := by rfl) : SS X T W (.Assign [a] e pos) (gAsgA fg f) := PS.weak (ps_asg he hg hs hw h1) fun Dn σ H q => by
  obtain ⟨ρ, S, L, o, r, e, fin⟩ := q
  refine sA r e fin fun d v S' H' kp hi r' e' fin' => ?_
  obtain ⟨ρ', e2, rfl⟩ := Option.map_eq_some_iff.mp e'
  exact ⟨ρ, S', L, d, ρ', r', hi, e2, fun σ' L' r2 s2 _ => fin' σ' S' H' L' r2 s2⟩

/-! ### what is walked -/
/-- J gives the data ds one by one, while what stands behind S1 stands -/
structure IW (T : TabC) (J : It) (S1 : Hp) (ds : List D) : Prop where
  go : ∀ i S H, Same S1 S → EV.Sub S H → i < ds.length → J.go i H
  stop : ∀ S H, Same S1 S → EV.Sub S H → J.stop ds.length H
  yld : ∀ i S H x H', Same S1 S → EV.Sub S H → i < ds.length → J.yld i H x H' → ∃ d S', ds[i]? = some d ∧ Kp S H S' H' ∧ Is T S' x d
def RIEnd (T : Tab) (W : WX) (S H : Hp) (σ : L2.St) (R : It → Hp → Prop) : RL → Prop
  | .ok ds => ∀ J S' H', Kp S H S' H' → IW T J S' ds → R J H'
  | .ex x => ∀ S' H' cls d, Kp S H S' H' → XIs T S' x cls d → W cls d σ H'
theorem RIEnd.mono {S' H' : Hp} {R : It → Hp → Prop} {r : RL} (k : Kp S H S' H') (h : RIEnd T W S H σ R r) : RIEnd T W S' H' σ R r := by
  cases r with
  | ok d => exact fun J S2 H2 k2 i => h J S2 H2 (k.trans k2) i
  | ex x => exact fun S2 H2 cls d k2 i => h S2 H2 cls d (k.trans k2) i
def tI (T : Tab) (W : WX) (f : FL) : TI := fun σ H R => ∃ ρ S r, EV.Sub S H ∧ RepE T S ρ σ ∧ f ρ = some r ∧ RIEnd T W S H σ R r
def EI (X : Cx) (T : Tab) (W : WX) (tg e : Expr) (f : FL) : Prop := PI X tg e (tI T W f)
theorem PI.weak {tg e : Expr} {t u : TI} (h : PI X tg e t) (w : ∀ σ H Q, u σ H Q → t σ H Q) : PI X tg e u := ⟨fun pins s σ H Q I q => h.run pins s σ H Q I (w σ H Q q)⟩
theorem PI.or {tg e : Expr} {t u : TI} (h : PI X tg e t) (h' : PI X tg e u) : PI X tg e (fun σ H R => t σ H R ∨ u σ H R) := ⟨fun pins s σ H Q I q => q.elim (h.run pins s σ H Q I) (h'.run pins s σ H Q I)⟩
theorem tF_goI {R : It → Hp → Prop} {k : D → Option RL} {r : RL} (sh : EV.Sub S H) (rep : RepE T S ρ σ) (h : R1L (f ρ) k = some r) (fin : RIEnd T W S H σ R r)
    (go : ∀ d v S' H', Kp S H S' H' → Is T S' v d → RepE T S' ρ σ → k d = some r → RIEnd T W S' H' σ R r → P v H') : tF T W f σ H P := by
  cases e : f ρ with
  | none => rw [e] at h; cases h
  | some q =>
    rw [e] at h
    refine ⟨ρ, S, q, sh, rep, e, ?_⟩
    cases q with
    | ok d => exact fun v S' H' kp i => go d v S' H' kp i (rep.mono kp.s) h (fin.mono kp)
    | ex x =>
      cases h
      exact fin
theorem tA_goI {R : It → Hp → Prop} {P : List V → Hp → Prop} {f : FL} {k : List D → Option RL} {r : RL} (sh : EV.Sub S H) (rep : RepE T S ρ σ) (h : RLL (f ρ) k = some r) (fin : RIEnd T W S H σ R r)
    (go : ∀ ds vs S' H', Kp S H S' H' → Iss T S' vs ds → RepE T S' ρ σ → k ds = some r → RIEnd T W S' H' σ R r → P vs H') : tA T W f σ H P := by
  cases e : f ρ with
  | none => rw [e] at h; cases h
  | some q =>
    rw [e] at h
    refine ⟨ρ, S, q, sh, rep, e, ?_⟩
    cases q with
    | ok d => exact fun v S' H' kp i => go d v S' H' kp i (rep.mono kp.s) h (fin.mono kp)
    | ex x =>
      cases h
      exact fin
/-- the items of a list, a tuple, the script -/
def seqD : D → Option (List D)
  | .lst xs => some xs
  | .tup xs => some xs
  | .scr ns => some (ns.map D.int)
  | _ => none
def iSeq (f : FE) : FL := fun ρ => R1L (f ρ) fun d => (seqD d).map RL.ok
theorem iw_list {K : PySem.W.Frag} (hK : K = T.K) {a : Addr} {vs : List V} {ds : List D} {S1 : Hp} (h : SqL K S1 a vs) (hs : Iss T S1 vs ds) : IW T (Itl K a) S1 ds := by
  refine ⟨fun i S H s sh hi => ?_, fun S H s sh => ?_, fun i S H x H' s sh hi y => ?_⟩
  · exact walk_list.goes i H (by rw [hs.length]; exact hi) (sh.same.seq (s.seq h))
  · rw [← hs.length]
    exact walk_list.stops H (sh.same.seq (s.seq h))
  · obtain ⟨e, hx⟩ := walk_list.yields i H x H' (by rw [hs.length]; exact hi) (sh.same.seq (s.seq h)) y
    subst e
    obtain ⟨d, h1, h2⟩ := hs.get hx
    exact ⟨d, S, h1, Kp.refl sh, h2.mono s⟩
theorem iw_tup {K : PySem.W.Frag} (hK : K = T.K) {a : Addr} {vs : List V} {ds : List D} {S1 : Hp} (h : SqT K S1 a vs) (hs : Iss T S1 vs ds) : IW T (Itt K a) S1 ds := by
  refine ⟨fun i S H s sh hi => ?_, fun S H s sh => ?_, fun i S H x H' s sh hi y => ?_⟩
  · exact walk_tup.goes i H (by rw [hs.length]; exact hi) (Same.seqT sh.same (Same.seqT s h))
  · rw [← hs.length]
    exact walk_tup.stops H (Same.seqT sh.same (Same.seqT s h))
  · obtain ⟨e, hx⟩ := walk_tup.yields i H x H' (by rw [hs.length]; exact hi) (Same.seqT sh.same (Same.seqT s h)) y
    subst e
    obtain ⟨d, h1, h2⟩ := hs.get hx
    exact ⟨d, S, h1, Kp.refl sh, h2.mono s⟩
theorem ei_seq {tg : Expr} (hK : X.K = T.K := by rfl) (he : EE X T W e f) : EI X T W tg e (iSeq f) := by
  refine PI.weak (PI.or (pi_list he) (pi_tup he)) fun σ H R q => ?_
  obtain ⟨ρ, S, r, sh, rep, e, fin⟩ := q
  unfold iSeq at e
  cases e0 : f ρ with
  | none => rw [e0] at e; cases e
  | some z =>
    cases z with
    | ex x =>
      rw [e0] at e
      cases e
      exact .inl ⟨ρ, S, _, sh, rep, e0, fin⟩
    | ok d =>
      rw [e0] at e
      obtain ⟨ds, e1, rfl⟩ := Option.map_eq_some_iff.mp e
      unfold seqD at e1
      split at e1 <;> cases e1
      · refine .inl ⟨ρ, S, _, sh, rep, e0, fun v S1 H1 k i => ?_⟩
        cases i with
        | lst h hs => exact ⟨_, rfl, ⟨_, SqL.of (k.sub.same _ _ h)⟩, fin _ S1 H1 k (iw_list hK (SqL.of h) hs)⟩
      · refine .inr ⟨ρ, S, _, sh, rep, e0, fun v S1 H1 k i => ?_⟩
        cases i with
        | tup h hs => exact ⟨_, rfl, ⟨_, Same.seqT k.sub.same (by rw [hK]; exact h)⟩, fin _ S1 H1 k (iw_tup hK (by rw [hK]; exact h) hs)⟩
      · refine .inl ⟨ρ, S, _, sh, rep, e0, fun v S1 H1 k i => ?_⟩
        cases i with
        | scr h l => exact ⟨_, rfl, ⟨_, k.sub.same.seq (by rw [hK]; exact h)⟩, fin _ S1 H1 k (iw_list hK (by rw [hK]; exact h) (Iss.ints _))⟩
/-- range -/
def rangeD (lo : Int) (n : Nat) : List D := (List.range n).map fun i => D.int (lo + (i : Nat))
theorem rangeD_length (lo : Int) (n : Nat) : (rangeD lo n).length = n := by simp [rangeD]
theorem iw_range {S1 : Hp} {lo : Int} {n : Nat} : IW T (Itr lo n) S1 (rangeD lo n) := by
  refine ⟨fun i S H s sh hi => ?_, fun S H s sh => ?_, fun i S H x H' s sh hi y => ?_⟩
  · rw [rangeD_length] at hi; exact hi
  · rw [rangeD_length]; exact Nat.le_refl _
  · rw [rangeD_length] at hi
    obtain ⟨e, rfl⟩ := y
    subst e
    refine ⟨.int (lo + (i : Nat)), S, ?_, Kp.refl sh, .int _⟩
    simp [rangeD, hi]
def iRange1 (f : FE) : FL := fun ρ => R1L (f ρ) fun
  | .int j => if -(2 ^ 62) ≤ j ∧ j < 2 ^ 62 then some (.ok (rangeD 0 j.toNat)) else none
  | _ => none
def iRange2 (fa fb : FE) : FL := fun ρ => R1L (fa ρ) fun p => R1L (fb ρ) fun q => match p, q with
  | .int i, .int j => if (-(2 ^ 62) ≤ i ∧ i < 2 ^ 62) ∧ -(2 ^ 62) ≤ j ∧ j < 2 ^ 62 then some (.ok (rangeD i (j - i).toNat)) else none
  | _, _ => none
theorem ei_range1 {tg : Expr} (hm : X.mg "range" = none) (ha : EE X T W a fa) (hg : Gl X "range" := by rfl) (hs : starEach [a] X.env = [(false, eval a X.env)] := by rfl) (hs2 : starEach [a] X.env = (false, eval a X.env) :: starEach [] X.env := by rfl) : EI X T W tg (.Call (.Name "range" p) [a] [] pos) (iRange1 fa) := by
  refine PI.weak (pi_range1 hg hm (pa_cons ha pa_nil hs2) hs) fun σ H R q => ?_
  obtain ⟨ρ, S, r, sh, rep, e, fin⟩ := q
  show tF T W fa σ H _
  refine tF_goI sh rep e fin fun d v S1 H1 k i rep1 e1 fin1 => ?_
  split at e1 <;> try cases e1
  split at e1 <;> cases e1
  rename_i hb
  cases i
  exact ⟨_, rfl, hb.1, hb.2, fin1 _ S1 H1 (Kp.refl k.sub) iw_range⟩
theorem ei_range2 {tg : Expr} (hm : X.mg "range" = none) (ha : EE X T W a fa) (hb : EE X T W b fb) (hg : Gl X "range" := by rfl) (hs : starEach [a, b] X.env = [(false, eval a X.env), (false, eval b X.env)] := by rfl) (hs2 : starEach [b] X.env = [(false, eval b X.env)] := by rfl)
    (hs3 : starEach [a, b] X.env = (false, eval a X.env) :: starEach [b] X.env := by rfl) (hs4 : starEach [b] X.env = (false, eval b X.env) :: starEach [] X.env := by rfl) : EI X T W tg (.Call (.Name "range" p) [a, b] [] pos) (iRange2 fa fb) := by
  refine PI.weak (pi_range2 hg hm (pa_cons ha (pa_cons hb pa_nil hs4) hs3) hs hs2) fun σ H R q => ?_
  obtain ⟨ρ, S, r, sh, rep, e, fin⟩ := q
  show tF T W fa σ H _
  refine tF_goI sh rep e fin fun d v S1 H1 k i rep1 e1 fin1 => ?_
  show tF T W fb σ H1 _
  refine tF_goI k.sub rep1 e1 fin1 fun d2 v2 S2 H2 k2 i2 rep2 e2 fin2 => ?_
  split at e2 <;> try cases e2
  split at e2 <;> cases e2
  rename_i hb
  cases i
  cases i2
  exact ⟨_, _, rfl, ⟨hb.1.1, hb.1.2, hb.2.1, hb.2.2⟩, fin2 _ S2 H2 (Kp.refl k2.sub) iw_range⟩

/-! ### for -/
def loopF (fg : FG) (b : FS) : List D → Env → Option Out
  | [], ρ => some (.nx ρ)
  | d :: ds, ρ => match fg d ρ with
    | none => none
    | some ρ1 => match b ρ1 with
      | some (.nx ρ') => loopF fg b ds ρ'
      | some (.ct ρ') => loopF fg b ds ρ'
      | some (.bk ρ') => some (.nx ρ')
      | o => o
def gFor (fi : FL) (fg : FG) (b : FS) : FS := fun ρ => RSL (fi ρ) ρ fun ds => loopF fg b ds ρ
def gForA (fi : FL) (fg : FG) (b : FS) : FS := fun ρ => RAL (fi (thaw ρ)) ρ fun ds => loopF fg b ds ρ
/-- the loop over what is walked -/
theorem for_core {ds : List D} {J : It} {S1 H1 : Hp} (r : Rep T ρ σ S1 H1 L) (iw : IW T J S1 ds) (e : loopF fg g ds ρ = some o) (fin : SEnd T W Dn S1 H1 L o) :
    ∃ Wi : Nat → Nat → L2.St → Hp → Prop, (∃ m, Wi 0 m σ H1) ∧ ∀ i m σ H, Wi i m σ H → (J.stop i H ∧ Dn.nx σ H) ∨ (J.go i H ∧ ∃ N : L2.St → Hp → Prop, (∀ σ' H', N σ' H' → ∃ m', m' < m ∧ Wi (i + 1) m' σ' H') ∧ ∀ x H', J.yld i H x H' → tT T is fg x σ H' fun σ2 H2 => tG T W g { Dn with nx := N, ct := N, bk := Dn.nx } σ2 H2) := by
  let Pv : Nat → L2.St → Hp → Prop := fun i σ H => ∃ ρ S L, Rep T ρ σ S H L ∧ Same S1 S ∧ loopF fg g (ds.drop i) ρ = some o ∧ SEnd T W Dn S H L o
  refine ⟨fun i m σ H => m = ds.length - i ∧ i ≤ ds.length ∧ Pv i σ H, ⟨ds.length, by simp, Nat.zero_le _, ρ, S1, L, r, Same.refl _, e, fin⟩, ?_⟩
  rintro i m σ H ⟨rfl, hi, ρ, S, L, r, ss, e, fin⟩
  by_cases hlt : i < ds.length
  · refine .inr ⟨iw.go i S H ss r.sub hlt, Pv (i + 1), fun σ' H' p' => ⟨ds.length - (i + 1), by omega, rfl, hlt, p'⟩, fun x H' y => ?_⟩
    obtain ⟨d, S', hd, kp, hi⟩ := iw.yld i S H x H' ss r.sub hlt y
    have hdr : ds.drop i = d :: ds.drop (i + 1) := by
      rw [List.drop_eq_getElem_cons hlt]
      congr 1
      rw [List.getElem?_eq_getElem hlt] at hd
      exact Option.some.inj hd
    rw [hdr, loopF] at e
    split at e <;> try cases e
    rename_i ρ1 e1
    refine ⟨ρ, S', L, d, ρ1, r.kp kp, hi, e1, fun σ' L' r' s' _ => ?_⟩
    have base : Stp S H L S' H' L' := kp.stp.trans s'
    cases q : g ρ1 with
    | none => rw [q] at e; cases e
    | some o1 =>
      rw [q] at e
      refine ⟨ρ1, S', L', o1, r', q, ?_⟩
      cases o1 with
      | nx ρ2 => exact fun σ2 S2 H2 L2 r2 s2 => ⟨ρ2, S2, L2, r2, (ss.trans kp.s).trans s2.s, e, fin.mono (base.trans s2)⟩
      | ct ρ2 => exact fun σ2 S2 H2 L2 r2 s2 => ⟨ρ2, S2, L2, r2, (ss.trans kp.s).trans s2.s, e, fin.mono (base.trans s2)⟩
      | bk ρ2 =>
        cases e
        exact fun σ2 S2 H2 L2 r2 s2 => fin σ2 S2 H2 L2 r2 (base.trans s2)
      | rt d2 =>
        cases e
        exact fun v S2 H2 L2 sh s2 i2 => fin v S2 H2 L2 sh (base.trans s2) i2
      | rs x ρ2 =>
        cases e
        exact fun σ2 S2 H2 L2 cls d2 r2 s2 i2 => fin σ2 S2 H2 L2 cls d2 r2 (base.trans s2) i2
      | rl ds =>
        cases e
        exact fin.mono base
  · have ei : i = ds.length := by omega
    subst ei
    rw [List.drop_length, loopF] at e
    cases e
    exact .inl ⟨iw.stop S H ss r.sub, fin σ S H L r Stp.refl⟩
theorem sBI {f : FL} {R : It → Hp → Prop} {k : List D → Option Out} (r : Rep T ρ σ S H L) (h : RSL (f ρ) ρ k = some o) (fin : SEnd T W Dn S H L o)
    (go : ∀ ds J S' H', Kp S H S' H' → IW T J S' ds → Rep T ρ σ S' H' L → k ds = some o → SEnd T W Dn S' H' L o → R J H') : tI T W f σ H R := by
  cases e : f ρ with
  | none => rw [e] at h; cases h
  | some q =>
    rw [e] at h
    refine ⟨ρ, S, q, r.sub, r.repE, e, ?_⟩
    cases q with
    | ok d => exact fun J S' H' kp i => go d J S' H' kp i (r.kp kp) h (fin.mono kp.stp)
    | ex x =>
      cases h
      exact fun S' H' cls d kp i => fin σ S' H' L cls d (r.kp kp) kp.stp i
theorem ss_for {tg iter : Expr} {fi : FL} (hp : PassesOwn (model X.prog X.w) X.A X.env X.xe) (hc : X.calm = true) (hi : EI X T W tg iter fi) (hg : EG X T tg is fg) (hb : SSs X T W body g) (hs : ∀ x, foldedSetIterable iter X.env x = pure x := by intro _; rfl) :
    SS X T W (.For tg iter body [] pos) (gFor fi fg g) := by
  refine PS.weak (ps_for hp hc hi hg hb hs) fun Dn σ H q => ?_
  obtain ⟨ρ, S, L, o, r, e, fin⟩ := q
  exact sBI r e fin fun ds J S' H' kp iw r' e' fin' => for_core r' iw e' fin'

/-! ### while: m bounds the turns -/
def whileF (c : FE) (b : FS) : Nat → Env → Option Out
  | 0, _ => none
  | n + 1, ρ => RS (c ρ) ρ fun
    | .bl true => (match b ρ with
      | some (.nx ρ') => whileF c b n ρ'
      | some (.ct ρ') => whileF c b n ρ'
      | some (.bk ρ') => some (.nx ρ')
      | o => o)
    | .bl false => some (.nx ρ)
    | _ => none
def gWhile (m : Env → Nat) (c : FE) (b : FS) : FS := fun ρ => whileF c b (m ρ) ρ
theorem ss_while (m : Env → Nat) (hp : PassesOwn (model X.prog X.w) X.A X.env X.xe) (hc : EB X T W c fc) (hb : SSs X T W body g) : SS X T W (.While c body [] pos) (gWhile m fc g) := by
  refine PS.weak (ps_while hp hc hb) fun Dn σ H q => ?_
  obtain ⟨ρ, S, L, o, r, e, fin⟩ := q
  refine ⟨fun n σ H => ∃ ρ S L, Rep T ρ σ S H L ∧ whileF fc g n ρ = some o ∧ SEnd T W Dn S H L o, ⟨m ρ, ρ, S, L, r, e, fin⟩, ?_⟩
  rintro n σ H ⟨ρ, S, L, r, e, fin⟩
  cases n with
  | zero => cases e
  | succ n =>
    rw [whileF] at e
    refine sB r e fin fun d v S' H' kp hi r' e' fin' => ?_
    split at e'
    · cases hi
      refine ⟨true, rfl, ?_⟩
      refine ⟨fun σ H => ∃ ρ S L, Rep T ρ σ S H L ∧ whileF fc g n ρ = some o ∧ SEnd T W Dn S H L o, fun σ' H' z => ⟨n, Nat.lt_succ_self n, z⟩, ?_⟩
      cases q : g ρ with
      | none => rw [q] at e'; cases e'
      | some o1 =>
        rw [q] at e'
        refine ⟨ρ, S', L, o1, r', q, ?_⟩
        cases o1 with
        | nx ρ2 => exact fun σ2 S2 H2 L2 r2 s2 => ⟨ρ2, S2, L2, r2, e', fin'.mono s2⟩
        | ct ρ2 => exact fun σ2 S2 H2 L2 r2 s2 => ⟨ρ2, S2, L2, r2, e', fin'.mono s2⟩
        | bk ρ2 =>
          cases e'
          exact fun σ2 S2 H2 L2 r2 s2 => fin' σ2 S2 H2 L2 r2 s2
        | rt d2 =>
          cases e'
          exact fin'
        | rs x ρ2 =>
          cases e'
          exact fin'
        | rl ds =>
          cases e'
          exact fin'
    · cases hi
      cases e'
      refine ⟨false, rfl, ?_⟩
      exact fin' σ S' H' L r' Stp.refl
    · cases e'
end
end EV
end

section
set_option maxHeartbeats 4000000
/-! EV7: comprehensions; calls of built-ins. -/
namespace EV
open PySem L2
section
variable {X : Cx} {T : Tab} {W : WX} {st : Stmt} {g g1 g2 : FS} {e a b c : Expr} {es : List Expr} {f fa fb fc : FE} {pos : Pos}
variable {S H : Hp} {σ : L2.St} {ρ : Env} {L : Nat → Option Addr} {Dn : Ends} {P : VK} {o : Out} {i : Nat} {x : Str} {p : Pos} {is js : List Nat} {fg : FG} {fgs : FGs}

/-- nothing may be raised -/
abbrev W0 : WX := fun _ _ _ _ => False
def wipeE (ρ : Env) : List Nat → Env
  | [] => ρ
  | v :: vs => (wipeE ρ vs).set v .no
theorem wipeE_length (ρ : Env) : ∀ vs, (wipeE ρ vs).length = ρ.length
  | [] => rfl
  | v :: vs => by unfold wipeE; rw [List.length_set, wipeE_length ρ vs]
theorem wipe_get (σ : L2.St) (j : Nat) : ∀ vs : List Nat, (wipe σ vs)[j]? = if j ∈ vs then (if j < σ.length then some none else none) else σ[j]?
  | [] => by simp [wipe]
  | v :: vs => by
    unfold wipe
    by_cases h : v = j
    · subst h
      by_cases hl : v < σ.length
      · rw [List.getElem?_set_self (by rw [wipe_length]; exact hl)]; simp [hl]
      · rw [List.getElem?_eq_none (by simp [wipe_length]; omega)]; simp [hl]
    · rw [List.getElem?_set_ne h, wipe_get σ j vs]
      have : (j ∈ v :: vs) ↔ j ∈ vs := by simp [Ne.symm h]
      simp only [this]
theorem wipeE_get (σ : Env) (j : Nat) : ∀ vs : List Nat, (wipeE σ vs)[j]? = if j ∈ vs then (if j < σ.length then some Sl.no else none) else σ[j]?
  | [] => by simp [wipeE]
  | v :: vs => by
    unfold wipeE
    by_cases h : v = j
    · subst h
      by_cases hl : v < σ.length
      · rw [List.getElem?_set_self (by rw [wipeE_length]; exact hl)]; simp [hl]
      · rw [List.getElem?_eq_none (by simp [wipeE_length]; omega)]; simp [hl]
    · rw [List.getElem?_set_ne h, wipeE_get σ j vs]
      have : (j ∈ v :: vs) ↔ j ∈ vs := by simp [Ne.symm h]
      simp only [this]
theorem wipe_same {σ σ2 : L2.St} {vs is : List Nat} (hl : σ2.length = σ.length) (h : ∀ j, j ∉ is → σ2[j]? = (wipe σ vs)[j]?) (hs : ∀ j ∈ is, j ∈ vs) : wipe σ2 vs = wipe σ vs := by
  apply List.ext_getElem?
  intro j
  rw [wipe_get, wipe_get, hl]
  by_cases hj : j ∈ vs
  · simp [hj]
  · simp only [hj, if_false]
    rw [h j fun z => hj (hs j z), wipe_get]
    simp [hj]
/-- what the frame's own lists are not seen of -/
def maskS : Sl → Sl
  | .v d => .v d
  | _ => .no
def mask (ρ : Env) : Env := ρ.map maskS
theorem RepE.wiped (r : RepE T S ρ σ) (vs : List Nat) : RepE T S (wipeE ρ vs) (wipe σ vs) := by
  refine ⟨by rw [wipe_length, wipeE_length]; exact r.len, fun i d e => ?_, fun i x e => ?_⟩
  rotate_left
  · rw [wipeE_get] at e
    by_cases hj : i ∈ vs
    · simp only [hj, if_true] at e
      split at e <;> cases e
    · simp only [hj, if_false] at e
      obtain ⟨a, cls, d, h1, h2, h3⟩ := r.x i x e
      refine ⟨a, cls, d, h1, ?_, h3⟩
      rw [wipe_get]
      simp only [hj, if_false]
      exact h2
  rw [wipeE_get] at e
  by_cases hj : i ∈ vs
  · simp only [hj, if_true] at e
    split at e <;> cases e
  · simp only [hj, if_false] at e
    obtain ⟨v, h1, h2⟩ := r.v i d e
    refine ⟨v, ?_, h2⟩
    rw [wipe_get]
    simp only [hj, if_false]
    exact h1
/-- a frame without lists of its own -/
theorem RepE.rep (sh : EV.Sub S H) (r : RepE T S ρ σ) : Rep T (mask ρ) σ S H (fun _ => none) := by
  refine ⟨sh, by unfold mask; simp [r.len], fun i d e => ?_, fun i ds e => ?_, fun i c ds e => ?_, fun i j a h => ?_, fun i a h => ?_, fun i x e => ?_⟩
  rotate_right
  · unfold mask at e
    rw [List.getElem?_map] at e
    obtain ⟨z, e1, e2⟩ := Option.map_eq_some_iff.mp e
    cases z <;> cases e2
  · unfold mask at e
    rw [List.getElem?_map] at e
    obtain ⟨z, e1, e2⟩ := Option.map_eq_some_iff.mp e
    cases z <;> cases e2
    exact r.v i d e1
  · unfold mask at e
    rw [List.getElem?_map] at e
    obtain ⟨z, e1, e2⟩ := Option.map_eq_some_iff.mp e
    cases z <;> cases e2
  · unfold mask at e
    rw [List.getElem?_map] at e
    obtain ⟨z, e1, e2⟩ := Option.map_eq_some_iff.mp e
    cases z <;> cases e2
  · cases h
  · cases h
/-- one item's turn: nothing (none), left out (some none), its value -/
def itemF (fg : FG) (ft fe : FE) (ρ : Env) (d : D) : Option (Option D) := match fg d (mask ρ) with
  | none => none
  | some ρ1 => match ft ρ1 with
    | some (.ok (.bl true)) => (match fe ρ1 with
      | some (.ok v) => some (some v)
      | _ => none)
    | some (.ok (.bl false)) => some none
    | _ => none
def lcF (fg : FG) (ft fe : FE) (ρ : Env) : List D → Option (List D)
  | [] => some []
  | d :: ds => match itemF fg ft fe ρ d with
    | none => none
    | some r => match lcF fg ft fe ρ ds with
      | none => none
      | some rs => some (r.toList ++ rs)
def vYes : FE := fun _ => some (.ok (.bl true))
def nLc (fi : FL) (fg : FG) (ft fe : FE) (vs : List Nat) : FL := fun ρ => RLL (fi ρ) fun ds => if ds.length ≤ 90000 then (lcF fg ft fe (wipeE ρ vs) ds).map RL.ok else none
def ETs (X : Cx) (T : Tab) (ifs : List Expr) (f : FE) : Prop := PTs X ifs (tFT T W0 f)
theorem PTs.weak {e : List Expr} {t u : TT} (h : PTs X e t) (w : ∀ σ H Q, u σ H Q → t σ H Q) : PTs X e u := ⟨fun pins s σ H Q I q => h.run pins s σ H Q I (w σ H Q q)⟩
theorem et_nil : ETs X T [] vYes := PTs.weak pts_nil fun σ H Q q => by
  obtain ⟨ρ, S, r, sh, rep, e, fin⟩ := q
  cases e
  obtain ⟨b, e4, q⟩ := fin _ S H (Kp.refl sh) (.bl _)
  cases e4
  exact q
theorem et_one (h : EB X T W0 c fc) : ETs X T [c] fc := pts_one h
theorem lcF_length {fg : FG} {ft fe : FE} {ρ : Env} : ∀ {ds rs : List D}, lcF fg ft fe ρ ds = some rs → rs.length ≤ ds.length
  | [], rs, h => by cases h; simp
  | d :: ds, rs, h => by
    unfold lcF at h
    split at h <;> try cases h
    rename_i r _
    split at h <;> cases h
    rename_i rs' h'
    have := lcF_length h'
    cases r <;> simp <;> omega
theorem tI_goN {f : FL} {R : It → Hp → Prop} {Q : VK} {k : List D → Option RL} {r : RL} (sh : EV.Sub S H) (rep : RepE T S ρ σ) (h : RLL (f ρ) k = some r) (fin : RNEnd T W S H σ Q r)
    (go : ∀ ds J S' H', Kp S H S' H' → IW T J S' ds → RepE T S' ρ σ → k ds = some r → RNEnd T W S' H' σ Q r → R J H') : tI T W f σ H R := by
  cases e : f ρ with
  | none => rw [e] at h; cases h
  | some q =>
    rw [e] at h
    refine ⟨ρ, S, q, sh, rep, e, ?_⟩
    cases q with
    | ok d => exact fun J S' H' kp i => go d J S' H' kp i (rep.mono kp.s) h (fin.mono kp)
    | ex x =>
      cases h
      exact fin
theorem w_lc {fi : FL} {ft fe : FE} {vs : List Nat} (hs : ∀ j ∈ is, j ∈ vs) (σ : L2.St) (H : Hp) (Q : VK) (q : tN T W (nLc fi fg ft fe vs) σ H Q) : tLc (tI T W fi) (tT T is fg) (tFT T W0 ft) (tF T W0 fe) vs σ H Q := by
  obtain ⟨ρ, S, r, sh, rep, e, fin⟩ := q
  refine tI_goN sh rep e fin fun ds J S1 H1 k1 iw rep1 e1 fin1 => ?_
  split at e1 <;> try cases e1
  rename_i hlen
  obtain ⟨rs, e2, rfl⟩ := Option.map_eq_some_iff.mp e1
  intro Dl hD
  let Pv : Nat → Hp → Prop := fun i H => ∃ S acc dacc rest, H Dl = some (.lst acc) ∧ S Dl = none ∧ Iss T S acc dacc ∧ Kp S1 H1 S H ∧ lcF fg ft fe (wipeE ρ vs) (ds.drop i) = some rest ∧ dacc ++ rest = rs
  have sD : S1 Dl = none := k1.sub.same.free hD
  refine ⟨fun i m H => m = ds.length - i ∧ i ≤ ds.length ∧ Pv i H, ⟨ds.length, by simp, Nat.zero_le _, S1, [], [], rs, upd_same, sD, .nil, Kp.hide k1.sub hD rfl, e2, rfl⟩, ?_⟩
  rintro i m H2 ⟨rfl, hi, S2, acc, dacc, rest, hL, hS, hacc, kp, er, ers⟩
  by_cases hlt : i < ds.length
  · refine .inr ⟨iw.go i S2 H2 kp.s kp.sub hlt, Pv (i + 1), fun H' p' => ⟨ds.length - (i + 1), by omega, rfl, hlt, p'⟩, fun x H3 y => ?_⟩
    obtain ⟨d, S3, hd, kp3, hx⟩ := iw.yld i S2 H2 x H3 kp.s kp.sub hlt y
    have hdr : ds.drop i = d :: ds.drop (i + 1) := by
      rw [List.drop_eq_getElem_cons hlt]
      congr 1
      rw [List.getElem?_eq_getElem hlt] at hd
      exact Option.some.inj hd
    rw [hdr, lcF] at er
    split at er <;> try cases er
    rename_i r0 e0
    split at er <;> cases er
    rename_i rest' er'
    unfold itemF at e0
    split at e0 <;> try cases e0
    rename_i ρ1 eg
    have k13 : Kp S1 H1 S3 H3 := kp.trans kp3
    have hL3 : H3 Dl = some (.lst acc) := kp3.h _ _ hL
    have hS3 : S3 Dl = none := kp3.hid Dl (by rw [hL]; intro z; cases z) hS
    have repW : RepE T S3 (wipeE ρ vs) (wipe σ vs) := (rep1.wiped vs).mono (kp.s.trans kp3.s)
    refine ⟨mask (wipeE ρ vs), S3, fun _ => none, d, ρ1, repW.rep kp3.sub, hx, eg, fun σ2 L2' r2 s2 c2 => ⟨wipe_same (by rw [c2.1, wipe_length]) c2.2 hs, ?_⟩⟩
    split at e0 <;> try cases e0
    · rename_i et
      split at e0 <;> cases e0
      rename_i v ev
      refine ⟨ρ1, S3, _, kp3.sub, r2.repE, et, fun b S4 H4 kp4 ib => ?_⟩
      cases ib
      refine ⟨true, rfl, ρ1, S4, _, kp4.sub, r2.repE.mono kp4.s, ev, fun y S5 H5 kp5 iy => ?_⟩
      have k15 : Kp S1 H1 S5 H5 := (k13.trans kp4).trans kp5
      have hL5 : H5 Dl = some (.lst acc) := kp5.h _ _ (kp4.h _ _ hL3)
      have hS5 : S5 Dl = none := kp5.hid Dl (by rw [kp4.h _ _ hL3]; intro z; cases z) (kp4.hid Dl (by rw [hL3]; intro z; cases z) hS3)
      have hall : (dacc ++ v :: rest').length ≤ 100000 := by
        have h1 : dacc ++ v :: rest' = rs := ers
        rw [h1]
        exact Nat.le_trans (lcF_length e2) (by omega)
      refine ⟨acc, hL5, by rw [hacc.length]; rw [List.length_append, List.length_cons] at hall; exact line_lt (by omega), S5, acc ++ [y], dacc ++ [v], rest', upd_same, hS5, ?_, ?_, er', by rw [List.append_assoc]; exact ers⟩
      · exact (hacc.mono ((kp3.s.trans kp4.s).trans kp5.s)).append (.cons iy .nil)
      · refine ⟨k15.s, fun q u hq => ?_, ⟨fun q u hq => ?_, fun q u hq hf => ?_⟩, k15.hid⟩
        · rw [upd_ne (ne_of_none hq hD)]; exact k15.h q u hq
        · rw [upd_ne (ne_of_none hq hS5)]; exact k15.sub.same q u hq
        · by_cases hqD : q = Dl
          · subst hqD; rw [upd_same] at hq; cases hq; cases hf
          · rw [upd_ne hqD] at hq; exact k15.sub.fix q u hq hf
    · rename_i et
      refine ⟨ρ1, S3, _, kp3.sub, r2.repE, et, fun b S4 H4 kp4 ib => ?_⟩
      cases ib
      refine ⟨false, rfl, ?_⟩
      exact ⟨S4, acc, dacc, rest', kp4.h _ _ hL3, kp4.hid Dl (by rw [hL3]; intro z; cases z) hS3, hacc.mono (kp3.s.trans kp4.s), k13.trans kp4, er', ers⟩
  · have ei : i = ds.length := by omega
    subst ei
    rw [List.drop_length, lcF] at er
    cases er
    rw [List.append_nil] at ers
    subst ers
    exact .inl ⟨iw.stop S2 H2 kp.s kp.sub, fin1 Dl acc S2 H2 kp hD hS hL hacc⟩

section
variable {elt tg iter : Expr} {ifs : List Expr} {scope : Scope} {own : List (Str × Nat)} {fi : FL} {ft fe : FE}
theorem en_lc (own : List (Str × Nat)) (hc : X.calm = true) (hN : X.N.Nodup) (ok : BlkOk X.N X.env.scope scope own) (hsub : ∀ j ∈ is, j ∈ own.map (·.2)) (hi : EI X T W tg iter fi)
    (hg : ∀ (s : Shared) (H : Hp) (C : Addr) (cl : List (Str × Addr)) (fp : List Addr), EG (X.blk s H scope (compEnvC scope cl C X.env) fp) T tg is fg) (ht : ∀ (s : Shared) (H : Hp) (C : Addr) (cl : List (Str × Addr)) (fp : List Addr), ETs (X.blk s H scope (compEnvC scope cl C X.env) fp) T ifs ft)
    (he : ∀ (s : Shared) (H : Hp) (C : Addr) (cl : List (Str × Addr)) (fp : List Addr), EE (X.blk s H scope (compEnvC scope cl C X.env) fp) T W0 elt fe) (hs : ∀ x, foldedSetIterable iter X.env x = pure x := by intro _; rfl) :
    EN X T W (.ListComp elt [⟨tg, iter, ifs, 0⟩] scope pos) (nLc fi fg ft fe (own.map (·.2))) := PE.weak (pe_lc hc hN hi ok hg ht he hs) (w_lc hsub)
section
variable {y : Str} {py spos : Pos} {i : Nat}
theorem ps_lcs (own : List (Str × Nat)) (i : Nat) (hc : X.calm = true) (hN : X.N.Nodup) (ok : BlkOk X.N X.env.scope scope own) (hy : X.N[i]? = some y) (hyl : X.env.scope.names.lookup y = some .local)
    (hsw : swapsWith (.ListComp elt [⟨tg, iter, ifs, 0⟩] scope pos) (some (.Name y py)) spos.line X.env = pure true) (hi : EI X T W tg iter fi)
    (hg : ∀ (s : Shared) (H : Hp) (C : Addr) (cl : List (Str × Addr)) (fp : List Addr), EG (X.blk s H scope (compEnvC scope cl C X.env) fp) T tg is fg) (ht : ∀ (s : Shared) (H : Hp) (C : Addr) (cl : List (Str × Addr)) (fp : List Addr), ETs (X.blk s H scope (compEnvC scope cl C X.env) fp) T ifs ft)
    (he : ∀ (s : Shared) (H : Hp) (C : Addr) (cl : List (Str × Addr)) (fp : List Addr), EE (X.blk s H scope (compEnvC scope cl C X.env) fp) T W0 elt fe) (hs : ∀ x, foldedSetIterable iter X.env x = pure x := by intro _; rfl) :
    PS X (.Assign [.Name y py] (.ListComp elt [⟨tg, iter, ifs, 0⟩] scope pos) spos) (tAsg (tLc (tI T W fi) (tT T is fg) (tFT T W0 ft) (tF T W0 fe) (own.map (·.2))) (gName i)) := ps_setLc hc hN hy hyl hsw hi ok hg ht he hs
theorem tn_tf {f : FL} (σ : L2.St) (H : Hp) (Q : VK) (q : tF T W (vL f) σ H Q) : tN T W f σ H Q := by
  obtain ⟨ρ, S, r, sh, rep, e, fin⟩ := q
  unfold vL at e
  cases e1 : f ρ with
  | none => rw [e1] at e; cases e
  | some z =>
    rw [e1] at e
    refine ⟨ρ, S, z, sh, rep, e1, ?_⟩
    cases z with
    | ok ds =>
      cases e
      intro a vs S' H' k hn hs h' i
      exact fin _ _ _ (k.open hn h' hs) (.lst upd_same (i.mono (Same.opened hs)))
    | ex x =>
      cases e
      exact fin
end
end
theorem ss_lc_v {te : TE} {f : FL} (h : PS X st (tAsg te (gName i))) (w : ∀ σ H Q, tN T W f σ H Q → te σ H Q) : SS X T W st (gSet i (vL f)) := ss_set_ h fun σ H Q q => w σ H Q (tn_tf σ H Q q)
theorem ss_lc_A {te : TE} {f : FL} (h : PS X st (tAsg te (gName i))) (w : ∀ σ H Q, tN T W f σ H Q → te σ H Q) : SS X T W st (gOwnA i f) := ss_ownA_ h w
theorem ss_lc_o {te : TE} {f : FL} (h : PS X st (tAsg te (gName i))) (w : ∀ σ H Q, tN T W f σ H Q → te σ H Q) : SS X T W st (gOwn i f) := ss_own_ h w

/-! ### calls of built-ins by values -/
/-- r does what o says of a list of arguments -/
def OpC (T : TabC) (r : List V → Hp → VK → Prop) (o : List D → Option D) : Prop := ∀ (S H : Hp) (vs : List V) (ds : List D) (d : D) (Q : VK), EV.Sub S H → Iss T S vs ds → o ds = some d → (∀ v S' H', Kp S H S' H' → Is T S' v d → Q v H') → r vs H Q
def OpN (T : TabC) (r : List V → Hp → VK → Prop) (o : List D → Option (List D)) : Prop := ∀ (S H : Hp) (vs : List V) (ds es : List D) (Q : VK), EV.Sub S H → Iss T S vs ds → o ds = some es → (∀ a vs' S' H', Kp S H S' H' → H a = none → S' a = none → H' a = some (.lst vs') → Iss T S' vs' es → Q (.ref a) H') → r vs H Q
def vCall (o : List D → Option D) (fs : FL) : FE := fun ρ => RL1 (fs ρ) fun ds => okO (o ds)
def nCall (o : List D → Option (List D)) (fs : FL) : FL := fun ρ => RLL (fs ρ) fun ds => (o ds).map RL.ok
section
variable {r : List V → Hp → VK → Prop} {od : List D → Option D} {ol : List D → Option (List D)} {fs : FL} {id Ty : String}
theorem wC (h : OpC T r od) (σ : L2.St) (H : Hp) (Q : VK) (q : tF T W (vCall od fs) σ H Q) : tCB r (tA T W fs) σ H Q := by
  obtain ⟨ρ, S, z, sh, rep, e, fin⟩ := q
  refine tA_go sh rep e fin fun ds vs S1 H1 k1 i1 rep1 e1 fin1 => ?_
  obtain ⟨d, e2, rfl⟩ := okO_inv e1
  exact h S1 H1 vs ds d Q k1.sub i1 e2 fin1
theorem wN (h : OpN T r ol) (σ : L2.St) (H : Hp) (Q : VK) (q : tN T W (nCall ol fs) σ H Q) : tCB r (tA T W fs) σ H Q := by
  obtain ⟨ρ, S, z, sh, rep, e, fin⟩ := q
  refine tA_goN sh rep e fin fun ds vs S1 H1 k1 i1 rep1 e1 fin1 => ?_
  obtain ⟨es, e2, rfl⟩ := Option.map_eq_some_iff.mp e1
  exact h S1 H1 vs ds es Q k1.sub i1 e2 fin1
theorem ee_callB (hc : CallR X (.builtin id) r) (h : OpC T r od) (hm : X.mg x = none) (hv : bootBuiltins x = some (.builtin id)) (hg : Gl X x := by rfl) (ha : EA X T W (e :: es) fs) (hn : x ≠ "__name__" := by decide) (hdb : (x == ("__debug__" : Str)) = false := by decide)
    (he : starEach (e :: es) X.env = (false, eval e X.env) :: starEach es X.env := by rfl) (hpl : (backTo pos (starEach es X.env)).any (·.1) = false := by rfl) : EE X T W (.Call (.Name x p) (e :: es) [] pos) (vCall od fs) :=
  PE.weak (pe_callB hc hg hm hv ha hn hdb he hpl) (wC h)
theorem ee_callT (hc : CallR X (.type Ty) r) (h : OpC T r od) (hm : X.mg x = none) (hv : bootBuiltins x = some (.type Ty)) (hg : Gl X x := by rfl) (ha : EA X T W (e :: es) fs) (hn : x ≠ "__name__" := by decide) (hdb : (x == ("__debug__" : Str)) = false := by decide)
    (he : starEach (e :: es) X.env = (false, eval e X.env) :: starEach es X.env := by rfl) (hpl : (backTo pos (starEach es X.env)).any (·.1) = false := by rfl) : EE X T W (.Call (.Name x p) (e :: es) [] pos) (vCall od fs) :=
  PE.weak (pe_callTy hc hg hm hv ha hn hdb he hpl) (wC h)
theorem en_callB (hc : CallR X (.builtin id) r) (h : OpN T r ol) (hm : X.mg x = none) (hv : bootBuiltins x = some (.builtin id)) (hg : Gl X x := by rfl) (ha : EA X T W (e :: es) fs) (hn : x ≠ "__name__" := by decide) (hdb : (x == ("__debug__" : Str)) = false := by decide)
    (he : starEach (e :: es) X.env = (false, eval e X.env) :: starEach es X.env := by rfl) (hpl : (backTo pos (starEach es X.env)).any (·.1) = false := by rfl) : EN X T W (.Call (.Name x p) (e :: es) [] pos) (nCall ol fs) :=
  PE.weak (pe_callB hc hg hm hv ha hn hdb he hpl) (wN h)
theorem en_callT (hc : CallR X (.type Ty) r) (h : OpN T r ol) (hm : X.mg x = none) (hv : bootBuiltins x = some (.type Ty)) (hg : Gl X x := by rfl) (ha : EA X T W (e :: es) fs) (hn : x ≠ "__name__" := by decide) (hdb : (x == ("__debug__" : Str)) = false := by decide)
    (he : starEach (e :: es) X.env = (false, eval e X.env) :: starEach es X.env := by rfl) (hpl : (backTo pos (starEach es X.env)).any (·.1) = false := by rfl) : EN X T W (.Call (.Name x p) (e :: es) [] pos) (nCall ol fs) :=
  PE.weak (pe_callTy hc hg hm hv ha hn hdb he hpl) (wN h)
end
def lenD : List D → Option D
  | [.lst xs] => some (.int xs.length)
  | [.tup xs] => some (.int xs.length)
  | [.scr xs] => some (.int xs.length)
  | _ => none
theorem o_len {K : PySem.W.Frag} (hK : K = T.K) : OpC T (fun xs H Q => ∃ p ys, xs = [.ref p] ∧ (SqL K H p ys ∨ SqT K H p ys) ∧ Q (.int ys.length) H) lenD := by
  subst hK
  intro S H vs ds d Q sh is e fin
  unfold lenD at e
  split at e <;> cases e
  · cases is with
    | cons h t =>
      cases t
      cases h with
      | lst h s => exact ⟨_, _, rfl, .inl (SqL.of (sh.same _ _ h)), by rw [s.length]; exact fin _ S H (Kp.refl sh) (.int _)⟩
  · cases is with
    | cons h t =>
      cases t
      cases h with
      | tup h s => exact ⟨_, _, rfl, .inr (Same.seqT sh.same h), by rw [s.length]; exact fin _ S H (Kp.refl sh) (.int _)⟩
  · cases is with
    | cons h t =>
      cases t
      cases h with
      | scr h l => exact ⟨_, _, rfl, .inl (sh.same.seq h), by rw [List.length_map]; exact fin _ S H (Kp.refl sh) (.int _)⟩
def intD : List D → Option D
  | [.int i] => some (.int i)
  | [.bl b] => some (.int (if b then 1 else 0))
  | _ => none
theorem o_int : OpC T (fun xs H Q => (∃ i, xs = [.int i] ∧ Q (.int i) H) ∨ ∃ k, xs = [.bl k] ∧ Q (.int (if k then 1 else 0)) H) intD := by
  intro S H vs ds d Q sh is e fin
  unfold intD at e
  split at e <;> cases e
  · cases is with
    | cons h t =>
      cases t
      cases h
      exact .inl ⟨_, rfl, fin _ S H (Kp.refl sh) (.int _)⟩
  · cases is with
    | cons h t =>
      cases t
      cases h
      exact .inr ⟨_, rfl, fin _ S H (Kp.refl sh) (.int _)⟩
def boolD : List D → Option D
  | [.int i] => some (.bl (i != 0))
  | [.bl b] => some (.bl b)
  | _ => none
theorem o_bool : OpC T (fun xs H Q => (∃ i, xs = [.int i] ∧ Q (.bl (i != 0)) H) ∨ ∃ k, xs = [.bl k] ∧ Q (.bl k) H) boolD := by
  intro S H vs ds d Q sh is e fin
  unfold boolD at e
  split at e <;> cases e
  · cases is with
    | cons h t =>
      cases t
      cases h
      exact .inl ⟨_, rfl, fin _ S H (Kp.refl sh) (.bl _)⟩
  · cases is with
    | cons h t =>
      cases t
      cases h
      exact .inr ⟨_, rfl, fin _ S H (Kp.refl sh) (.bl _)⟩
def absD : List D → Option D
  | [.int i] => some (.int (if i < 0 then -i else i))
  | _ => none
def minD : List D → Option D
  | [.int i, .int j] => some (.int (if j < i then j else i))
  | _ => none
def maxD : List D → Option D
  | [.int i, .int j] => some (.int (if j > i then j else i))
  | _ => none
theorem o_abs : OpC T (fun xs H Q => ∃ i, xs = [.int i] ∧ Q (.int (if i < 0 then -i else i)) H) absD := by
  intro S H vs ds d Q sh is e fin
  unfold absD at e
  split at e <;> cases e
  cases is with
  | cons h t =>
    cases t
    cases h
    exact ⟨_, rfl, fin _ S H (Kp.refl sh) (.int _)⟩
theorem o_min : OpC T (fun xs H Q => ∃ i j, xs = [.int i, .int j] ∧ Q (.int (if j < i then j else i)) H) minD := by
  intro S H vs ds d Q sh is e fin
  unfold minD at e
  split at e <;> cases e
  cases is with
  | cons h t =>
    cases t with
    | cons h2 t =>
      cases t
      cases h
      cases h2
      exact ⟨_, _, rfl, fin _ S H (Kp.refl sh) (.int _)⟩
theorem o_max : OpC T (fun xs H Q => ∃ i j, xs = [.int i, .int j] ∧ Q (.int (if j > i then j else i)) H) maxD := by
  intro S H vs ds d Q sh is e fin
  unfold maxD at e
  split at e <;> cases e
  cases is with
  | cons h t =>
    cases t with
    | cons h2 t =>
      cases t
      cases h
      cases h2
      exact ⟨_, _, rfl, fin _ S H (Kp.refl sh) (.int _)⟩
def tupleD : List D → Option D
  | [.lst xs] => some (.tup xs)
  | [.tup xs] => some (.tup xs)
  | _ => none
theorem o_tuple {K : PySem.W.Frag} (hK : K = T.K) : OpC T (fun xs H Q => ∃ p ys, xs = [.ref p] ∧ ((SqL K H p ys ∧ ∀ l, H l = none → Q (.ref l) (L2.upd H l (.tup ys))) ∨ (SqT K H p ys ∧ Q (.ref p) H))) tupleD := by
  subst hK
  intro S H vs ds d Q sh is e fin
  unfold tupleD at e
  split at e <;> cases e
  · cases is with
    | cons h t =>
      cases t
      cases h with
      | @lst a ys _ h s =>
        refine ⟨_, _, rfl, .inl ⟨SqL.of (sh.same _ _ h), fun l hl => ?_⟩⟩
        have k := Kp.new (o := .tup ys) sh hl
        exact fin _ _ _ k (.tup (SqT.of upd_same) (s.mono k.s))
  · cases is with
    | cons h t =>
      cases t
      cases h with
      | tup h s => exact ⟨_, _, rfl, .inr ⟨Same.seqT sh.same h, fin _ S H (Kp.refl sh) (.tup h s)⟩⟩
def listD : List D → Option (List D)
  | [.lst xs] => some xs
  | [.tup xs] => some xs
  | [.scr xs] => some (xs.map D.int)
  | _ => none
theorem o_list {K : PySem.W.Frag} (hK : K = T.K) : OpN T (fun xs H Q => ∃ p ys, xs = [.ref p] ∧ (SqL K H p ys ∨ SqT K H p ys) ∧ ∀ l, H l = none → Q (.ref l) (L2.upd H l (.lst ys))) listD := by
  subst hK
  intro S H vs ds es Q sh is e fin
  unfold listD at e
  split at e <;> cases e
  · cases is with
    | cons h t =>
      cases t
      cases h with
      | lst h s => exact ⟨_, _, rfl, .inl (SqL.of (sh.same _ _ h)), fun l hl => fin l _ S _ (Kp.hide sh hl rfl) hl (sh.same.free hl) upd_same s⟩
  · cases is with
    | cons h t =>
      cases t
      cases h with
      | tup h s => exact ⟨_, _, rfl, .inr (Same.seqT sh.same h), fun l hl => fin l _ S _ (Kp.hide sh hl rfl) hl (sh.same.free hl) upd_same s⟩
  · cases is with
    | cons h t =>
      cases t
      cases h with
      | scr h l => exact ⟨_, _, rfl, .inl (sh.same.seq h), fun l hl => fin l _ S _ (Kp.hide sh hl rfl) hl (sh.same.free hl) upd_same (Iss.ints _)⟩
/-- all, any, sum of a list -/
def blsD : List D → Option (List Bool)
  | [] => some []
  | .bl b :: r => (blsD r).map (b :: ·)
  | _ => none
def intsD : List D → Option (List Int)
  | [] => some []
  | .int b :: r => (intsD r).map (b :: ·)
  | _ => none
theorem bls_iss {H : Hp} : ∀ {vs : List V} {ds : List D} {bs : List Bool}, Iss T H vs ds → blsD ds = some bs → vs = bs.map V.bl
  | _, _, _, .nil, h => by cases h; rfl
  | _, _, bs, .cons (d := d) h hs, e => by
    cases d <;> first | (cases e; done) | skip
    obtain ⟨r, e1, rfl⟩ := Option.map_eq_some_iff.mp (by simpa [blsD] using e)
    cases h
    rw [bls_iss hs e1]
    rfl
theorem ints_iss {H : Hp} : ∀ {vs : List V} {ds : List D} {bs : List Int}, Iss T H vs ds → intsD ds = some bs → vs = bs.map V.int
  | _, _, _, .nil, h => by cases h; rfl
  | _, _, bs, .cons (d := d) h hs, e => by
    cases d <;> first | (cases e; done) | skip
    obtain ⟨r, e1, rfl⟩ := Option.map_eq_some_iff.mp (by simpa [intsD] using e)
    cases h
    rw [ints_iss hs e1]
    rfl
def allD : List D → Option D
  | [.lst xs] => (blsD xs).map fun bs => .bl (bs.all id)
  | _ => none
def anyD : List D → Option D
  | [.lst xs] => (blsD xs).map fun bs => .bl (bs.any id)
  | _ => none
def sumD : List D → Option D
  | [.lst xs] => (intsD xs).map fun bs => .int bs.sum
  | _ => none
theorem o_all {K : PySem.W.Frag} (hK : K = T.K) : OpC T (rAll K) allD := by
  subst hK
  intro S H vs ds d Q sh is e fin
  unfold allD at e
  split at e <;> try cases e
  obtain ⟨bs, e1, rfl⟩ := Option.map_eq_some_iff.mp e
  cases is with
  | cons h t =>
    cases t
    cases h with
    | lst h s =>
      rw [bls_iss s e1] at h
      exact ⟨_, bs, rfl, SqL.of (sh.same _ _ h), fin _ S H (Kp.refl sh) (.bl _)⟩
theorem o_any {K : PySem.W.Frag} (hK : K = T.K) : OpC T (rAny K) anyD := by
  subst hK
  intro S H vs ds d Q sh is e fin
  unfold anyD at e
  split at e <;> try cases e
  obtain ⟨bs, e1, rfl⟩ := Option.map_eq_some_iff.mp e
  cases is with
  | cons h t =>
    cases t
    cases h with
    | lst h s =>
      rw [bls_iss s e1] at h
      exact ⟨_, bs, rfl, SqL.of (sh.same _ _ h), fin _ S H (Kp.refl sh) (.bl _)⟩
theorem o_sum {K : PySem.W.Frag} (hK : K = T.K) : OpC T (rSum K) sumD := by
  subst hK
  intro S H vs ds d Q sh is e fin
  unfold sumD at e
  split at e <;> try cases e
  obtain ⟨bs, e1, rfl⟩ := Option.map_eq_some_iff.mp e
  cases is with
  | cons h t =>
    cases t
    cases h with
    | lst h s =>
      rw [ints_iss s e1] at h
      exact ⟨_, bs, rfl, SqL.of (sh.same _ _ h), fin _ S H (Kp.refl sh) (.int _)⟩
end
end EV
end

section
set_option maxHeartbeats 4000000
/-! EV8: defs, calls, own classes. -/
namespace EV
open PySem L2

/-! ### what a def does, as a function of data -/
def semF (n : Nat) (g : FS) (ds : List D) : Option R := match g (ds.map Sl.v ++ List.replicate (n - ds.length) Sl.no) with
  | some (.rt d) => some (.ok d)
  | some (.nx _) => some (.ok .non)
  | some (.rs x _) => some (.ex x)
  | some (.rl ds) => some (.ok (.lst ds))
  | _ => none
def FEnd (T : TabC) (S H : Hp) (Q : VK) (E : XK) : R → Prop
  | .ok d => ∀ v S' H', Kp S H S' H' → Is T S' v d → Q v H'
  | .ex x => ∀ S' H' cls d, Kp S H S' H' → XIs T S' x cls d → E cls d H'
def spF (T : TabC) (n : Nat) (sem : List D → Option R) : Sp := fun vs H Q E => ∃ S ds r, EV.Sub S H ∧ Iss T S vs ds ∧ vs.length = n ∧ sem ds = some r ∧ FEnd T S H Q E r
theorem Stp.kp0 {S H S' H' : Hp} {L' : Nat → Option Addr} (h : Stp S H (fun _ => none) S' H' L') (sh : EV.Sub S' H') : Kp S H S' H' :=
  ⟨h.s, fun a o e => h.fr a o e (fun _ z => (nomatch z)), sh, fun a h1 h2 => h.hid a h1 h2 (fun _ z => (nomatch z))⟩
theorem rep_start {T : Tab} {S H : Hp} {vs : List V} {ds : List D} {N : List Str} (sh : EV.Sub S H) (h : Iss T S vs ds) : Rep T (ds.map Sl.v ++ List.replicate (N.length - ds.length) Sl.no) (L2.start N vs) S H (fun _ => none) := by
  have nov : ∀ (i : Nat) (s : Sl), (ds.map Sl.v ++ List.replicate (N.length - ds.length) Sl.no)[i]? = some s → (∃ d, ds[i]? = some d ∧ s = .v d) ∨ s = .no := fun i s e => by
    by_cases hi : i < ds.length
    · rw [List.getElem?_append_left (by simpa using hi), List.getElem?_map] at e
      obtain ⟨d, e1, e2⟩ := Option.map_eq_some_iff.mp e
      exact .inl ⟨d, e1, e2.symm⟩
    · rw [List.getElem?_append_right (by simpa using hi)] at e
      exact .inr ((List.mem_replicate.mp (List.mem_of_getElem? e)).2)
  refine ⟨sh, ?_, fun i d e => ?_, fun i ds' e => ?_, fun i c ds' e => ?_, fun _ _ _ z => (nomatch z), fun _ _ z => (nomatch z), fun i x e => (by rcases nov i _ e with ⟨d', e1, e2⟩ | e2 <;> cases e2)⟩
  · unfold L2.start
    simp [h.length]
  · rcases nov i _ e with ⟨d', e1, e2⟩ | e2
    · cases e2
      obtain ⟨v, h1, h2⟩ := h.get' e1
      refine ⟨v, ?_, h2⟩
      have hi := (List.getElem?_eq_some_iff.mp h1).1
      unfold L2.start
      rw [List.getElem?_append_left (by simpa using hi), List.getElem?_map, h1]
      rfl
    · cases e2
  · rcases nov i _ e with ⟨d', e1, e2⟩ | e2 <;> cases e2
  · rcases nov i _ e with ⟨d', e1, e2⟩ | e2 <;> cases e2
section
variable {P : Program} {w : World} {K : PySem.W.Frag} {mg : Str → Option Value} {base : Heap} {x qual : Str} {params : Arguments} {body : List Stmt} {scope : Scope} {dvs : List V} {kws : List (Str × V)} {f : Addr} {fd : FuncData} {N ps : List Str} {k : Nat} {T : Tab} {g : FS}
/-- THE RULE of a def -/
theorem fn_ev (F : FunD K x qual params body scope dvs kws f fd) (Sc : FnScope N ps scope)
    (hb : ∀ (cdv : Value) (A : Around) (outer : List PySem.Env) (s : Shared) (H : Hp) (E : XK), Room k (A.deeper (PyProof.Rows.envOfC qual scope s.heap.objs.size f cdv)) →
      SSs (cxOf (L2N.CX P w) P w K mg base N qual scope f cdv A outer s H E) T (fun cls d _ H' => E cls d H') body g) : FnOk P w K mg base (L2N.CX P w) (k + 1) f fd ps (spF T ps.length (semF N.length g)) := by
  refine F.ok Sc (fun vs H Q E h => ?_) fun cdv A outer s H vs Q E hr h => ⟨_, hb cdv A outer s H E hr, ?_⟩
  · obtain ⟨S, ds, r, _, _, hl, _⟩ := h
    exact hl
  · obtain ⟨S, ds, r, sh, hi, hl, e, fin⟩ := h
    unfold semF at e
    split at e <;> cases e
    · rename_i d hd
      exact ⟨_, S, _, _, rep_start sh hi, hd, fun v S' H' L' sh' st i => fin v S' H' (st.kp0 sh') i⟩
    · rename_i ρ hd
      exact ⟨_, S, _, _, rep_start sh hi, hd, fun σ' S' H' L' r st => fin .non S' H' (st.kp0 r.sub) .non⟩
    · rename_i x ρ hd
      exact ⟨_, S, _, _, rep_start sh hi, hd, fun σ' S' H' L' cls d r st i => fin S' H' cls d (st.kp0 r.sub) i⟩
    · rename_i es hd
      refine ⟨_, S, _, _, rep_start sh hi, hd, fun a us S' H' L' sh' st hy h1 h2 i => ?_⟩
      have hn : H a = none := by
        rcases hy with hy | ⟨_, hy⟩
        · exact hy
        · cases hy
      exact fin (.ref a) _ H' ((st.kp0 sh').open hn h2 h1) (.lst upd_same (i.mono (Same.opened h1)))
/-- a def that gives a new list -/
def semL (n : Nat) (g : FS) (ds : List D) : Option RL := match g (ds.map Sl.v ++ List.replicate (n - ds.length) Sl.no) with
  | some (.rl es) => some (.ok es)
  | some (.rs x _) => some (.ex x)
  | _ => none
def LEnd (T : TabC) (S H : Hp) (Q : VK) (E : XK) : RL → Prop
  | .ok es => ∀ a vs S' H', Kp S H S' H' → H a = none → S' a = none → H' a = some (.lst vs) → Iss T S' vs es → Q (.ref a) H'
  | .ex x => ∀ S' H' cls d, Kp S H S' H' → XIs T S' x cls d → E cls d H'
def spL (T : TabC) (n : Nat) (sem : List D → Option RL) : Sp := fun vs H Q E => ∃ S ds r, EV.Sub S H ∧ Iss T S vs ds ∧ vs.length = n ∧ sem ds = some r ∧ LEnd T S H Q E r
theorem fn_evL (F : FunD K x qual params body scope dvs kws f fd) (Sc : FnScope N ps scope)
    (hb : ∀ (cdv : Value) (A : Around) (outer : List PySem.Env) (s : Shared) (H : Hp) (E : XK), Room k (A.deeper (PyProof.Rows.envOfC qual scope s.heap.objs.size f cdv)) →
      SSs (cxOf (L2N.CX P w) P w K mg base N qual scope f cdv A outer s H E) T (fun cls d _ H' => E cls d H') body g) : FnOk P w K mg base (L2N.CX P w) (k + 1) f fd ps (spL T ps.length (semL N.length g)) := by
  refine F.ok Sc (fun vs H Q E h => ?_) fun cdv A outer s H vs Q E hr h => ⟨_, hb cdv A outer s H E hr, ?_⟩
  · obtain ⟨S, ds, r, _, _, hl, _⟩ := h
    exact hl
  · obtain ⟨S, ds, r, sh, hi, hl, e, fin⟩ := h
    unfold semL at e
    split at e <;> cases e
    · rename_i es hd
      refine ⟨_, S, _, _, rep_start sh hi, hd, fun a us S' H' L' sh' st hy h1 h2 i => ?_⟩
      have hn : H a = none := by
        rcases hy with hy | ⟨_, hy⟩
        · exact hy
        · cases hy
      exact fin a us S' H' (st.kp0 sh') hn h1 h2 i
    · rename_i x ρ hd
      exact ⟨_, S, _, _, rep_start sh hi, hd, fun σ' S' H' L' cls d r st i => fin S' H' cls d (st.kp0 r.sub) i⟩
end

/-! ### how arguments are bound: written ones, keywords, defaults, put in the parameters' order -/
def pick {α : Type} (perm : List Nat) (xs : List α) : List α := perm.filterMap fun j => xs[j]?
theorem Vals.pick {xs : List V} {us : List Value} (h : Vals xs us) : ∀ perm : List Nat, Vals (EV.pick perm xs) (EV.pick perm us)
  | [] => .nil
  | j :: r => by
    unfold EV.pick
    rw [List.filterMap_cons, List.filterMap_cons]
    cases e : xs[j]? with
    | none =>
      rw [h.none_of e]
      exact Vals.pick h r
    | some x =>
      obtain ⟨u, e2, ru⟩ := h.get e
      rw [e2]
      exact .cons ru (Vals.pick h r)
theorem Iss.pick {T : Tab} {H : Hp} {xs : List V} {us : List D} (h : Iss T H xs us) : ∀ perm : List Nat, Iss T H (EV.pick perm xs) (EV.pick perm us)
  | [] => .nil
  | j :: r => by
    unfold EV.pick
    rw [List.filterMap_cons, List.filterMap_cons]
    cases e : xs[j]? with
    | none =>
      have : us[j]? = none := by
        have h1 := h.length
        have h2 : xs.length ≤ j := List.getElem?_eq_none_iff.mp e
        exact List.getElem?_eq_none_iff.mpr (by omega)
      rw [this]
      exact Iss.pick h r
    | some x =>
      obtain ⟨u, e2, ru⟩ := h.get e
      rw [e2]
      exact .cons ru (Iss.pick h r)
structure ArgB (K : PySem.W.Frag) (fd : FuncData) (ps : List Str) (n : Nat) (ks : List Str) (dvs : List V) (perm : List Nat) : Prop where
  to : ∃ ds : List Value, Vals dvs ds ∧ ∀ (s : Shared) (us ws : List Value), K.In s.heap → us.length = n → ws.length = ks.length → BindsTo s fd ⟨us, ks.zip ws⟩ (ps.zip (pick perm (us ++ ws ++ ds)))
/-- no default is used -/
theorem ArgB.plain {K : PySem.W.Frag} {x qual : Str} {params : Arguments} {body : List Stmt} {scope : Scope} {f : Addr} {fd : FuncData} {ps ks : List Str} {n : Nat} {perm : List Nat} {dvs : List V} {kws : List (Str × V)} (F : FunD K x qual params body scope dvs kws f fd)
    (h : ∀ (dV kV doc pm : Value) (an : Option Addr) (cdv ct : Value) (us ws : List Value), us.length = n → ws.length = ks.length → bindArgs (PySem.W.fnOf x qual params body scope dV kV doc pm an cdv ct) ⟨us, ks.zip ws⟩ = pure (ps.zip (pick perm (us ++ ws ++ [])))) : ArgB K fd ps n ks [] perm := by
  obtain ⟨oc, od, dV, kV, doc, pm, an, cdv, ct, osl, rfl, lk, hcd, hD, hK⟩ := F.ex
  exact ⟨[], .nil, fun s us ws _ l1 l2 => BindsTo.of_eq (h dV kV doc pm an cdv ct us ws l1 l2)⟩
/-- the def's defaults fill up -/
theorem ArgB.dflt {K : PySem.W.Frag} {x qual : Str} {params : Arguments} {body : List Stmt} {scope : Scope} {f : Addr} {fd : FuncData} {ps ks : List Str} {n : Nat} {perm : List Nat} {dvs : List V} {kws : List (Str × V)} (F : FunD K x qual params body scope dvs kws f fd) (hd : dvs ≠ [])
    (h : ∀ (T : Addr) (kV doc pm : Value) (an : Option Addr) (cdv ct : Value) (us its ws : List Value), us.length = n → its.length = dvs.length → ws.length = ks.length →
      ∃ k, bindArgs (PySem.W.fnOf x qual params body scope (.ref T) kV doc pm an cdv ct) ⟨us, ks.zip ws⟩ = seqItems? (.ref T) >>= k ∧ k (some its.toArray) = pure (ps.zip (pick perm (us ++ ws ++ its)))) : ArgB K fd ps n ks dvs perm := by
  obtain ⟨oc, od, dV, kV, doc, pm, an, cdv, ct, osl, rfl, lk, hcd, hD, hK⟩ := F.ex
  rcases hD with ⟨e, _⟩ | ⟨_, Ta, o, its, m, rfl, lT, oT, rT⟩
  · exact absurd e hd
  · refine ⟨its, rT, fun s us ws X l1 l2 => ?_⟩
    obtain ⟨k, e1, e2⟩ := h Ta kV doc pm an cdv ct us its ws l1 rT.length.symm l2
    refine BindsTo.of_looks fun M => ?_
    rw [e1]
    exact looks_items X lT oT (.of_pure e2)

section
variable {X : Cx} {T : Tab} {W : WX} {k n : Nat} {f C : Addr} {fd : FuncData} {ps ks : List Str} {sp : Sp} {x m : Str} {p pos apos : Pos} {e o : Expr} {es : List Expr} {kws : List Keyword} {dvs : List V} {dds : List D} {perm : List Nat} {sem : List D → Option R} {fs fk : FL} {fo : FE}
theorem run_P {pins : List (Addr × Obj)} {σ : L2.St} {H : Hp} {s : Shared} {Q : VK} {us ws : List Value} {vs zs : List V} (F : FnOk X.prog X.w X.K X.mg X.base (L2N.CX X.prog X.w) k f fd ps sp) (hr : Room k X.A) (hb : ArgB X.K fd ps n ks dvs perm) (tk : L2N.Takes X W)
    (I : Inv X pins σ H s) (r : Vals vs us) (rz : Vals zs ws) (l1 : vs.length = n) (l2 : zs.length = ks.length) (h : sp (pick perm (vs ++ zs ++ dvs)) H Q (WE W σ)) : wpAny (model X.prog X.w) X.A (call (.ref f) us (ks.zip ws)) (EP X pins σ Q) X.xe s := by
  obtain ⟨ds, rd, to⟩ := hb.to
  have r2 := Vals.pick ((r.append rz).append rd) perm
  refine wpAny_call (codeAny_mono (F.run X.A X.stack s H ⟨us, ks.zip ws⟩ _ _ Q (WE W σ) hr I.env0 (to s us ws I.kIn (r.length.symm.trans l1) (rz.length.symm.trans l2)) r2 h) fun r s' hq => ?_)
  cases r with
  | error e => exact L2N.passAt tk σ pins H s e s' I hq
  | ok fl =>
    cases fl with
    | ret u => exact I.after hq
    | next => exact False.elim hq
    | brk => exact False.elim hq
    | cont => exact False.elim hq
/-- a call's reading: the arguments, then the promise -/
def tP (n m : Nat) (perm : List Nat) (sp : Sp) (dvs : List V) (E : L2.St → XK) (t tk : TA) : TE := fun σ H Q => t σ H fun vs H1 => tk σ H1 fun zs H2 => vs.length = n ∧ zs.length = m ∧ sp (pick perm (vs ++ zs ++ dvs)) H2 Q (E σ)
theorem pe_callP {t tkw : TA} (F : FnOk X.prog X.w X.K X.mg X.base (L2N.CX X.prog X.w) k f fd ps sp) (hr : Room k X.A) (hm : X.mg x = some (.ref f)) (hk : PySem.W.keepIn X.K (.ref f) = true) (hb : ArgB X.K fd ps n ks dvs perm) (tk : L2N.Takes X W)
    (ha : PA X (e :: es) t) (hkw : PK X kws tkw) (hg : Gl X x := by rfl) (hall : (backToKw pos (keywordEach kws X.env)).all (·.1.isSome) = true := by rfl) (hks : (backToKw pos (keywordEach kws X.env)).filterMap (·.1) = ks := by rfl)
    (hdb : (x == ("__debug__" : Str)) = false := by decide) (he : starEach (e :: es) X.env = (false, eval e X.env) :: starEach es X.env := by rfl)
    (hpl : ((backTo pos (starEach (e :: es) X.env)).any (·.1) || (backToKw pos (keywordEach kws X.env)).any (·.1.isNone)) = false := by rfl) :
    PE X (.Call (.Name x p) (e :: es) kws pos) (tP n ks.length perm sp dvs (WE W) t tkw) := by
  refine ⟨fun pins s σ H Q I h => ?_⟩
  refine wpAny_Call_Name_kw (ld_glob I hg hm ?_ hdb)
  refine PySem.W.callWith_KW (h₀ := X.base) I.ok.mod.kin hk hall (thn (ha.run pos pins s σ H _ I h) fun us s1 ⟨vs, H1, I1, r, q⟩ => ?_) hpl he
  refine thn (hkw.run pos pins s1 σ H1 _ I1 q) fun ws s2 ⟨zs, H2, I2, rz, l1, l2, q2⟩ => ⟨I2.kIn, ?_⟩
  rw [hks]
  exact run_P F hr hb tk I2 r rz l1 l2 q2
theorem pe_callP0 {tkw : TA} (F : FnOk X.prog X.w X.K X.mg X.base (L2N.CX X.prog X.w) k f fd ps sp) (hr : Room k X.A) (hm : X.mg x = some (.ref f)) (hk : PySem.W.keepIn X.K (.ref f) = true) (hb : ArgB X.K fd ps 0 ks dvs perm) (tk : L2N.Takes X W)
    (hkw : PK X kws tkw) (hg : Gl X x := by rfl) (hall : (backToKw pos (keywordEach kws X.env)).all (·.1.isSome) = true := by rfl) (hks : (backToKw pos (keywordEach kws X.env)).filterMap (·.1) = ks := by rfl)
    (hdb : (x == ("__debug__" : Str)) = false := by decide) (hpl : ((backTo pos (starEach [] X.env)).any (·.1) || (backToKw pos (keywordEach kws X.env)).any (·.1.isNone)) = false := by rfl) :
    PE X (.Call (.Name x p) [] kws pos) (tP 0 ks.length perm sp dvs (WE W) tNil tkw) := by
  refine ⟨fun pins s σ H Q I h => ?_⟩
  refine wpAny_Call_Name_kw (ld_glob I hg hm ?_ hdb)
  refine PySem.W.callWith_KW0 (h₀ := X.base) I.ok.mod.kin hk hall (thn (hkw.run pos pins s σ H _ I h) fun ws s2 ⟨zs, H2, I2, rz, l1, l2, q2⟩ => ⟨I2.kIn, ?_⟩) hpl
  rw [hks]
  exact run_P F hr hb tk I2 .nil rz rfl l2 q2
/-- keywords' values -/
def EK (X : Cx) (T : Tab) (W : WX) (kws : List Keyword) (f : FL) : Prop := PK X kws (tA T W f)
theorem PK.weak {kws : List Keyword} {t u : TA} (h : PK X kws t) (w : ∀ σ H Q, u σ H Q → t σ H Q) : PK X kws u := ⟨fun po pins s σ H Q I q => h.run po pins s σ H Q I (w σ H Q q)⟩
theorem ek_nil : EK X T W [] aNil := PK.weak pk_nil fun σ H Q q => by
  obtain ⟨ρ, S, r, sh, rep, e, fin⟩ := q
  cases e
  exact fin [] S H (Kp.refl sh) .nil
theorem ek_cons {nm : Option Str} {kpos : Pos} {fa : FE} {fr : FL} (ha : EE X T W e fa) (hr : EK X T W kws fr) : EK X T W (⟨nm, e, kpos⟩ :: kws) (aCons fa fr) := by
  refine PK.weak (pk_cons ha hr) fun σ H Q q => ?_
  obtain ⟨ρ, S, r, sh, rep, e, fin⟩ := q
  refine tF_goL sh rep e fin fun d v S1 H1 k1 i1 rep1 e1 fin1 => ?_
  refine tA_goL k1.sub rep1 e1 fin1 fun ds vs S2 H2 k2 i2 rep2 e2 fin2 => ?_
  cases e2
  exact fin2 _ S2 H2 (Kp.refl k2.sub) (.cons (i1.mono k2.s) i2)
theorem lend {S H : Hp} {σ : L2.St} {Q : VK} {r : RL} (h : RNEnd T W S H σ Q r) : LEnd T S H Q (WE W σ) r := by
  cases r with
  | ok d => exact h
  | ex x => exact h
/-- a call, by data -/
def vCallP (n m : Nat) (perm : List Nat) (sem : List D → Option R) (dds : List D) (fs fk : FL) : FE := fun ρ => RL1 (fs ρ) fun ds => RL1 (fk ρ) fun es => if ds.length = n ∧ es.length = m then sem (pick perm (ds ++ es ++ dds)) else none
theorem fend {S H : Hp} {σ : L2.St} {Q : VK} {r : R} (h : REnd T W S H σ Q r) : FEnd T S H Q (WE W σ) r := by
  cases r with
  | ok d => exact h
  | ex x => exact h
theorem wP {np : Nat} (hp : perm.length = np) (hdd : ∀ S, Iss T S dvs dds) (σ : L2.St) (H : Hp) (Q : VK) {m : Nat} (hmx : ∀ j ∈ perm, j < n + m + dvs.length) (q : tF T W (vCallP n m perm sem dds fs fk) σ H Q) : tP n m perm (spF T np sem) dvs (WE W) (tA T W fs) (tA T W fk) σ H Q := by
  obtain ⟨ρ, S, r, sh, rep, e, fin⟩ := q
  refine tA_go sh rep e fin fun ds vs S1 H1 k1 i1 rep1 e1 fin1 => ?_
  refine tA_go k1.sub rep1 e1 fin1 fun es zs S2 H2 k2 i2 rep2 e2 fin2 => ?_
  split at e2 <;> try cases e2
  rename_i hl
  have i12 := (((i1.mono k2.s).append i2).append (hdd S2)).pick perm
  refine ⟨i1.length.trans hl.1, i2.length.trans hl.2, S2, _, r, k2.sub, i12, ?_, e2, fend fin2⟩
  have : ∀ (l : List Nat) (xs : List V), (∀ j ∈ l, j < xs.length) → (pick l xs).length = l.length := fun l xs => by
    induction l with
    | nil => intro _; rfl
    | cons j r ih =>
      intro h
      unfold pick
      rw [List.filterMap_cons, List.getElem?_eq_getElem (h j List.mem_cons_self)]
      show (pick r xs).length + 1 = _
      rw [ih fun j hj => h j (List.mem_cons_of_mem _ hj)]
      rfl
  rw [this perm _ fun j hj => ?_, hp]
  rw [List.length_append, List.length_append, i1.length, i2.length, hl.1, hl.2]
  exact hmx j hj
theorem ee_callP {np mk : Nat} (F : FnOk X.prog X.w X.K X.mg X.base (L2N.CX X.prog X.w) k f fd ps (spF T np sem)) (hr : Room k X.A) (hm : X.mg x = some (.ref f)) (hk : PySem.W.keepIn X.K (.ref f) = true) (hb : ArgB X.K fd ps n ks dvs perm) (tk : L2N.Takes X W)
    (hp : perm.length = np) (hmx : ∀ j ∈ perm, j < n + ks.length + dvs.length) (hdd : ∀ S, Iss T S dvs dds) (ha : EA X T W (e :: es) fs) (hkw : EK X T W kws fk) (hg : Gl X x := by rfl) (hall : (backToKw pos (keywordEach kws X.env)).all (·.1.isSome) = true := by rfl) (hks : (backToKw pos (keywordEach kws X.env)).filterMap (·.1) = ks := by rfl)
    (hdb : (x == ("__debug__" : Str)) = false := by decide) (he : starEach (e :: es) X.env = (false, eval e X.env) :: starEach es X.env := by rfl)
    (hpl : ((backTo pos (starEach (e :: es) X.env)).any (·.1) || (backToKw pos (keywordEach kws X.env)).any (·.1.isNone)) = false := by rfl) (hkl : ks.length = mk := by rfl) :
    EE X T W (.Call (.Name x p) (e :: es) kws pos) (vCallP n mk perm sem dds fs fk) := by
  subst hkl
  exact PE.weak (pe_callP F hr hm hk hb tk ha hkw hg hall hks hdb he hpl) fun σ H Q q => wP hp hdd σ H Q hmx q
theorem ee_callP0 {np mk : Nat} (F : FnOk X.prog X.w X.K X.mg X.base (L2N.CX X.prog X.w) k f fd ps (spF T np sem)) (hr : Room k X.A) (hm : X.mg x = some (.ref f)) (hk : PySem.W.keepIn X.K (.ref f) = true) (hb : ArgB X.K fd ps 0 ks dvs perm) (tk : L2N.Takes X W)
    (hp : perm.length = np) (hmx : ∀ j ∈ perm, j < 0 + ks.length + dvs.length) (hdd : ∀ S, Iss T S dvs dds) (hkw : EK X T W kws fk) (hg : Gl X x := by rfl) (hall : (backToKw pos (keywordEach kws X.env)).all (·.1.isSome) = true := by rfl) (hks : (backToKw pos (keywordEach kws X.env)).filterMap (·.1) = ks := by rfl)
    (hdb : (x == ("__debug__" : Str)) = false := by decide) (hpl : ((backTo pos (starEach [] X.env)).any (·.1) || (backToKw pos (keywordEach kws X.env)).any (·.1.isNone)) = false := by rfl) (hkl : ks.length = mk := by rfl) :
    EE X T W (.Call (.Name x p) [] kws pos) (vCallP 0 mk perm sem dds aNil fk) := by
  subst hkl
  exact PE.weak (pe_callP0 F hr hm hk hb tk hkw hg hall hks hdb hpl) fun σ H Q q => by
    have z := wP (n := 0) hp hdd σ H Q hmx q
    obtain ⟨ρ, S, r, sh, rep, e, fin⟩ := z
    cases e
    exact fin [] S H (Kp.refl sh) .nil
/-- a call of a def that gives a new list -/
def nCallP (n m : Nat) (perm : List Nat) (sem : List D → Option RL) (dds : List D) (fs fk : FL) : FL := fun ρ => RLL (fs ρ) fun ds => RLL (fk ρ) fun es => if ds.length = n ∧ es.length = m then sem (pick perm (ds ++ es ++ dds)) else none
theorem wPL {np : Nat} {sem : List D → Option RL} (hp : perm.length = np) (hdd : ∀ S, Iss T S dvs dds) (σ : L2.St) (H : Hp) (Q : VK) {m : Nat} (hmx : ∀ j ∈ perm, j < n + m + dvs.length) (q : tN T W (nCallP n m perm sem dds fs fk) σ H Q) : tP n m perm (spL T np sem) dvs (WE W) (tA T W fs) (tA T W fk) σ H Q := by
  obtain ⟨ρ, S, r, sh, rep, e, fin⟩ := q
  refine tA_goN sh rep e fin fun ds vs S1 H1 k1 i1 rep1 e1 fin1 => ?_
  refine tA_goN k1.sub rep1 e1 fin1 fun es zs S2 H2 k2 i2 rep2 e2 fin2 => ?_
  split at e2 <;> try cases e2
  rename_i hl
  have i12 := (((i1.mono k2.s).append i2).append (hdd S2)).pick perm
  refine ⟨i1.length.trans hl.1, i2.length.trans hl.2, S2, _, r, k2.sub, i12, ?_, e2, lend fin2⟩
  have : ∀ (l : List Nat) (xs : List V), (∀ j ∈ l, j < xs.length) → (pick l xs).length = l.length := fun l xs => by
    induction l with
    | nil => intro _; rfl
    | cons j r ih =>
      intro h
      unfold pick
      rw [List.filterMap_cons, List.getElem?_eq_getElem (h j List.mem_cons_self)]
      show (pick r xs).length + 1 = _
      rw [ih fun j hj => h j (List.mem_cons_of_mem _ hj)]
      rfl
  rw [this perm _ fun j hj => ?_, hp]
  rw [List.length_append, List.length_append, i1.length, i2.length, hl.1, hl.2]
  exact hmx j hj
theorem en_callP {np mk : Nat} {sem : List D → Option RL} (F : FnOk X.prog X.w X.K X.mg X.base (L2N.CX X.prog X.w) k f fd ps (spL T np sem)) (hr : Room k X.A) (hm : X.mg x = some (.ref f)) (hk : PySem.W.keepIn X.K (.ref f) = true) (hb : ArgB X.K fd ps n ks dvs perm) (tk : L2N.Takes X W)
    (hp : perm.length = np) (hmx : ∀ j ∈ perm, j < n + ks.length + dvs.length) (hdd : ∀ S, Iss T S dvs dds) (ha : EA X T W (e :: es) fs) (hkw : EK X T W kws fk) (hg : Gl X x := by rfl) (hall : (backToKw pos (keywordEach kws X.env)).all (·.1.isSome) = true := by rfl) (hks : (backToKw pos (keywordEach kws X.env)).filterMap (·.1) = ks := by rfl)
    (hdb : (x == ("__debug__" : Str)) = false := by decide) (he : starEach (e :: es) X.env = (false, eval e X.env) :: starEach es X.env := by rfl)
    (hpl : ((backTo pos (starEach (e :: es) X.env)).any (·.1) || (backToKw pos (keywordEach kws X.env)).any (·.1.isNone)) = false := by rfl) (hkl : ks.length = mk := by rfl) :
    EN X T W (.Call (.Name x p) (e :: es) kws pos) (nCallP n mk perm sem dds fs fk) := by
  subst hkl
  exact PE.weak (pe_callP F hr hm hk hb tk ha hkw hg hall hks hdb he hpl) fun σ H Q q => wPL hp hdd σ H Q hmx q
/-- return of a new list, of the frame's own list -/
def gRetL (f : FL) : FS := fun ρ => RSL (f ρ) ρ fun ds => some (.rl ds)
def gRetLA (f : FL) : FS := fun ρ => RAL (f (thaw ρ)) ρ fun ds => some (.rl ds)
theorem ss_retL {f : FL} (he : EN X T W e f) : SS X T W (.Return (some e) pos) (gRetL f) := PS.weak (ps_ret he) fun Dn σ H q => by
  obtain ⟨ρ, S, L, o, r, e, fin⟩ := q
  refine sBN r e fin fun ds a vs S' H' kp h1 h2 h3 hi r' e' fin' => ?_
  cases e'
  exact fin a vs S' H' L kp.sub kp.stp (.inl h1) h2 h3 hi
theorem ss_retLA {f : FL} (he : EN X T W e f) : SS X T W (.Return (some e) pos) (gRetLA f) := PS.weak (ps_ret he) fun Dn σ H q => by
  obtain ⟨ρ, S, L, o, r, e, fin⟩ := q
  refine sAN r e fin fun ds a vs S' H' kp h1 h2 h3 hi r' e' fin' => ?_
  cases e'
  exact fin a vs S' H' L kp.sub kp.stp (.inl h1) h2 h3 hi
def gRetO (i : Nat) : FS := fun ρ => match ρ[i]? with
  | some (.own ds) => some (.rl ds)
  | _ => none
theorem ss_retO (i : Nat) {y : Str} (hN : X.N[i]? = some y := by rfl) (hv : Vis X.env.scope y := by first | exact Or.inl rfl | exact Or.inr (Or.inl rfl) | exact Or.inr (Or.inr rfl)) (hd : (y == ("__debug__" : Str)) = false := by decide) (hcd : (y == ("__classdict__" : Str)) = false := by decide) :
    SS X T W (.Return (some (.Name y p)) pos) (gRetO i) := PS.weak (ps_ret (pe_var hN hv hd hcd)) fun Dn σ H q => by
  obtain ⟨ρ, S, L, o, r, e, fin⟩ := q
  unfold gRetO at e
  split at e <;> cases e
  rename_i ds hd
  obtain ⟨a, vs, h1, h2, h3, h4, h5⟩ := r.own i ds hd
  exact ⟨_, h2, fin a vs S H L r.sub Stp.refl (.inr ⟨i, h1⟩) h4 h3 h5⟩
end
end EV
end

section
set_option maxHeartbeats 4000000
/-! EV9: instances of own classes: fields, making, methods; isinstance; constants of the module. -/
namespace EV
open PySem L2

section
variable {X : Cx} {T : Tab} {W : WX} {st : Stmt} {e a b c : Expr} {es : List Expr} {f fa fb : FE} {pos p1 p2 : Pos} {S H : Hp} {σ : L2.St} {ρ : Env} {L : Nat → Option Addr} {i k ci : Nat} {x fl : Str}

/-! ### names of the module -/
theorem ee_glob {v : V} {d : D} {u : Value} (hm : X.mg x = some u) (r : RelV v u) (hi : ∀ H, Is T H v d) (hg : Gl X x := by rfl) (hd : (x == ("__debug__" : Str)) = false := by decide) : EE X T W (.Name x pos) (vC d) := ee_const (pe_glob hg hm r hd) hi

/-! ### fields -/
theorem lookup_zip {ns : List Str} {vs : List V} {k : Nat} {f : Str} {v : V} (hn : ns[k]? = some f) (hf : f ∉ ns.take k) (hv : vs[k]? = some v) : (ns.zip vs).lookup f = some v := by
  induction ns generalizing k vs with
  | nil => simp at hn
  | cons n ns ih =>
    cases vs with
    | nil => simp at hv
    | cons w vs =>
      cases k with
      | zero =>
        simp at hn hv
        subst hn hv
        simp [List.lookup]
      | succ k =>
        simp only [List.getElem?_cons_succ] at hn hv
        simp only [List.take_succ_cons, List.mem_cons, not_or] at hf
        have hne : (f == n) = false := by
          cases q : (f == n) with
          | false => rfl
          | true => exact absurd (eq_of_beq q) hf.1
        simp only [List.zip_cons_cons, List.lookup, hne]
        exact ih hn hf.2 hv
theorem lookup_zip_none {ns : List Str} {vs : List V} {f : Str} (h : f ∉ ns) : (ns.zip vs).lookup f = none := by
  induction ns generalizing vs with
  | nil => simp
  | cons n ns ih =>
    cases vs with
    | nil => simp
    | cons w vs =>
      simp only [List.mem_cons, not_or] at h
      have hne : (f == n) = false := by
        cases q : (f == n) with
        | false => rfl
        | true => exact absurd (eq_of_beq q) h.1
      simp only [List.zip_cons_cons, List.lookup, hne]
      exact ih h.2
theorem putF_new {f : Str} {v : V} : ∀ {l : List (Str × V)}, f ∉ l.map (·.1) → putF f v l = l ++ [(f, v)]
  | [], _ => rfl
  | (g, w) :: l, h => by
    simp only [List.map_cons, List.mem_cons, not_or] at h
    unfold putF
    rw [if_neg (fun z => h.1 z.symm), putF_new h.2]
    rfl
theorem putF_zip {ns : List Str} {vs : List V} {f : Str} {v : V} (hn : ns[vs.length]? = some f) (hf : f ∉ ns.take vs.length) : putF f v (ns.zip vs) = ns.zip (vs ++ [v]) := by
  have h1 : (ns.zip vs).map (·.1) = ns.take vs.length := by
    have := List.map_fst_zip (l₁ := ns.take vs.length) (l₂ := vs) (by rw [List.length_take]; omega)
    rw [← this]
    congr 1
    rw [List.zip_eq_zip_take_min]
    have hl : vs.length ≤ ns.length := by
      have := (List.getElem?_eq_some_iff.mp hn).1
      omega
    rw [Nat.min_eq_right hl, List.take_length]
  rw [putF_new (by rw [h1]; exact hf)]
  clear h1 hf
  induction ns generalizing vs with
  | nil => simp at hn
  | cons n ns ih =>
    cases vs with
    | nil =>
      simp at hn
      subst hn
      simp
    | cons w vs =>
      simp only [List.length_cons, List.getElem?_cons_succ] at hn
      simp only [List.zip_cons_cons, List.cons_append, ih hn]
/-- what the text has of the class number ci and its field k -/
structure Fld (T : TabC) (ci k : Nat) (f : Str) : Prop where
  cls : Cls T.K (T.cls ci)
  no : NoAttr T.K (T.cls ci) f
  at_ : (T.flds ci)[k]? = some f
  nd : f ∉ (T.flds ci).take k
  few : (T.flds ci).length ≤ 900
def fldD (ci k : Nat) : D → Option D
  | .obj c ds => if c = ci then ds[k]? else none
  | _ => none
theorem ee_fld {ci k : Nat} (F : Fld T ci k fl) (hK : X.K = T.K := by rfl) (hb : attributeBase a fl X.env (eval a X.env) = eval a X.env := by rfl) (ha : EE X T W a fa) : EE X T W (.Attribute a fl pos) (v1 (fldD ci k) fa) := by
  refine PE.weak (pe_fld ha hb) fun σ H Q q => ?_
  obtain ⟨ρ, S, z, sh, rep, e, fin⟩ := q
  refine tF_go sh rep e fin fun p x S1 H1 k1 i1 rep1 e1 fin1 => ?_
  obtain ⟨d, e3, rfl⟩ := okO_inv e1
  unfold fldD at e3
  split at e3 <;> try cases e3
  split at e3 <;> try cases e3
  rename_i hc
  subst hc
  cases i1 with
  | obj h hl hs =>
    obtain ⟨v, h1, h2⟩ := hs.get' e3
    rw [hK]
    exact ⟨_, _, _, _, v, rfl, k1.sub.same _ _ h, F.cls, F.no, lookup_zip F.at_ F.nd h1, fin1 v S1 H1 (Kp.refl k1.sub) h2⟩
/-- self.f = e, the instance under way -/
def fldK (i ci k : Nat) (ρ : EV.Env) (d : D) : Option Out := match ρ[i]? with
  | some (.ins c ds) => if c = ci ∧ ds.length = k then some (.nx (ρ.set i (.ins c (ds ++ [d])))) else none
  | _ => none
def gFld (i ci k : Nat) (f : FE) : FS := fun ρ => RS (f ρ) ρ (fldK i ci k ρ)
def gFldA (i ci k : Nat) (f : FE) : FS := fun ρ => RA (f (thaw ρ)) ρ (fldK i ci k ρ)
theorem fld_end {Dn : Ends} {o : Out} {d : D} {v : V} {ci k : Nat} (F : Fld T ci k fl) (hK : X.K = T.K) (r : Rep T ρ σ S H L) (hi : Is T S v d) (e : fldK i ci k ρ d = some o) (fin : SEnd T W Dn S H L o) :
    tVar i σ H fun x H2 => ∃ a C dx fs, x = .ref a ∧ H2 a = some (.ins C dx fs) ∧ Cls X.K C ∧ NoAttr X.K C fl ∧ fs.length < 1000 ∧ Dn.nx σ (L2.upd H2 a (.ins C dx (putF fl v fs))) := by
  unfold fldK at e
  split at e <;> try cases e
  rename_i c ds hd
  split at e <;> cases e
  rename_i hc
  obtain ⟨rfl, hl⟩ := hc
  obtain ⟨a, dx, vs, h1, h2, h3, h4, h5, h6⟩ := r.ins i c ds hd
  have hlv : vs.length = k := by rw [h6.length]; exact hl
  have hk := (List.getElem?_eq_some_iff.mp F.at_).1
  refine ⟨_, h2, a, _, dx, _, rfl, h3, by rw [hK]; exact F.cls, by rw [hK]; exact F.no, ?_, ?_⟩
  · have := List.length_zip (l₁ := T.flds c) (l₂ := vs)
    have := F.few
    omega
  · rw [putF_zip (by rw [hlv]; exact F.at_) (by rw [hlv]; exact F.nd)]
    exact fin σ S _ L (r.updI hd h1 (by rw [List.length_append, List.length_singleton, hlv]; exact hk) (h6.append (.cons hi .nil))) (Stp.updI h1 h3)
theorem ss_fld (i : Nat) {ci k : Nat} (F : Fld T ci k fl) (hK : X.K = T.K := by rfl) (hN : X.N[i]? = some x := by rfl) (hv : Vis X.env.scope x := by first | exact Or.inl rfl | exact Or.inr (Or.inl rfl) | exact Or.inr (Or.inr rfl)) (hd : (x == ("__debug__" : Str)) = false := by decide) (hcd : (x == ("__classdict__" : Str)) = false := by decide)
    (hs : swapsWith e (some (.Attribute (.Name x p1) fl p2)) pos.line X.env = pure false := by rfl) (he : EE X T W e f) : SS X T W (.Assign [.Attribute (.Name x p1) fl p2] e pos) (gFld i ci k f) := by
  refine PS.weak (ps_fld (pe_var hN hv hd hcd) he hs) fun Dn σ H q => ?_
  obtain ⟨ρ, S, L, o, r, e, fin⟩ := q
  exact sB r e fin fun d v S' H' kp hi r' e' fin' => fld_end F hK r' hi e' fin'
theorem ss_fldA (i : Nat) {ci k : Nat} (F : Fld T ci k fl) (hK : X.K = T.K := by rfl) (hN : X.N[i]? = some x := by rfl) (hv : Vis X.env.scope x := by first | exact Or.inl rfl | exact Or.inr (Or.inl rfl) | exact Or.inr (Or.inr rfl)) (hd : (x == ("__debug__" : Str)) = false := by decide) (hcd : (x == ("__classdict__" : Str)) = false := by decide)
    (hs : swapsWith e (some (.Attribute (.Name x p1) fl p2)) pos.line X.env = pure false := by rfl) (he : EE X T W e f) : SS X T W (.Assign [.Attribute (.Name x p1) fl p2] e pos) (gFldA i ci k f) := by
  refine PS.weak (ps_fld (pe_var hN hv hd hcd) he hs) fun Dn σ H q => ?_
  obtain ⟨ρ, S, L, o, r, e, fin⟩ := q
  exact sA r e fin fun d v S' H' kp hi r' e' fin' => fld_end F hK r' hi e' fin'
end

/-! ### __init__ -/
def semI (ci n : Nat) (g : FS) (ds : List D) : Option R := match g (Sl.ins ci [] :: (ds.map Sl.v ++ List.replicate (n - 1 - ds.length) Sl.no)) with
  | some (.nx ρ) => (match ρ[(0 : Nat)]? with
    | some (.ins c fs) => if c = ci then some (.ok (.obj ci fs)) else none
    | _ => none)
  | some (.rs x _) => some (.ex x)
  | _ => none
def IEnd (T : TabC) (ci : Nat) (x dx : Addr) (S H : Hp) (Q : VK) (E : XK) : R → Prop
  | .ok (.obj c fs) => c = ci ∧ ∀ vs S' H', Same S S' → (∀ a o, a ≠ x → H a = some o → H' a = some o) → EV.Sub S' H' → (∀ a, H a ≠ none → S a = none → S' a = none) → H' x = some (.ins (T.cls ci) dx ((T.flds ci).zip vs)) → vs.length ≤ (T.flds ci).length → Iss T S' vs fs → Q .non H'
  | .ok _ => False
  | .ex xn => ∀ S' H' cls d, Same S S' → (∀ a o, a ≠ x → H a = some o → H' a = some o) → EV.Sub S' H' → (∀ a, H a ≠ none → S a = none → a ≠ x → S' a = none) → XIs T S' xn cls d → E cls d H'
def spI (T : TabC) (ci n : Nat) (sem : List D → Option R) : Sp := fun vs H Q E => ∃ S x dx as ds r, vs = .ref x :: as ∧ as.length + 1 = n ∧ EV.Sub S H ∧ H x = some (.ins (T.cls ci) dx []) ∧ S x = none ∧ Iss T S as ds ∧ sem ds = some r ∧ IEnd T ci x dx S H Q E r
section
variable {P : Program} {w : World} {K : PySem.W.Frag} {mg : Str → Option Value} {base : Heap} {x qual : Str} {params : Arguments} {body : List Stmt} {scope : Scope} {dvs : List V} {kws : List (Str × V)} {f : Addr} {fd : FuncData} {N ps : List Str} {k ci : Nat} {T : Tab} {g : FS}
def on0 (a : Addr) : Nat → Option Addr := fun j => if j = 0 then some a else none
theorem rep_startI {S H : Hp} {vs : List V} {ds : List D} {N : List Str} {a dx : Addr} (hN : 0 < N.length) (sh : EV.Sub S H) (ha : H a = some (.ins (T.cls ci) dx [])) (hs : S a = none) (h : Iss T S vs ds) :
    Rep T (Sl.ins ci [] :: (ds.map Sl.v ++ List.replicate (N.length - 1 - ds.length) Sl.no)) (L2.start N (.ref a :: vs)) S H (on0 a) := by
  have hst : L2.start N (.ref a :: vs) = some (.ref a) :: (vs.map some ++ List.replicate (N.length - 1 - ds.length) none) := by
    unfold L2.start
    rw [List.map_cons, List.length_cons, ← h.length]
    show some (V.ref a) :: (vs.map some ++ _) = _
    congr 3
    omega
  rw [hst]
  have nov : ∀ (i : Nat) (s : Sl), (ds.map Sl.v ++ List.replicate (N.length - 1 - ds.length) Sl.no)[i]? = some s → (∃ d, ds[i]? = some d ∧ s = .v d) ∨ s = .no := fun i s e => by
    by_cases hi : i < ds.length
    · rw [List.getElem?_append_left (by simpa using hi), List.getElem?_map] at e
      obtain ⟨d, e1, e2⟩ := Option.map_eq_some_iff.mp e
      exact .inl ⟨d, e1, e2.symm⟩
    · rw [List.getElem?_append_right (by simpa using hi)] at e
      exact .inr ((List.mem_replicate.mp (List.mem_of_getElem? e)).2)
  refine ⟨sh, by simp [h.length], fun i d e => ?_, fun i ds' e => ?_, fun i c ds' e => ?_, fun i j b h1 h2 => ?_, fun i b h1 => ?_, fun i x e => (by
    cases i with
    | zero => cases e
    | succ i =>
      rw [List.getElem?_cons_succ] at e
      rcases nov i _ e with ⟨d', e1, e2⟩ | e2 <;> cases e2)⟩
  · cases i with
    | zero => cases e
    | succ i =>
      rw [List.getElem?_cons_succ] at e
      rcases nov i _ e with ⟨d', e1, e2⟩ | e2
      · cases e2
        obtain ⟨v, h1, h2⟩ := h.get' e1
        refine ⟨v, ?_, h2⟩
        have hi := (List.getElem?_eq_some_iff.mp h1).1
        rw [List.getElem?_cons_succ, List.getElem?_append_left (by simpa using hi), List.getElem?_map, h1]
        rfl
      · cases e2
  · cases i with
    | zero => cases e
    | succ i =>
      rw [List.getElem?_cons_succ] at e
      rcases nov i _ e with ⟨d', e1, e2⟩ | e2 <;> cases e2
  · cases i with
    | zero =>
      cases e
      exact ⟨a, dx, [], rfl, rfl, by rw [ha]; simp, hs, Nat.zero_le _, .nil⟩
    | succ i =>
      rw [List.getElem?_cons_succ] at e
      rcases nov i _ e with ⟨d', e1, e2⟩ | e2 <;> cases e2
  · unfold on0 at h1 h2
    split at h1 <;> cases h1
    split at h2 <;> cases h2
    omega
  · unfold on0 at h1
    split at h1 <;> cases h1
    rename_i hi
    subst hi
    exact .inr ⟨ci, [], rfl⟩
theorem on0_stp {S H S' H' : Hp} {L' : Nat → Option Addr} {a : Addr} (st : Stp S H (on0 a) S' H' L') : Same S S' ∧ (∀ b o, b ≠ a → H b = some o → H' b = some o) ∧ ∀ b, H b ≠ none → S b = none → b ≠ a → S' b = none := by
  have na : ∀ b, b ≠ a → ∀ i, on0 a i ≠ some b := fun b hb i z => by
    unfold on0 at z
    split at z <;> cases z
    exact hb rfl
  exact ⟨st.s, fun b o hb h => st.fr b o h (na b hb), fun b h1 h2 hb => st.hid b h1 h2 (na b hb)⟩
theorem fn_evI (ci : Nat) (F : FunD K x qual params body scope dvs kws f fd) (Sc : FnScope N ps scope) (hN : 0 < N.length)
    (hb : ∀ (cdv : Value) (A : Around) (outer : List PySem.Env) (s : Shared) (H : Hp) (E : XK), Room k (A.deeper (PyProof.Rows.envOfC qual scope s.heap.objs.size f cdv)) →
      SSs (cxOf (L2N.CX P w) P w K mg base N qual scope f cdv A outer s H E) T (fun cls d _ H' => E cls d H') body g) : FnOk P w K mg base (L2N.CX P w) (k + 1) f fd ps (spI T ci ps.length (semI ci N.length g)) := by
  refine F.ok Sc (fun vs H Q E h => ?_) fun cdv A outer s H vs Q E hr h => ⟨_, hb cdv A outer s H E hr, ?_⟩
  · obtain ⟨S, x, dx, as, ds, r, rfl, hl, _⟩ := h
    exact hl
  · obtain ⟨S, a, dx, as, ds, r, rfl, hl, sh, ha, hs, hi, e, fin⟩ := h
    have rep := rep_startI (ci := ci) hN sh ha hs hi
    unfold semI at e
    split at e <;> try cases e
    · rename_i ρ hd
      split at e <;> try cases e
      rename_i c fs h0
      split at e <;> cases e
      rename_i hc
      subst hc
      refine ⟨_, S, _, _, rep, hd, fun σ' S' H' L' r st => ?_⟩
      obtain ⟨b, dx', vs', q1, q2, q3, q4, q5, q6⟩ := r.ins 0 c fs h0
      obtain ⟨s1, s2, s3⟩ := on0_stp st
      have eb : b = a ∧ dx' = dx := by
        have e1 : b = a := by
          rcases st.own 0 b q1 with ⟨j, z⟩ | ⟨_, xs, z⟩
          · unfold on0 at z
            split at z <;> cases z
            rfl
          · rw [q3] at z; cases z
        subst e1
        obtain ⟨fs', z⟩ := st.ik b _ _ _ ha
        rw [q3] at z
        cases z
        exact ⟨rfl, rfl⟩
      obtain ⟨rfl, rfl⟩ := eb
      refine fin.2 vs' S' H' s1 s2 r.sub (fun z h1 h2 => ?_) q3 q5 q6
      by_cases hz : z = b
      · rw [hz]; exact q4
      · exact s3 z h1 h2 hz
    · rename_i xn ρ hd
      refine ⟨_, S, _, _, rep, hd, fun σ' S' H' L' cls d r st i => ?_⟩
      obtain ⟨s1, s2, s3⟩ := on0_stp st
      exact fin S' H' cls d s1 s2 r.sub s3 i
end
end EV
end

section
set_option maxHeartbeats 4000000
/-! EV10: making instances, methods, isinstance of built-in types. -/
namespace EV
open PySem L2
section
variable {X : Cx} {T : Tab} {W : WX} {k n ci : Nat} {f C : Addr} {fd : FuncData} {ps ks : List Str} {sp : Sp} {x m : Str} {p pos apos : Pos} {e o a : Expr} {es : List Expr} {kws : List Keyword} {dvs : List V} {dds : List D} {perm : List Nat} {sem : List D → Option R} {fs fk : FL} {fo fa : FE}
theorem pick_succ {α : Type} {y : α} {l : List α} : ∀ perm : List Nat, pick (perm.map (· + 1)) (y :: l) = pick perm l
  | [] => rfl
  | j :: r => by
    have ih := pick_succ (y := y) (l := l) r
    unfold pick at ih ⊢
    simp only [List.map_cons, List.filterMap_cons, List.getElem?_cons_succ]
    split <;> simp [ih]
theorem pick_zero {α : Type} {y : α} {l : List α} {perm : List Nat} : pick (0 :: perm.map (· + 1)) (y :: l) = y :: pick perm l := by
  have ih := pick_succ (y := y) (l := l) perm
  unfold pick at ih ⊢
  simp only [List.filterMap_cons, List.getElem?_cons_zero, ih]
theorem run_M {pins : List (Addr × Obj)} {σ : L2.St} {H : Hp} {s : Shared} {Q : VK} {us ws : List Value} {vs zs : List V} (M : Mk X.K C f) (F : FnOk X.prog X.w X.K X.mg X.base (L2N.CX X.prog X.w) k f fd ps sp) (hr : Room (k + 1) X.A) (hb : ArgB X.K fd ps (n + 1) ks dvs (0 :: perm.map (· + 1))) (tk : L2N.Takes X W)
    (I : Inv X pins σ H s) (r : Vals vs us) (rz : Vals zs ws) (l1 : vs.length = n) (l2 : zs.length = ks.length)
    (h : ∀ x dx, H x = none → H dx = none → dx ≠ x → sp (.ref x :: pick perm (vs ++ zs ++ dvs)) (L2.upd (L2.upd H dx (.own x)) x (.ins C dx [])) (fun v H2 => v = .non ∧ Q (.ref x) H2) (WE W σ)) :
    wpAny (model X.prog X.w) X.A (call (.ref C) us (ks.zip ws)) (EP X pins σ Q) X.xe s := by
  have hq := h (s.heap.objs.size + 1) s.heap.objs.size (I.hok.fresh (Nat.le_succ _)) (I.hok.fresh (Nat.le_refl _)) (Nat.ne_of_lt (Nat.lt_succ_self _))
  have I2 := Inv.made (C := C) I
  obtain ⟨ds, rd, to⟩ := hb.to
  have r1 : Vals (V.ref (s.heap.objs.size + 1) :: vs) (Value.ref (s.heap.objs.size + 1) :: us) := .cons rfl r
  have r2 := Vals.pick ((r1.append rz).append rd) (0 :: perm.map (· + 1))
  have ev : pick (0 :: perm.map (· + 1)) (V.ref (s.heap.objs.size + 1) :: vs ++ zs ++ dvs) = V.ref (s.heap.objs.size + 1) :: pick perm (vs ++ zs ++ dvs) := pick_zero
  rw [ev] at r2
  have e1 : (Value.ref (s.heap.objs.size + 1) :: us).length = n + 1 := r1.length.symm.trans (congrArg Nat.succ l1)
  have e2 : ws.length = ks.length := rz.length.symm.trans l2
  refine wpAny_call (make_map (f := f) I.kIn M.makes M.init (beq_iff_eq.mp M.fn) (codeAny_mono (F.run _ X.stack _ _ ⟨Value.ref (s.heap.objs.size + 1) :: us, ks.zip ws⟩ _ _ _ (WE W σ) (hr.make C us (ks.zip ws))
    (I2.env0.make C us (ks.zip ws)) (to _ (Value.ref (s.heap.objs.size + 1) :: us) ws I2.kIn e1 e2) r2 hq) fun r s' hq' => ?_))
  cases r with
  | error e => exact L2N.passAt tk σ pins _ _ e s' I2 hq'
  | ok fl =>
    cases fl with
    | ret u =>
      obtain ⟨v, H', I3, rv, ev, q3⟩ := I2.after hq'
      subst ev
      exact ⟨rv, ⟨V.ref (s.heap.objs.size + 1), H', I3, rfl, q3⟩⟩
    | next => exact False.elim hq'
    | brk => exact False.elim hq'
    | cont => exact False.elim hq'
def tM (C : Addr) (n m : Nat) (perm : List Nat) (sp : Sp) (dvs : List V) (E : L2.St → XK) (t tk : TA) : TE := fun σ H Q => t σ H fun vs H1 => tk σ H1 fun zs H2 => vs.length = n ∧ zs.length = m ∧
  ∀ x dx, H2 x = none → H2 dx = none → dx ≠ x → sp (.ref x :: pick perm (vs ++ zs ++ dvs)) (L2.upd (L2.upd H2 dx (.own x)) x (.ins C dx [])) (fun v H3 => v = .non ∧ Q (.ref x) H3) (E σ)
theorem pe_makeP {t tkw : TA} (M : Mk X.K C f) (F : FnOk X.prog X.w X.K X.mg X.base (L2N.CX X.prog X.w) k f fd ps sp) (hr : Room (k + 1) X.A) (hm : X.mg x = some (.ref C)) (hb : ArgB X.K fd ps (n + 1) ks dvs (0 :: perm.map (· + 1))) (tk : L2N.Takes X W)
    (ha : PA X (e :: es) t) (hkw : PK X kws tkw) (hg : Gl X x) (hall : (backToKw pos (keywordEach kws X.env)).all (·.1.isSome) = true) (hks : (backToKw pos (keywordEach kws X.env)).filterMap (·.1) = ks)
    (hdb : (x == ("__debug__" : Str)) = false) (he : starEach (e :: es) X.env = (false, eval e X.env) :: starEach es X.env)
    (hpl : ((backTo pos (starEach (e :: es) X.env)).any (·.1) || (backToKw pos (keywordEach kws X.env)).any (·.1.isNone)) = false) :
    PE X (.Call (.Name x p) (e :: es) kws pos) (tM C n ks.length perm sp dvs (WE W) t tkw) := by
  refine ⟨fun pins s σ H Q I h => ?_⟩
  refine wpAny_Call_Name_kw (ld_glob I hg hm ?_ hdb)
  refine PySem.W.callWith_KW (h₀ := X.base) I.ok.mod.kin M.kp hall (thn (ha.run pos pins s σ H _ I h) fun us s1 ⟨vs, H1, I1, r, q⟩ => ?_) hpl he
  refine thn (hkw.run pos pins s1 σ H1 _ I1 q) fun ws s2 ⟨zs, H2, I2, rz, l1, l2, q2⟩ => ⟨I2.kIn, ?_⟩
  rw [hks]
  exact run_M M F hr hb tk I2 r rz l1 l2 q2
theorem pe_makeP0 {tkw : TA} (M : Mk X.K C f) (F : FnOk X.prog X.w X.K X.mg X.base (L2N.CX X.prog X.w) k f fd ps sp) (hr : Room (k + 1) X.A) (hm : X.mg x = some (.ref C)) (hb : ArgB X.K fd ps 1 ks dvs (0 :: perm.map (· + 1))) (tk : L2N.Takes X W)
    (hkw : PK X kws tkw) (hg : Gl X x) (hall : (backToKw pos (keywordEach kws X.env)).all (·.1.isSome) = true) (hks : (backToKw pos (keywordEach kws X.env)).filterMap (·.1) = ks)
    (hdb : (x == ("__debug__" : Str)) = false) (hpl : ((backTo pos (starEach [] X.env)).any (·.1) || (backToKw pos (keywordEach kws X.env)).any (·.1.isNone)) = false) :
    PE X (.Call (.Name x p) [] kws pos) (tM C 0 ks.length perm sp dvs (WE W) tNil tkw) := by
  refine ⟨fun pins s σ H Q I h => ?_⟩
  refine wpAny_Call_Name_kw (ld_glob I hg hm ?_ hdb)
  refine PySem.W.callWith_KW0 (h₀ := X.base) I.ok.mod.kin M.kp hall (thn (hkw.run pos pins s σ H _ I h) fun ws s2 ⟨zs, H2, I2, rz, l1, l2, q2⟩ => ⟨I2.kIn, ?_⟩) hpl
  rw [hks]
  exact run_M (n := 0) M F hr hb tk I2 .nil rz rfl l2 q2
theorem Kp.made {S H S' H' : Hp} {x dx : Addr} {o : HO} (sh : EV.Sub S H) (hx : H x = none) (hd : H dx = none) (s1 : Same S S') (s2 : ∀ a u, a ≠ x → L2.upd (L2.upd H dx (.own x)) x o a = some u → H' a = some u) (s3 : EV.Sub S' H')
    (s4 : ∀ a, L2.upd (L2.upd H dx (.own x)) x o a ≠ none → S a = none → a ≠ x → S' a = none) : Kp S H S' H' := by
  have up : ∀ a u, H a = some u → L2.upd (L2.upd H dx (.own x)) x o a = some u := fun a u h => by
    rw [upd_ne (ne_of_none h hx), upd_ne (ne_of_none h hd)]
    exact h
  refine ⟨s1, fun a u h => s2 a u (ne_of_none h hx) (up a u h), s3, fun a h1 h2 => ?_⟩
  cases q : H a with
  | none => exact absurd q h1
  | some u => exact s4 a (by rw [up a u q]; intro z; cases z) h2 (ne_of_none q hx)
theorem pick_len {l : List Nat} {xs : List V} (h : ∀ j ∈ l, j < xs.length) : (pick l xs).length = l.length := by
  induction l with
  | nil => rfl
  | cons j r ih =>
    unfold pick
    rw [List.filterMap_cons, List.getElem?_eq_getElem (h j List.mem_cons_self)]
    show (pick r xs).length + 1 = _
    rw [ih fun j hj => h j (List.mem_cons_of_mem _ hj)]
    rfl
theorem wM {np : Nat} (hs : ∀ ds d, sem ds = some (.ok d) → ∃ fs, d = .obj ci fs) (hp : perm.length + 1 = np) (hdd : ∀ S, Iss T S dvs dds) (σ : L2.St) (H : Hp) (Q : VK) {m : Nat} (hmx : ∀ j ∈ perm, j < n + m + dvs.length)
    (q : tF T W (vCallP n m perm sem dds fs fk) σ H Q) : tM (T.cls ci) n m perm (spI T ci np sem) dvs (WE W) (tA T W fs) (tA T W fk) σ H Q := by
  obtain ⟨ρ, S, r, sh, rep, e, fin⟩ := q
  refine tA_go sh rep e fin fun ds vs S1 H1 k1 i1 rep1 e1 fin1 => ?_
  refine tA_go k1.sub rep1 e1 fin1 fun es zs S2 H2 k2 i2 rep2 e2 fin2 => ?_
  split at e2 <;> try cases e2
  rename_i hl
  have i12 := (((i1.mono k2.s).append i2).append (hdd S2)).pick perm
  refine ⟨i1.length.trans hl.1, i2.length.trans hl.2, fun x dx hx hd hne => ?_⟩
  have sx : S2 x = none := k2.sub.same.free hx
  have sd : S2 dx = none := k2.sub.same.free hd
  have sub3 : EV.Sub S2 (L2.upd (L2.upd H2 dx (.own x)) x (.ins (T.cls ci) dx [])) := by
    refine ⟨fun a u h => ?_, fun a u h f => ?_⟩
    · rw [upd_ne (ne_of_none h sx), upd_ne (ne_of_none h sd)]
      exact k2.sub.same a u h
    · by_cases ha : a = x
      · subst ha; rw [upd_same] at h; cases h; cases f
      · rw [upd_ne ha] at h
        by_cases hb : a = dx
        · subst hb; rw [upd_same] at h; cases h; cases f
        · rw [upd_ne hb] at h; exact k2.sub.fix a u h f
  refine ⟨S2, x, dx, _, _, r, rfl, ?_, sub3, upd_same, sx, i12, e2, ?_⟩
  · rw [pick_len fun j hj => ?_, hp]
    rw [List.length_append, List.length_append, i1.length, i2.length, hl.1, hl.2]
    exact hmx j hj
  · cases r with
    | ok d =>
      obtain ⟨gs, rfl⟩ := hs _ _ e2
      refine ⟨rfl, fun vs' S' H' s1 s2 s3 s4 hx' hlen hi => ⟨rfl, ?_⟩⟩
      have hSx : S' x = none := s4 x (by rw [upd_same]; intro z; cases z) sx
      have kp := Kp.made k2.sub hx hd s1 s2 s3 fun a h1 h2 _ => s4 a h1 h2
      exact fin2 (.ref x) _ H' (kp.open hx hx' hSx) (.obj upd_same hlen (hi.mono (Same.opened hSx)))
    | ex xn =>
      intro S' H' cls d s1 s2 s3 s4 i
      exact fin2 S' H' cls d (Kp.made k2.sub hx hd s1 s2 s3 s4) i
theorem semI_obj {N : Nat} {g : FS} (ds : List D) (d : D) (h : semI ci N g ds = some (.ok d)) : ∃ fs, d = .obj ci fs := by
  unfold semI at h
  split at h <;> try cases h
  split at h <;> try cases h
  split at h <;> cases h
  exact ⟨_, rfl⟩
theorem ee_makeP {np mk : Nat} (hs : ∀ ds d, sem ds = some (.ok d) → ∃ fs, d = .obj ci fs) (M : Mk X.K (T.cls ci) f) (F : FnOk X.prog X.w X.K X.mg X.base (L2N.CX X.prog X.w) k f fd ps (spI T ci np sem)) (hr : Room (k + 1) X.A) (hm : X.mg x = some (.ref (T.cls ci)))
    (hb : ArgB X.K fd ps (n + 1) ks dvs (0 :: perm.map (· + 1))) (tk : L2N.Takes X W) (hp : perm.length + 1 = np) (hmx : ∀ j ∈ perm, j < n + ks.length + dvs.length) (hdd : ∀ S, Iss T S dvs dds) (ha : EA X T W (e :: es) fs) (hkw : EK X T W kws fk)
    (hg : Gl X x := by rfl) (hall : (backToKw pos (keywordEach kws X.env)).all (·.1.isSome) = true := by rfl) (hks : (backToKw pos (keywordEach kws X.env)).filterMap (·.1) = ks := by rfl)
    (hdb : (x == ("__debug__" : Str)) = false := by decide) (he : starEach (e :: es) X.env = (false, eval e X.env) :: starEach es X.env := by rfl)
    (hpl : ((backTo pos (starEach (e :: es) X.env)).any (·.1) || (backToKw pos (keywordEach kws X.env)).any (·.1.isNone)) = false := by rfl) (hkl : ks.length = mk := by rfl) :
    EE X T W (.Call (.Name x p) (e :: es) kws pos) (vCallP n mk perm sem dds fs fk) := by
  subst hkl
  exact PE.weak (pe_makeP M F hr hm hb tk ha hkw hg hall hks hdb he hpl) fun σ H Q q => wM hs hp hdd σ H Q hmx q
theorem ee_makeP0 {np mk : Nat} (hs : ∀ ds d, sem ds = some (.ok d) → ∃ fs, d = .obj ci fs) (M : Mk X.K (T.cls ci) f) (F : FnOk X.prog X.w X.K X.mg X.base (L2N.CX X.prog X.w) k f fd ps (spI T ci np sem)) (hr : Room (k + 1) X.A) (hm : X.mg x = some (.ref (T.cls ci)))
    (hb : ArgB X.K fd ps 1 ks dvs (0 :: perm.map (· + 1))) (tk : L2N.Takes X W) (hp : perm.length + 1 = np) (hmx : ∀ j ∈ perm, j < 0 + ks.length + dvs.length) (hdd : ∀ S, Iss T S dvs dds) (hkw : EK X T W kws fk)
    (hg : Gl X x := by rfl) (hall : (backToKw pos (keywordEach kws X.env)).all (·.1.isSome) = true := by rfl) (hks : (backToKw pos (keywordEach kws X.env)).filterMap (·.1) = ks := by rfl)
    (hdb : (x == ("__debug__" : Str)) = false := by decide) (hpl : ((backTo pos (starEach [] X.env)).any (·.1) || (backToKw pos (keywordEach kws X.env)).any (·.1.isNone)) = false := by rfl) (hkl : ks.length = mk := by rfl) :
    EE X T W (.Call (.Name x p) [] kws pos) (vCallP 0 mk perm sem dds aNil fk) := by
  subst hkl
  exact PE.weak (pe_makeP0 M F hr hm hb tk hkw hg hall hks hdb hpl) fun σ H Q q => by
    have z := wM (n := 0) hs hp hdd σ H Q hmx q
    obtain ⟨ρ, S, r, sh, rep, e, fin⟩ := z
    cases e
    exact fin [] S H (Kp.refl sh) .nil

/-! ### o.m(..) of an instance -/
def tMP (C : Addr) (m : Str) (n mm : Nat) (perm : List Nat) (sp : Sp) (dvs : List V) (E : L2.St → XK) (to : TE) (t tk : TA) : TE := fun σ H Q => to σ H fun x H1 => ∃ a dx fs, x = .ref a ∧ H1 a = some (.ins C dx fs) ∧ fs.lookup m = none ∧
  t σ H1 fun vs H2 => tk σ H2 fun zs H3 => vs.length = n ∧ zs.length = mm ∧ sp (x :: pick perm (vs ++ zs ++ dvs)) H3 Q (E σ)
theorem pe_methP {pl : Sem Bool} {to : TE} {t tkw : TA} (ho : PE X o to) (c : Cls X.K C) (hm : Meth X.K C m f) (F : FnOk X.prog X.w X.K X.mg X.base (L2N.CX X.prog X.w) k f fd ps sp) (hr : Room k X.A) (hb : ArgB X.K fd ps (n + 1) ks dvs (0 :: perm.map (· + 1))) (tk : L2N.Takes X W)
    (ha : PA X (e :: es) t) (hkw : PK X kws tkw) (hall : (backToKw pos (keywordEach kws X.env)).all (·.1.isSome) = true) (hks : (backToKw pos (keywordEach kws X.env)).filterMap (·.1) = ks)
    (he : starEach (e :: es) X.env = (false, eval e X.env) :: starEach es X.env) (hpl : ((backTo pos (starEach (e :: es) X.env)).any (·.1) || (backToKw pos (keywordEach kws X.env)).any (·.1.isNone)) = false)
    (ht : eval (.Call (.Attribute o m apos) (e :: es) kws pos) X.env = (do
      let ov ← eval o X.env
      standAt apos.atName
      let (f, first) ← holding [ov] (getMethod ov m pl)
      callWith pos f first (backTo pos (starEach (e :: es) X.env)) (backToKw pos (keywordEach kws X.env)))) :
    PE X (.Call (.Attribute o m apos) (e :: es) kws pos) (tMP C m n ks.length perm sp dvs (WE W) to t tkw) := by
  refine ⟨fun pins s σ H Q I h => ?_⟩
  refine PySem.W.methodCall_KW (pl := pl) (thn (ho.run pins s σ H _ I h) fun u s1 ⟨x, H1, I1, rx, a, dx, fs, ex, ea, l, q⟩ => ?_) ht
  subst ex
  obtain rfl : u = Value.ref a := rx
  refine getmeth_ok I1 ea c hm l ?_
  refine PySem.W.callWith_KW (first := [.ref a]) (h₀ := X.base) I.ok.mod.kin hm.kp hall (thn (ha.run pos pins s1 σ H1 _ I1 q) fun us s2 ⟨vs, H2, I2, r, q2⟩ => ?_) hpl he
  refine thn (hkw.run pos pins s2 σ H2 _ I2 q2) fun ws s3 ⟨zs, H3, I3, rz, l1, l2, q3⟩ => ⟨I3.kIn, ?_⟩
  rw [hks]
  have ev : pick (0 :: perm.map (· + 1)) (V.ref a :: vs ++ zs ++ dvs) = V.ref a :: pick perm (vs ++ zs ++ dvs) := pick_zero
  exact run_P (us := .ref a :: us) (vs := .ref a :: vs) F hr hb tk I3 (.cons rfl r) rz (congrArg Nat.succ l1) l2 (by rw [ev]; exact q3)
theorem pe_methP0 {pl : Sem Bool} {to : TE} {tkw : TA} (ho : PE X o to) (c : Cls X.K C) (hm : Meth X.K C m f) (F : FnOk X.prog X.w X.K X.mg X.base (L2N.CX X.prog X.w) k f fd ps sp) (hr : Room k X.A) (hb : ArgB X.K fd ps 1 ks dvs (0 :: perm.map (· + 1))) (tk : L2N.Takes X W)
    (hkw : PK X kws tkw) (hall : (backToKw pos (keywordEach kws X.env)).all (·.1.isSome) = true) (hks : (backToKw pos (keywordEach kws X.env)).filterMap (·.1) = ks)
    (hpl : ((backTo pos (starEach [] X.env)).any (·.1) || (backToKw pos (keywordEach kws X.env)).any (·.1.isNone)) = false)
    (ht : eval (.Call (.Attribute o m apos) [] kws pos) X.env = (do
      let ov ← eval o X.env
      standAt apos.atName
      let (f, first) ← holding [ov] (getMethod ov m pl)
      callWith pos f first (backTo pos (starEach [] X.env)) (backToKw pos (keywordEach kws X.env)))) :
    PE X (.Call (.Attribute o m apos) [] kws pos) (tMP C m 0 ks.length perm sp dvs (WE W) to tNil tkw) := by
  refine ⟨fun pins s σ H Q I h => ?_⟩
  refine PySem.W.methodCall_KW (pl := pl) (thn (ho.run pins s σ H _ I h) fun u s1 ⟨x, H1, I1, rx, a, dx, fs, ex, ea, l, q⟩ => ?_) ht
  subst ex
  obtain rfl : u = Value.ref a := rx
  refine getmeth_ok I1 ea c hm l ?_
  refine PySem.W.callWith_KW0 (first := [.ref a]) (h₀ := X.base) I.ok.mod.kin hm.kp hall (thn (hkw.run pos pins s1 σ H1 _ I1 q) fun ws s3 ⟨zs, H3, I3, rz, l1, l2, q3⟩ => ⟨I3.kIn, ?_⟩) hpl
  rw [hks]
  have ev : pick (0 :: perm.map (· + 1)) (V.ref a :: [] ++ zs ++ dvs) = V.ref a :: pick perm ([] ++ zs ++ dvs) := pick_zero
  exact run_P (us := [.ref a]) (vs := [.ref a]) F hr hb tk I3 (.cons rfl .nil) rz rfl l2 (by rw [ev]; exact q3)
def vMethP (ci n m : Nat) (perm : List Nat) (sem : List D → Option R) (dds : List D) (fo : FE) (fs fk : FL) : FE := fun ρ => R1 (fo ρ) fun d => match d with
  | .obj c _ => if c = ci then RL1 (fs ρ) fun ds => RL1 (fk ρ) fun es => if ds.length = n ∧ es.length = m then sem (d :: pick perm (ds ++ es ++ dds)) else none
    else none
  | _ => none
structure MethI (T : TabC) (ci : Nat) (m : Str) (f : Addr) : Prop where
  cls : Cls T.K (T.cls ci)
  meth : Meth T.K (T.cls ci) m f
  no : m ∉ T.flds ci
theorem wMP {np : Nat} {mm : Nat} (MI : MethI T ci m f) (hp : perm.length + 1 = np) (hdd : ∀ S, Iss T S dvs dds) (σ : L2.St) (H : Hp) (Q : VK) (hmx : ∀ j ∈ perm, j < n + mm + dvs.length)
    (q : tF T W (vMethP ci n mm perm sem dds fo fs fk) σ H Q) : tMP (T.cls ci) m n mm perm (spF T np sem) dvs (WE W) (tF T W fo) (tA T W fs) (tA T W fk) σ H Q := by
  obtain ⟨ρ, S, r, sh, rep, e, fin⟩ := q
  refine tF_go sh rep e fin fun d x S0 H0 k0 i0 rep0 e0 fin0 => ?_
  split at e0 <;> try cases e0
  rename_i c fds
  split at e0 <;> try cases e0
  rename_i hc
  subst hc
  cases i0 with
  | @obj a dx _ vs0 _ h hl0 hs =>
    refine ⟨a, dx, _, rfl, k0.sub.same _ _ h, lookup_zip_none MI.no, ?_⟩
    refine tA_go k0.sub rep0 e0 fin0 fun ds vs S1 H1 k1 i1 rep1 e1 fin1 => ?_
    refine tA_go k1.sub rep1 e1 fin1 fun es zs S2 H2 k2 i2 rep2 e2 fin2 => ?_
    split at e2 <;> try cases e2
    rename_i hl
    have i12 := (((i1.mono k2.s).append i2).append (hdd S2)).pick perm
    have io : Is T S2 (.ref a) (.obj c fds) := Is.mono (k1.s.trans k2.s) (.obj h hl0 hs)
    refine ⟨i1.length.trans hl.1, i2.length.trans hl.2, S2, _, r, k2.sub, .cons io i12, ?_, e2, fend fin2⟩
    rw [List.length_cons, pick_len fun j hj => ?_, hp]
    rw [List.length_append, List.length_append, i1.length, i2.length, hl.1, hl.2]
    exact hmx j hj
theorem ee_methP {pl : Sem Bool} {np mk : Nat} (MI : MethI T ci m f) (F : FnOk X.prog X.w X.K X.mg X.base (L2N.CX X.prog X.w) k f fd ps (spF T np sem)) (hr : Room k X.A) (hb : ArgB X.K fd ps (n + 1) ks dvs (0 :: perm.map (· + 1))) (tk : L2N.Takes X W) (hp : perm.length + 1 = np)
    (hmx : ∀ j ∈ perm, j < n + ks.length + dvs.length) (hdd : ∀ S, Iss T S dvs dds) (ho : EE X T W o fo) (ha : EA X T W (e :: es) fs) (hkw : EK X T W kws fk) (hK : X.K = T.K := by rfl)
    (hall : (backToKw pos (keywordEach kws X.env)).all (·.1.isSome) = true := by rfl) (hks : (backToKw pos (keywordEach kws X.env)).filterMap (·.1) = ks := by rfl)
    (he : starEach (e :: es) X.env = (false, eval e X.env) :: starEach es X.env := by rfl) (hpl : ((backTo pos (starEach (e :: es) X.env)).any (·.1) || (backToKw pos (keywordEach kws X.env)).any (·.1.isNone)) = false := by rfl)
    (ht : eval (.Call (.Attribute o m apos) (e :: es) kws pos) X.env = (do
      let ov ← eval o X.env
      standAt apos.atName
      let (f, first) ← holding [ov] (getMethod ov m pl)
      callWith pos f first (backTo pos (starEach (e :: es) X.env)) (backToKw pos (keywordEach kws X.env))) := by rfl) (hkl : ks.length = mk := by rfl) :
    EE X T W (.Call (.Attribute o m apos) (e :: es) kws pos) (vMethP ci n mk perm sem dds fo fs fk) := by
  subst hkl
  exact PE.weak (pe_methP (pl := pl) ho (by rw [hK]; exact MI.cls) (by rw [hK]; exact MI.meth) F hr hb tk ha hkw hall hks he hpl ht) fun σ H Q q => wMP MI hp hdd σ H Q hmx q
theorem ee_methP0 {pl : Sem Bool} {np mk : Nat} (MI : MethI T ci m f) (F : FnOk X.prog X.w X.K X.mg X.base (L2N.CX X.prog X.w) k f fd ps (spF T np sem)) (hr : Room k X.A) (hb : ArgB X.K fd ps 1 ks dvs (0 :: perm.map (· + 1))) (tk : L2N.Takes X W) (hp : perm.length + 1 = np)
    (hmx : ∀ j ∈ perm, j < 0 + ks.length + dvs.length) (hdd : ∀ S, Iss T S dvs dds) (ho : EE X T W o fo) (hkw : EK X T W kws fk) (hK : X.K = T.K := by rfl)
    (hall : (backToKw pos (keywordEach kws X.env)).all (·.1.isSome) = true := by rfl) (hks : (backToKw pos (keywordEach kws X.env)).filterMap (·.1) = ks := by rfl)
    (hpl : ((backTo pos (starEach [] X.env)).any (·.1) || (backToKw pos (keywordEach kws X.env)).any (·.1.isNone)) = false := by rfl)
    (ht : eval (.Call (.Attribute o m apos) [] kws pos) X.env = (do
      let ov ← eval o X.env
      standAt apos.atName
      let (f, first) ← holding [ov] (getMethod ov m pl)
      callWith pos f first (backTo pos (starEach [] X.env)) (backToKw pos (keywordEach kws X.env))) := by rfl) (hkl : ks.length = mk := by rfl) :
    EE X T W (.Call (.Attribute o m apos) [] kws pos) (vMethP ci 0 mk perm sem dds fo aNil fk) := by
  subst hkl
  exact PE.weak (pe_methP0 (pl := pl) ho (by rw [hK]; exact MI.cls) (by rw [hK]; exact MI.meth) F hr hb tk hkw hall hks hpl ht) fun σ H Q q => by
    have z := wMP (n := 0) MI hp hdd σ H Q hmx q
    obtain ⟨ρ, S, r, sh, rep, e, fin⟩ := z
    refine ⟨ρ, S, r, sh, rep, e, ?_⟩
    cases r with
    | ok d =>
      intro v S' H' kp i
      obtain ⟨a, dx, fs, h1, h2, h3, ρ2, S3, r3, sh3, rep3, e3, fin3⟩ := fin v S' H' kp i
      cases e3
      exact ⟨a, dx, fs, h1, h2, h3, fin3 [] S3 H' (Kp.refl sh3) .nil⟩
    | ex x => exact fin

/-! ### isinstance of built-in types -/
inductive Ty where
  | non | bl | int | str | lst | tup
def Ty.nm : Ty → String
  | .non => "NoneType" | .bl => "bool" | .int => "int" | .str => "str" | .lst => "list" | .tup => "tuple"
def Ty.le : Ty → Ty → Bool
  | .non, .non => true | .bl, .bl => true | .bl, .int => true | .int, .int => true | .str, .str => true | .lst, .lst => true | .tup, .tup => true
  | _, _ => false
theorem kit_le {K : PySem.W.Frag} (t u : Ty) : PySem.W.kitOne K (.type t.nm) (.type u.nm) = some (t.le u) := by
  refine kit_ty ?_
  cases t <;> cases u <;> decide +kernel
def D.ty : D → Option Ty
  | .non => some .non | .bl _ => some .bl | .int _ => some .int | .str _ => some .str | .lst _ => some .lst | .tup _ => some .tup | .scr _ => some .lst
  | _ => none
theorem ty_of {H : Hp} {v : V} {d : D} {t : Ty} (h : Is T H v d) (e : d.ty = some t) : TyX T.K H v (.type t.nm) := by
  cases h with
  | non => cases e; exact .base .non
  | bl b => cases e; exact .base (.bl _)
  | int b => cases e; exact .base (.int _)
  | str b => cases e; exact .base (.str _)
  | tup h hs =>
    cases e
    rcases h with (h | ⟨o, h⟩) | ⟨o, its, n, h1, h2, _⟩
    · exact .base (.tup h)
    · exact .fTuple h
    · exact .kTuple h1 h2
  | lst h hs => cases e; exact .base (.lst h)
  | obj h hl hs => cases e
  | scr h hl =>
    cases e
    rcases h with (h | ⟨o, h⟩) | ⟨o, its, n, h1, h2, _⟩
    · exact .base (.lst h)
    · exact .base (.frz h)
    · exact .kList h1 h2
def isD (cs : List Ty) (d : D) : Option D := d.ty.map fun t => .bl (cs.any fun u => t.le u)
theorem ee_isi (u : Ty) {y : Str} {q : Pos} (hm : X.mg "isinstance" = none) (hmy : X.mg y = none) (hvy : bootBuiltins y = some (.type u.nm)) (hK : X.K = T.K := by rfl) (hg : Gl X "isinstance" := by rfl) (hgy : Gl X y := by rfl) (hny : y ≠ "__name__" := by decide) (hdy : (y == ("__debug__" : Str)) = false := by decide)
    (he : starEach (a :: [.Name y q]) X.env = (false, eval a X.env) :: starEach [.Name y q] X.env := by rfl) (he2 : starEach [.Name y q] X.env = (false, eval (.Name y q) X.env) :: starEach [] X.env := by rfl) (hpl : (backTo pos (starEach [.Name y q] X.env)).any (·.1) = false := by rfl)
    (ha : EE X T W a fa) : EE X T W (.Call (.Name "isinstance" p) [a, .Name y q] [] pos) (v1 (isD [u]) fa) := by
  refine PE.weak (pe_callB call_isi hg hm (by decide +kernel) (pa_cons ha (pa_cons (pe_bltn (v := .ty u.nm) hgy hmy hvy rfl hny hdy) pa_nil he2) he) (by decide) (by decide) he hpl) fun σ H Q q => ?_
  obtain ⟨ρ, S, z, sh, rep, e, fin⟩ := q
  refine tF_go sh rep e fin fun d x S1 H1 k1 i1 rep1 e1 fin1 => ?_
  obtain ⟨r, e3, rfl⟩ := okO_inv e1
  obtain ⟨t, e4, rfl⟩ := Option.map_eq_some_iff.mp e3
  refine ⟨x, .ty u.nm, _, _, _, rfl, .ty _, by rw [hK]; exact ty_of (i1.mono k1.sub.same) e4, kit_le t u, ?_⟩
  have : [u].any (fun u => t.le u) = t.le u := by simp
  rw [this] at fin1
  exact fin1 _ S1 H1 (Kp.refl k1.sub) (.bl _)
theorem kitAny_le {K : PySem.W.Frag} (t : Ty) : ∀ us : List Ty, PySem.W.kitAny K (.type t.nm) (us.map fun u => .type u.nm) = some (us.any fun u => t.le u)
  | [] => rfl
  | u :: us => by
    rw [List.map_cons, List.any_cons]
    refine kitAny_cons (b := t.le u) (kit_le t u) (fun h => ?_) fun h => ?_
    · rw [h, Bool.false_or]; exact kitAny_le t us
    · rw [h]; rfl
/-- the classes written as a tuple -/
inductive PTy (X : Cx) : List Expr → List Ty → Prop where
  | nil : PTy X [] []
  | cons {y : Str} {q : Pos} {es : List Expr} {u : Ty} {us : List Ty} (hmy : X.mg y = none) (hvy : bootBuiltins y = some (.type u.nm)) (hr : PTy X es us) (hgy : Gl X y := by rfl) (hny : y ≠ "__name__" := by decide) (hdy : (y == ("__debug__" : Str)) = false := by decide)
      (he : starEach (.Name y q :: es) X.env = (false, eval (.Name y q) X.env) :: starEach es X.env := by rfl) : PTy X (.Name y q :: es) (u :: us)
theorem PTy.pa {es : List Expr} {us : List Ty} (h : PTy X es us) : PA X es (fun _ H Q => Q (us.map fun u => V.ty u.nm) H) := by
  induction h with
  | nil => exact pa_nil
  | cons hmy hvy hr hgy hny hdy he ih => exact pa_cons (pe_bltn (v := .ty _) hgy hmy hvy rfl hny hdy) ih he
theorem PTy.clsV : ∀ us : List Ty, Paired ClsV (us.map fun u => V.ty u.nm) (us.map fun u => Value.type u.nm)
  | [] => .nil
  | u :: us => .cons (.ty _) (PTy.clsV us)
theorem ee_isiT (us : List Ty) {q : Pos} {x1} (h : PTy X es us) (hl : us.length ≤ 20) (hm : X.mg "isinstance" = none) (hK : X.K = T.K := by rfl) (hg : Gl X "isinstance" := by rfl)
    (he : starEach (a :: [.Tuple es x1 q]) X.env = (false, eval a X.env) :: starEach [.Tuple es x1 q] X.env := by rfl) (he2 : starEach [.Tuple es x1 q] X.env = (false, eval (.Tuple es x1 q) X.env) :: starEach [] X.env := by rfl) (hpl : (backTo pos (starEach [.Tuple es x1 q] X.env)).any (·.1) = false := by rfl)
    (ha : EE X T W a fa) : EE X T W (.Call (.Name "isinstance" p) [a, .Tuple es x1 q] [] pos) (v1 (isD us) fa) := by
  refine PE.weak (pe_callB call_isiT hg hm (by decide +kernel) (pa_cons ha (pa_cons (pe_tup h.pa) pa_nil he2) he) (by decide) (by decide) he hpl) fun σ H Q q => ?_
  obtain ⟨ρ, S, z, sh, rep, e, fin⟩ := q
  refine tF_go sh rep e fin fun d x S1 H1 k1 i1 rep1 e1 fin1 => ?_
  obtain ⟨r, e3, rfl⟩ := okO_inv e1
  obtain ⟨t, e4, rfl⟩ := Option.map_eq_some_iff.mp e3
  refine ⟨by rw [List.length_map]; exact line_of (by omega), fun tp hp => ?_⟩
  have k2 := Kp.new (o := .tup (us.map fun u => V.ty u.nm)) k1.sub hp
  refine ⟨x, tp, _, _, _, _, rfl, upd_same, PTy.clsV us, by rw [hK]; exact ty_of (((i1.mono k2.s)).mono k2.sub.same) e4, kitAny_le t us, ?_⟩
  exact fin1 _ _ _ k2 (.bl _)
end
end EV
end

section
set_option maxHeartbeats 4000000
/-! EV11: enumerate of lists and tuples, x += e, sorted(set(e)). -/
namespace EV
open PySem L2

/-- a list (false) or a tuple (true) -/
def SqK (K : PySem.W.Frag) : Bool → Hp → Addr → List V → Prop
  | true => SqT K
  | false => SqL K
def IsK : Bool → Heap → Addr → Array Value → Prop
  | true => fun h a its => h.IsTuple a its
  | false => fun h a its => h.IsList a its
def itO : Bool → Addr → Obj
  | true, a => { cls := .type "tuple_iterator", data := .fields #[.ref a, .int 0 0] }
  | false, a => { cls := .type "list_iterator", data := .fields #[.ref a, .int 0 0] }
def stK : Bool → Addr → Addr → Nat → Heap → Prop
  | true, it, a, i => fun h => h.IsTupleIter it a i
  | false, it, a, i => fun h => h.IsListIter it a i
theorem beginsK : ∀ (k : Bool) (a : Addr) (its : Array Value), Begins (.ref a) (itO k a) fun h => IsK k h a its
  | true, a, its => begins_tuple a its
  | false, a, its => begins_list a its
theorem itO_st {h : Heap} {it a : Addr} : ∀ {k : Bool}, h.get? it = some (itO k a) → stK k it a 0 h
  | true, e => ⟨_, e, rfl, rfl⟩
  | false, e => ⟨_, e, rfl, rfl⟩
theorem itO_free {k : Bool} {a : Addr} : (itO k a).isFreed = false := by cases k <;> rfl
theorem drawsK {prog : Program} {w : World} {A : Around} (hh : A.handled = none) (it a : Addr) (hne : a ≠ it) (its : Array Value) : ∀ k : Bool,
    Draws prog w A it [it, a] its.size (fun i v => its[i]? = some v) (fun i h => stK k it a i h ∧ IsK k h a its)
  | true => Draws.tuple hh it a hne its
  | false => Draws.list hh it a hne its
theorem stK_live {h : Heap} {it a : Addr} {i : Nat} : ∀ {k : Bool}, stK k it a i h → ∃ o, h.get? it = some o ∧ ∀ v, o.data ≠ .cell v
  | true, ⟨o, e, _, d⟩ => ⟨o, e, fun v q => by rw [d] at q; cases q⟩
  | false, ⟨o, e, _, d⟩ => ⟨o, e, fun v q => by rw [d] at q; cases q⟩
theorem stK_at {h h' : Heap} {it a : Addr} {i : Nat} : ∀ {k : Bool}, stK k it a i h → (∀ o, h.get? it = some o → h'.get? it = some o) → stK k it a i h'
  | true, st, q => Heap.IsTupleIter.at st q
  | false, st, q => Heap.IsListIter.at st q
theorem stK_ne {h : Heap} {it a b : Addr} {i : Nat} {its : Array Value} : ∀ {k k' : Bool}, stK k it a i h → IsK k' h b its → b ≠ it
  | true, true, ⟨o, e, c, _⟩, ⟨u, e', c', _⟩ => fun z => by subst z; rw [e] at e'; cases e'; rw [c] at c'; injection c' with c'; exact absurd c' (by decide)
  | true, false, ⟨o, e, c, _⟩, ⟨u, e', c', _⟩ => fun z => by subst z; rw [e] at e'; cases e'; rw [c] at c'; injection c' with c'; exact absurd c' (by decide)
  | false, true, ⟨o, e, c, _⟩, ⟨u, e', c', _⟩ => fun z => by subst z; rw [e] at e'; cases e'; rw [c] at c'; injection c' with c'; exact absurd c' (by decide)
  | false, false, ⟨o, e, c, _⟩, ⟨u, e', c', _⟩ => fun z => by subst z; rw [e] at e'; cases e'; rw [c] at c'; injection c' with c'; exact absurd c' (by decide)
theorem isK_ne {h : Heap} {e b : Addr} {its : Array Value} {o : Obj} {T : String} (ho : h.get? e = some o) (hc : o.cls = .type T) (h1 : T ≠ "list") (h2 : T ≠ "tuple") : ∀ {k : Bool}, IsK k h b its → e ≠ b
  | true, ⟨u, e', c', _⟩ => fun z => by subst z; rw [ho] at e'; cases e'; rw [hc] at c'; cases c'; exact h2 rfl
  | false, ⟨u, e', c', _⟩ => fun z => by subst z; rw [ho] at e'; cases e'; rw [hc] at c'; cases c'; exact h1 rfl
section
variable {X : Cx} {pins : List (Addr × Obj)} {σ : L2.St} {H : Hp} {s : Shared} {a : Addr} {xs ys : List V}
theorem sqK_get (I : Inv X pins σ H s) : ∀ {k : Bool}, SqK X.K k H a xs → ∃ its : List Value, Vals xs its ∧ IsK k s.heap a its.toArray
  | true, h => let ⟨its, r, p, _⟩ := I.tuple h; ⟨its, r, p⟩
  | false, h => let ⟨its, r, p, _⟩ := I.list h; ⟨its, r, p.isList⟩
theorem sqK_inj (I : Inv X pins σ H s) : ∀ {k : Bool}, SqK X.K k H a xs → SqK X.K k H a ys → xs = ys
  | true, h, h' => I.tuple_inj h h'
  | false, h, h' => I.list_inj h h'
end
theorem sqK_same {K : PySem.W.Frag} {H H' : Hp} {a : Addr} {xs : List V} (e : Same H H') : ∀ {k : Bool}, SqK K k H a xs → SqK K k H' a xs
  | true, h => Same.seqT e h
  | false, h => e.seq h

/-! ### enumerate -/
def Itn (K : PySem.W.Frag) (k : Bool) (a : Addr) : It :=
  ⟨fun i H => ∃ (xs : List V) (x : V), SqK K k H a xs ∧ xs[i]? = some x, fun i H v H' => ∃ T x, v = .ref T ∧ H T = none ∧ H' = L2.upd H T (.tup [.int (i : Nat), x]) ∧ ∀ xs, SqK K k H a xs → xs[i]? = some x, fun i H => ∃ xs : List V, SqK K k H a xs ∧ xs.length = i⟩
theorem turn_itn {P : Program} {w : World} {K : PySem.W.Frag} {elts : List Expr} {kk : Nat} {tpos : Pos} (k : Bool) (a e it : Addr) :
    Turn P w K (.Tuple elts kk tpos) (Itn K k a) [e, it] e (fun i h => (∃ old, IsEnum h e it ((i : Nat) : Int) old) ∧ stK k it a i h ∧ e ≠ it) where
  mem := List.mem_cons_self
  obj := fun i h st b hb => by
    obtain ⟨⟨old, he⟩, hi, _⟩ := st
    rcases List.mem_cons.mp hb with z | z
    · subst z; exact ⟨_, he, fun v q => nomatch q⟩
    · rw [List.mem_singleton.mp z]; exact stK_live hi
  keep := fun i h h' st q => ⟨⟨st.1.choose, q e (by simp) _ st.1.choose_spec⟩, stK_at st.2.1 fun o z => q it (by simp) o z, st.2.2⟩
  item := by
    intro X hP hw hK hc i pins s σ H E I hf st hg
    subst hP hw hK
    obtain ⟨⟨old, he⟩, hi, hne⟩ := st
    obtain ⟨xs, x, hq, hx⟩ := hg
    obtain ⟨its, rv, p⟩ := sqK_get I hq
    obtain ⟨u, hu, ru⟩ := rv.get hx
    have hai : a ≠ it := stK_ne hi p
    have hea : e ≠ a := isK_ne he rfl (by decide) (by decide) p
    have hel : e < s.heap.objs.size := Heap.lt_size he
    have hil : it < s.heap.objs.size := by obtain ⟨_, q, _⟩ := stK_live hi; exact Heap.lt_size q
    have hlt : i < its.toArray.size := by
      have := (List.getElem?_eq_some_iff.mp hu).1
      simpa using this
    refine wpAny_pyNext_enum_itemD (drawsK (A := X.A.in1) (I.ok.hd hc) it a hai its.toArray k) he ⟨hi, p⟩ hlt hne (by simp [hne, hea]) fun v h1 tk hv ho st1 hT hsz hk => ?_
    have ev : v = u := by
      have e1 : its.toArray[i]? = some u := by simpa using hu
      rw [e1] at hv
      exact (Option.some.inj hv).symm
    subst ev
    refine ⟨_, rfl, wpAny_letOwnedTupleGo_enum (s := { s with heap := h1, toks := tk + 1 }) ho fun h2 he2 sb => ?_⟩
    have hT2 : h2.get? s.heap.objs.size = some { cls := .type "tuple", data := .seq #[.int i tk, v] } := (sb.2 _ (Nat.ne_of_gt hel)).trans hT
    have new : ObjOk X.prog X.w (L2.upd H s.heap.objs.size (.tup [.int (i : Nat), x])) h2 s.heap.objs.size (.tup [.int (i : Nat), x]) :=
      ⟨by show 2 ≤ sizeLine; decide, [.int i tk, v], .cons ⟨_, rfl⟩ (.cons ru .nil), ⟨_, hT2, rfl, _, rfl⟩⟩
    have I1 : Inv X pins σ (L2.upd H s.heap.objs.size (.tup [.int (i : Nat), x])) { s with heap := h2, toks := tk + 1 } :=
      I.turnedNew (ch := [e, it]) (fun b ob hb q => (sb.2 b (fun z => hb (by simp [z]))).trans (hk b ob (fun z => hb (by simp [z])) (fun z => hb (by simp [z])) q)) hf (Nat.le_refl _) new
    refine ⟨.ref s.heap.objs.size, _, I1, rfl, ⟨_, x, rfl, I.hok.fresh (Nat.le_refl _), rfl, fun ys hy => by rw [sqK_inj I hy hq]; exact hx⟩, ⟨⟨v, ?_⟩, stK_at st1.1 fun o q => (sb.2 it (Ne.symm hne)).trans q, hne⟩, fun b hb => ?_⟩
    · have e1 : ((i + 1 : Nat) : Int) = (i : Int) + 1 := by omega
      rw [e1]; exact he2
    · have hb' : b < s.heap.objs.size := by
        rcases List.mem_cons.mp hb with z | z
        · rw [z]; exact hel
        · rw [List.mem_singleton.mp z]; exact hil
      rw [upd_ne (Nat.ne_of_lt hb')]
      exact (hf b hb).1
  done := by
    intro X hP hw hK hc i pins s σ H E I hf st hg
    subst hP hw hK
    obtain ⟨⟨old, he⟩, hi, hne⟩ := st
    obtain ⟨xs, hq, hx⟩ := hg
    obtain ⟨its, rv, p⟩ := sqK_get I hq
    have hai : a ≠ it := stK_ne hi p
    obtain ⟨f0, f1, f2, f3, f4, f5⟩ := hf it (by simp)
    have hn : its.toArray.size = i := by
      have := rv.length
      simp
      omega
    refine wpAny_pyNext_enum_endD (drawsK (A := X.A.in1) (I.ok.hd hc) it a hai its.toArray k) he ⟨by rw [hn]; exact hi, p⟩ fun h1 eb => ⟨rfl, I.turned (t' := s.toks) (fun b o hb q => eb b o hb q) f0 f1 f3 f4 f5⟩
  self := fun A i s Q E st h => wpAny_pyIter_enum st.1.choose_spec h
theorem meets_enum1 {v : Value} {o : Obj} {G : Heap → Prop} (B : Begins v o G) :
    Meets (Builtin.«enumerate.__new__» ⟨[.type "enumerate", v], []⟩) (fun _ R s => G s.heap ∧
      R (.ok (.ret (.ref (s.heap.push o).objs.size))) { s with heap := (s.heap.push o).push { cls := .type "enumerate", data := .fields #[.none, .bool false, .ref s.heap.objs.size, rawInt 0, .none, .none] } }) :=
  .of_wp fun prog w A R s h => by
    obtain ⟨hp, g, d, tk, os⟩ := s
    obtain ⟨h1, h⟩ := h
    have isE := sub_enumerate
    have begun : ∀ {A' : Around} {E : Value → Shared → Prop} {Q : Value → Shared → Prop}, Q (.ref hp.objs.size) ⟨hp.push o, g, d, tk, os⟩ → wpAny (model prog w) A' (pyIter v) Q E ⟨hp, g, d, tk, os⟩ :=
      fun q => B.iter prog w _ _ ⟨hp, g, d, tk, os⟩ _ h1 q
    wp_walk using begun
    refine wpAny_stack_any fun st => wpAny_pure ?_
    split
    · rename_i cc _ _ _ _ _
      cases (cc == Value.type "enumerate")
      · wp_walk using begun
        exact ⟨_, rfl, h⟩
      · wp_walk using begun
        exact ⟨_, rfl, h⟩
    · wp_walk using begun
      exact ⟨_, rfl, h⟩
section
variable {prog : Program} {w : World} {A : Around} {E : Value → Shared → Prop} {s : Shared}
theorem call_enum1 {v : Value} {o : Obj} {G : Heap → Prop} {Q : Value → Shared → Prop} (B : Begins v o G) (h1 : G s.heap)
    (h : ∀ h', IsEnum h' (s.heap.objs.size + 1) s.heap.objs.size 0 .none → h'.get? s.heap.objs.size = some o → (∀ b o, s.heap.get? b = some o → h'.get? b = some o) → Q (.ref (s.heap.objs.size + 1)) { s with heap := h' }) :
    wpAny (model prog w) A (call (.type "enumerate") [v]) Q E s := by
  refine callType_new F.called_enumerate (by decide) (F.typeCall_enumerate_1 _) (F.newCall_enumerate_1 _) (fun obj => F.args_object_init_2 obj _) F.entry_enumerate_new (meets_enum1 B) ⟨h1, ?_⟩
  have hz : (s.heap.push o).objs.size = s.heap.objs.size + 1 := Heap.size_push ..
  have he : ∀ n, n = (s.heap.push o).objs.size → IsEnum ((s.heap.push o).push { cls := .type "enumerate", data := .fields #[.none, .bool false, .ref s.heap.objs.size, rawInt 0, .none, .none] }) n s.heap.objs.size 0 .none := fun n q => by
    rw [q]
    exact Heap.get?_push_size _ rfl
  show _ ∧ _
  rw [hz]
  exact ⟨⟨_, he _ hz.symm, rfl⟩, h _ (he _ hz.symm) (Heap.get?_push_of_some _ (Heap.get?_push_size _ B.free)) fun b o x => Heap.get?_push_of_some _ (Heap.get?_push_of_some _ x)⟩
end
section
variable {X : Cx} {T : Tab} {W : WX} {e : Expr} {fa : FE} {p pos tpos : Pos} {elts : List Expr} {kk : Nat}
def iEn (K : PySem.W.Frag) (ta : TA) : TI := fun σ H R => ta σ H fun vs H1 => ∃ a xs k, vs = [.ref a] ∧ SqK K k H1 a xs ∧ R (Itn K k a) H1
theorem pi_en {ta : TA} (hg : Gl X "enumerate") (hm : X.mg "enumerate" = none) (ha : PA X [e] ta) (hs : starEach [e] X.env = [(false, eval e X.env)] := by rfl) : PI X (.Tuple elts kk tpos) (.Call (.Name "enumerate" p) [e] [] pos) (iEn X.K ta) := by
  refine ⟨fun pins s σ H R I h => ?_⟩
  refine PyProof.Rows.Call_ (ld_blt I hg hm PyProof.Rows.boot_enumerate (PyProof.Rows.callWith_type1 (thn (ha.run pos pins s σ H _ I h) fun us s1 ⟨vs, H1, I1, r1, q1⟩ => ?_) hs rfl))
  obtain ⟨a, xs, k, rfl, hq, q⟩ := q1
  cases r1 with
  | cons r rr =>
    cases rr
    cases r
    obtain ⟨its, rv, pk⟩ := sqK_get I1 hq
    refine call_enum1 (beginsK k a its.toArray) pk fun h' he hi hk => wpAny_pyIter_enum he ?_
    have I2 : Inv X pins σ H1 { s1 with heap := h' } := I1.kept (t' := s1.toks) hk
    refine ⟨s1.heap.objs.size + 1, [s1.heap.objs.size + 1, s1.heap.objs.size], _, _, H1, rfl, I2, turn_itn k a (s1.heap.objs.size + 1) s1.heap.objs.size, ⟨⟨.none, he⟩, itO_st hi, Nat.succ_ne_self _⟩, fun b hb => ?_, q⟩
    have hle : s1.heap.objs.size ≤ b := by
      rcases List.mem_cons.mp hb with z | z
      · rw [z]; exact Nat.le_add_right _ _
      · rw [List.mem_singleton.mp z]; exact Nat.le_refl _
    exact I1.fpOk hle (I1.hok.fresh hle)
def enumFrom : Nat → List D → List D
  | _, [] => []
  | n, d :: ds => .tup [.int n, d] :: enumFrom (n + 1) ds
theorem enumFrom_length : ∀ (ds : List D) (n : Nat), (enumFrom n ds).length = ds.length
  | [], _ => rfl
  | d :: ds, n => by simp [enumFrom, enumFrom_length ds]
theorem enumFrom_get : ∀ (ds : List D) (n i : Nat) (d : D), ds[i]? = some d → (enumFrom n ds)[i]? = some (.tup [.int ((n + i : Nat) : Int), d])
  | [], _, _, _, h => by simp at h
  | d :: ds, n, 0, e, h => by simp at h; subst h; simp [enumFrom]
  | d :: ds, n, i + 1, e, h => by
    have := enumFrom_get ds (n + 1) i e (by simpa using h)
    simp only [enumFrom, List.getElem?_cons_succ, this]
    rw [show n + 1 + i = n + (i + 1) by omega]
def iEnum (f : FE) : FL := fun ρ => R1L (f ρ) fun d => (seqD d).map fun ds => RL.ok (enumFrom 0 ds)
theorem iw_enum {K : PySem.W.Frag} (hK : K = T.K) {k : Bool} {a : Addr} {vs : List V} {ds : List D} {S1 H1 : Hp} {σ : L2.St} (h : SqK K k S1 a vs) (hs : Iss T S1 vs ds) : IW T (Itn K k a) S1 (enumFrom 0 ds) := by
  refine ⟨fun i S H s sh hi => ?_, fun S H s sh => ?_, fun i S H x H' s sh hi y => ?_⟩
  · rw [enumFrom_length, ← hs.length] at hi
    exact ⟨vs, vs[i], sqK_same sh.same (sqK_same s h), List.getElem?_eq_getElem hi⟩
  · exact ⟨vs, sqK_same sh.same (sqK_same s h), by rw [enumFrom_length, hs.length]⟩
  · obtain ⟨Tn, x', rfl, hn, rfl, hx⟩ := y
    obtain ⟨d, h1, h2⟩ := hs.get (hx vs (sqK_same sh.same (sqK_same s h)))
    have kp := Kp.new (o := .tup [.int (i : Nat), x']) sh hn
    refine ⟨.tup [.int (i : Nat), d], _, ?_, kp, .tup (SqT.of upd_same) (.cons (.int _) (.cons ((h2.mono s).mono kp.s) .nil))⟩
    have := enumFrom_get ds 0 i d h1
    rw [Nat.zero_add] at this
    exact this
theorem ei_enum (hm : X.mg "enumerate" = none) (ha : EE X T W e fa) (hK : X.K = T.K := by rfl) (hg : Gl X "enumerate" := by rfl) (hs : starEach [e] X.env = [(false, eval e X.env)] := by rfl) (hs2 : starEach [e] X.env = (false, eval e X.env) :: starEach [] X.env := by rfl) :
    EI X T W (.Tuple elts kk tpos) (.Call (.Name "enumerate" p) [e] [] pos) (iEnum fa) := by
  refine PI.weak (pi_en hg hm (pa_cons ha pa_nil hs2) hs) fun σ H R q => ?_
  obtain ⟨ρ, S, r, sh, rep, e, fin⟩ := q
  show tF T W fa σ H _
  refine tF_goI sh rep e fin fun d v S1 H1 k i rep1 e1 fin1 => ?_
  obtain ⟨ds, e2, rfl⟩ := Option.map_eq_some_iff.mp e1
  unfold seqD at e2
  split at e2 <;> cases e2
  · cases i with
    | lst h hs => exact ⟨_, _, false, rfl, SqL.of (k.sub.same _ _ h), fin1 _ S1 H1 (Kp.refl k.sub) (iw_enum (H1 := H1) (σ := σ) hK (k := false) (SqL.of h) hs)⟩
  · cases i with
    | tup h hs => exact ⟨_, _, true, rfl, Same.seqT k.sub.same (by rw [hK]; exact h), fin1 _ S1 H1 (Kp.refl k.sub) (iw_enum (H1 := H1) (σ := σ) hK (k := true) (by show SqT X.K _ _ _; rw [hK]; exact h) hs)⟩
  · cases i with
    | scr h l => exact ⟨_, _, false, rfl, k.sub.same.seq (by rw [hK]; exact h), fin1 _ S1 H1 (Kp.refl k.sub) (iw_enum (H1 := H1) (σ := σ) hK (k := false) (by show SqL X.K _ _ _; rw [hK]; exact h) (Iss.ints _))⟩
end

/-! ### set(xs) of a list of ints -/
abbrev sO (w : World) : Obj := { cls := .type "set", dict := none, data := .set #[] 0 (.fresh 0 0 (!w.params.followText "set-order")) }
section
open PyProof.Rows Calls
variable {P : Program} {w : World} {A : Around} {E : Value → Shared → Prop} {s : Shared}
set_option maxHeartbeats 3200000 in
theorem call_set_lstI {l : Addr} {items : Array Value} (ns : List Int) {Q : Value → Shared → Prop} (hh : A.handled = none) (hl : s.heap.IsList l items) (hit : IntsAre items.toList ns) (hb : ns.length + 1 < scanBound)
    (h : ∀ (h' : Heap) (tk c : Nat), SetR w h' s.heap.objs.size (fun j => decide (j ∈ ns)) c → c ≤ ns.length → (∀ b o, s.heap.get? b = some o → h'.get? b = some o) → Q (.ref s.heap.objs.size) { s with heap := h', toks := tk }) :
    wpAny (model P w) A (call (.type "set") [.ref l]) Q E s := by
  have lenE : items.size = ns.length := by
    have q := IntsAre.length hit
    rw [Array.length_toList] at q
    exact q
  obtain ⟨c, tl, mroE⟩ := F.called_set.mro
  have madeE := F.called_set.made
  have subE := F.called_set.sub
  refine wpAny_call (codeAny_of_tree ?_)
  show wpAny _ _ (callAny (.type "set") _) _ _ _
  refine wpAny_pure ⟨Code.quiet_builtin _ (by decide +kernel), codeAny_builtin F.entry_type_call ?_⟩
  rw [Around.under_plain (weight_type_call_type "set" [.ref l] []) rfl]
  have nT := F.called_set.notType
  have nC := F.called_set.canCreate
  have tcE := F.typeCall_set_1 (.ref l)
  repeat (any_goals (first | assumption | wp_step))

  refine codeAny_mono (code_set_led1 (.ref l) (E := E) (Q₁ := fun ob sA => ob = .ref s.heap.objs.size ∧ sA = { s with heap := s.heap.push (sO w) }) ⟨rfl, rfl⟩) fun r sA hrA => ?_
  cases r with
  | error e => exact hrA
  | ok fl =>
    cases fl with
    | ret ob =>
      obtain ⟨rfl, rfl⟩ := hrA
      have gotS : (s.heap.push (sO w)).get? s.heap.objs.size = some (sO w) := Heap.get?_push_size _ rfl
      have tyS : Shared.TypeIs { s with heap := s.heap.push (sO w) } (.ref s.heap.objs.size) "set" := ⟨_, gotS, rfl⟩
      have liE := F.called_set.init.lookup
      have biE := F.called_set.init.bind (.ref s.heap.objs.size)
      repeat (any_goals (first | assumption | wp_step))

      refine codeAny_mono (codeAny_call_builtin (R := wants (fun r sB => r = .none ∧ ∃ h' tk c, sB = { s with heap := h', toks := tk } ∧ SetR w h' s.heap.objs.size (fun j => decide (j ∈ ns)) c ∧ c ≤ ns.length ∧
          (∀ b o, s.heap.get? b = some o → h'.get? b = some o)) E) F.called_set.init.plain F.entry_set_init (check_set_init_1 tyS ?_)) fun rB sB hrB => ?_
      · obtain ⟨oo, seqE, hkc, nn, hkd⟩ := hl
        obtain ⟨kc, kd, ks, ksl⟩ := oo
        simp only at hkc hkd
        subst hkc; subst hkd
        have seqE' : (s.heap.push (sO w)).get? l = some { cls := .type "list", dict := kd, data := .seq items nn, slots := ksl } := Heap.get?_push_of_some _ seqE
        have nse1 := F.sub_list_set
        have nse2 := F.sub_list_frozenset
        have nd1 : (Value.type "list" == Value.type "dict") = false := by decide
        have isL : (s.heap.push (sO w)).IsList l items := ⟨_, seqE', rfl, nn, rfl⟩
        unfold Builtin.«set.__init__» noKeywords Builtin.Frozenset.updateFrom
        generalize hPIt : pyIter = PIt
        wp_walk
        subst hPIt

        refine wpAny_pyIter_list isL ?_
        refine wpAny_bind (wpAny_runValue ?_)
        have ltS : l < s.heap.objs.size := Heap.lt_size seqE
        have noH : A.in1.in1.in1.handled = none := by simp [hh]
        have szE : (s.heap.push (sO w)).objs.size = s.heap.objs.size + 1 := Heap.size_push ..
        have apI : l ≠ (s.heap.push (sO w)).objs.size := by
          rw [Heap.size_push]; exact Nat.ne_of_lt (Nat.lt_succ_of_lt ltS)
        have apS : s.heap.objs.size ∉ [(s.heap.push (sO w)).objs.size, l] := by
          rw [Heap.size_push]; simp only [List.mem_cons, List.mem_singleton, List.not_mem_nil, or_false, not_or]
          exact ⟨Nat.ne_of_lt (Nat.lt_succ_self _), Nat.ne_of_gt ltS⟩
        have valE : ∀ (i : Nat) (v : Value), items[i]? = some v → ∃ k t, ns[i]? = some k ∧ v = .int k t := fun i v hv => by
          have hi : i < ns.length := by rw [← lenE]; exact (Array.getElem?_eq_some_iff.mp hv).1
          obtain ⟨t, e⟩ := PyProof.Rows.IntsAre.int_at hit i v (by rw [Array.getElem?_toList]; exact hv)
          refine ⟨ns[i], t, List.getElem?_eq_getElem hi, ?_⟩
          rw [e, List.getD_eq_getElem?_getD, List.getElem?_eq_getElem hi] <;> rfl
        refine set_update_ints ((Walks.list noH _ l apI items).toS) s.heap.objs.size
          apS ns lenE hb valE (items.size - 0) 0 _ (by omega) (Nat.zero_le _)
          ⟨⟨_, Heap.get?_push_size _ rfl, rfl, rfl⟩, (isL.push _)⟩ ?hS0 ?hR
        case hS0 =>
          have getS : ((s.heap.push (sO w)).push { cls := .type "list_iterator", data := .fields #[.ref l, .int 0 0] }).get? s.heap.objs.size
              = some (sO w) := Heap.get?_push_of_some _ gotS
          exact ⟨0, Nat.le_refl 0, setR_new_at getS⟩
        case hR =>
          intro s' c' mv hcc gotS'
          obtain ⟨h', g2, d', tk', os'⟩ := s'
          have qg : g2 = s.gens := mv.gens
          have qd : d' = s.drawn := mv.drawn
          have qo : os' = s.os := mv.os
          subst qg; subst qd; subst qo
          show wpAny _ _ _ _ _ _
          refine wpAny_pure ?_
          show wpAny _ _ (ret Value.none) _ _ _
          rw [lenE] at hcc
          refine wpAny_pure ⟨rfl, h', tk', c', rfl, gotS', hcc, fun b o e => ?_⟩
          have b0 : b < s.heap.objs.size := Heap.lt_size e
          have b1 : b ≠ s.heap.objs.size := Nat.ne_of_lt b0
          have b2 : b ≠ (s.heap.push (sO w)).objs.size := by
            rw [Heap.size_push]; exact Nat.ne_of_lt (Nat.lt_succ_of_lt b0)
          exact mv.heap b o (by simp only [List.mem_cons, List.mem_singleton, List.not_mem_nil, or_false, not_or]; exact ⟨b1, b2⟩) (Heap.get?_push_of_some _ (Heap.get?_push_of_some _ e))

      · cases rB with
        | error e => exact hrB
        | ok flB =>
          cases flB with
          | ret r =>
            obtain ⟨rfl, h', tk, c', rfl, gotS', hcc, hkk⟩ := hrB
            repeat (any_goals (first | assumption | wp_step))
            exact h _ _ _ gotS' hcc hkk
          | _ => exact hrB.elim
    | _ => exact hrA.elim

end
/-! ### x += e of ints -/
section
variable {X : Cx} {T : Tab} {W : WX} {e a : Expr} {f fa : FE} {x : Str} {i : Nat} {p pos : Pos}
def gAug (i : Nat) (f : FE) : FS := fun ρ => match ρ[i]? with
  | some (.v (.int k)) => RS (f ρ) ρ fun
    | .int j => some (.nx (ρ.set i (.v (.int (k + j)))))
    | _ => none
  | _ => none
theorem ss_aug (i : Nat) (hN : X.N.Nodup) (hi : X.N[i]? = some x := by rfl) (hx : Loc X.env.scope x := by first | exact .inl rfl | exact .inr rfl) (hf : X.fn x = true ∨ X.env.scope.names.lookup x = some .local := by first | exact .inl rfl | exact .inr rfl)
    (he : EE X T W e f) : SS X T W (.AugAssign (.Name x p) .Add e pos) (gAug i f) := by
  refine PS.weak (ps_aug (ti := rI0 fun i j => .int (i + j)) hN hi hx he (fun pins s σ H x y u v Q I r1 r2 q => iop_add pins s σ H x y u v Q I r1 r2 q) hf) fun Dn σ H q => ?_
  obtain ⟨ρ, S, L, o, r, e, fin⟩ := q
  unfold gAug at e
  split at e <;> try cases e
  rename_i k hk
  obtain ⟨v, h1, h2⟩ := r.v i _ hk
  cases h2
  refine ⟨_, h1, ?_⟩
  refine sB r e fin fun d v S' H' kp hi r' e' fin' => ?_
  split at e' <;> cases e'
  cases hi
  exact ⟨k, _, rfl, rfl, fin' _ S' H' _ (r'.setV (.int _)) Stp.off⟩
end
end EV
end

section
set_option maxHeartbeats 4000000
/-! EV12: sorted(set(e)); constants of the module. -/
namespace EV
open PySem L2

/-- into a rising list -/
def insI (x : Int) : List Int → List Int
  | [] => [x]
  | y :: ys => if x < y then x :: y :: ys else if x = y then y :: ys else y :: insI x ys
def ascI : List Int → List Int
  | [] => []
  | x :: xs => insI x (ascI xs)
theorem mem_insI {x k : Int} : ∀ {ys : List Int}, k ∈ insI x ys ↔ k = x ∨ k ∈ ys
  | [] => by simp [insI]
  | y :: ys => by
    unfold insI
    split
    · simp
    · split
      · rename_i h; subst h; simp
      · rw [List.mem_cons, mem_insI (ys := ys), List.mem_cons]
        constructor
        · rintro (h | h | h)
          · exact .inr (.inl h)
          · exact .inl h
          · exact .inr (.inr h)
        · rintro (h | h | h)
          · exact .inr (.inl h)
          · exact .inl h
          · exact .inr (.inr h)
theorem insI_rise {x : Int} : ∀ {ys : List Int}, ys.Pairwise (· < ·) → (insI x ys).Pairwise (· < ·)
  | [], _ => by simp [insI]
  | y :: ys, h => by
    obtain ⟨h1, h2⟩ := List.pairwise_cons.mp h
    unfold insI
    split
    · rename_i hx
      refine List.pairwise_cons.mpr ⟨fun z hz => ?_, h⟩
      rcases List.mem_cons.mp hz with rfl | hz
      · exact hx
      · exact Int.lt_trans hx (h1 z hz)
    · split
      · exact h
      · refine List.pairwise_cons.mpr ⟨fun z hz => ?_, insI_rise h2⟩
        rcases mem_insI.mp hz with rfl | hz
        · omega
        · exact h1 z hz
theorem ascI_rise : ∀ xs : List Int, (ascI xs).Pairwise (· < ·)
  | [] => .nil
  | x :: xs => insI_rise (ascI_rise xs)
theorem mem_ascI {k : Int} : ∀ {xs : List Int}, k ∈ ascI xs ↔ k ∈ xs
  | [] => by simp [ascI]
  | x :: xs => by rw [ascI, mem_insI, mem_ascI (xs := xs), List.mem_cons]
theorem rise_ext : ∀ {xs ys : List Int}, xs.Pairwise (· < ·) → ys.Pairwise (· < ·) → (∀ k, k ∈ xs ↔ k ∈ ys) → xs = ys
  | [], [], _, _, _ => rfl
  | [], y :: ys, _, _, h => by have := (h y).mpr List.mem_cons_self; simp at this
  | x :: xs, [], _, _, h => by have := (h x).mp List.mem_cons_self; simp at this
  | x :: xs, y :: ys, h1, h2, h => by
    obtain ⟨a1, a2⟩ := List.pairwise_cons.mp h1
    obtain ⟨b1, b2⟩ := List.pairwise_cons.mp h2
    have e : x = y := by
      rcases List.mem_cons.mp ((h x).mp List.mem_cons_self) with e | e
      · exact e
      · rcases List.mem_cons.mp ((h y).mpr List.mem_cons_self) with e' | e'
        · exact e'.symm
        · have := b1 x e
          have := a1 y e'
          omega
    subst e
    rw [rise_ext a2 b2 fun k => ⟨fun hk => ?_, fun hk => ?_⟩]
    · rcases List.mem_cons.mp ((h k).mp (List.mem_cons_of_mem _ hk)) with e | e
      · have := a1 k hk; omega
      · exact e
    · rcases List.mem_cons.mp ((h k).mpr (List.mem_cons_of_mem _ hk)) with e | e
      · have := b1 k hk; omega
      · exact e
theorem ascI_eq {xs ys : List Int} (h : ys.Pairwise (· < ·)) (hm : ∀ k, k ∈ ys ↔ k ∈ xs) : ascI xs = ys :=
  rise_ext (ascI_rise xs) h fun k => mem_ascI.trans (hm k).symm

section
variable {X : Cx} {T : Tab} {W : WX} {a : Expr} {fa : FE} {p p2 q pos : Pos}
def tAsc (K : PySem.W.Frag) (ta : TE) : TE := fun σ H Q => ta σ H fun x H1 => ∃ (l : Addr) (ns : List Int) (k : Bool), x = .ref l ∧ SqK K k H1 l (ns.map V.int) ∧ ns.length ≤ 63 ∧ ∀ r, H1 r = none → Q (.ref r) (L2.upd H1 r (.lst ((ascI ns).map V.int)))
theorem pe_asc {ta : TE} (hg : Gl X "sorted") (hm : X.mg "sorted" = none) (hg2 : Gl X "set") (hm2 : X.mg "set" = none) (ha : PE X a ta) (hc : X.calm = true := by rfl)
    (na : starEach [a] X.env = (false, eval a X.env) :: starEach [] X.env := by rfl) : PE X (.Call (.Name "sorted" p) [.Call (.Name "set" p2) [a] [] q] [] pos) (tAsc X.K ta) := by
  refine ⟨fun pins s σ H Q I h => ?_⟩
  refine PyProof.Rows.Call_ (ld_blt I hg hm PyProof.Rows.boot_sorted ?_)
  refine PyProof.Rows.callWith_builtin1 (PyProof.Rows.args_cons ?_ rfl) rfl rfl
  refine PyProof.Rows.Call_ (ld_blt I hg2 hm2 PyProof.Rows.boot_set ?_)
  refine PyProof.Rows.callWith_type1 (PyProof.Rows.args_cons (thn (ha.run pins s σ H _ I h) fun v s1 ⟨x, H1, I1, r1, q1⟩ => PyProof.Rows.args_nil ?_) na) na rfl
  obtain ⟨l, ns, k, rfl, hq, hl, q1⟩ := q1
  cases r1
  have rest : ∀ (h' : Heap) (tk c : Nat), SetR X.w h' s1.heap.objs.size (fun j => decide (j ∈ ns)) c → c ≤ ns.length → (∀ b o, s1.heap.get? b = some o → h'.get? b = some o) →
      wpAny (model X.prog X.w) X.A (call (.builtin "sorted") [.ref s1.heap.objs.size]) (EP X pins σ Q) X.xe { s1 with heap := h', toks := tk } := fun h' tk c R hcl hk => by
    have I2 : L2.Inv X pins σ H1 { s1 with heap := h', toks := tk } := I1.kept hk
    refine sorted_set R (I2.ok.hd hc) (by omega) fun s' r out n ms kp g o hp hgt hi hs hmm hll => ?_
    have em : ascI ns = ms := ascI_eq hs fun j => (hmm j).trans decide_eq_true_iff
    have hlen : (ms.map V.int).length ≤ sizeLine := by rw [List.length_map, hll, sizeLine_eq]; omega
    have hn : H1 r = none := I2.hok.fresh hp
    have J : L2.Inv X pins σ (L2.upd H1 r (.lst (ms.map V.int))) { ({ s1 with heap := h', toks := tk } : Shared) with heap := s'.heap, gens := s'.gens, drawn := s'.drawn, toks := s'.toks } :=
      I2.call (ch := []) (Un.laid kp hp hn) (I2.hok.laid kp hp ⟨hlen, out.toList, n, vals_of_ints hi, hgt⟩) (by rw [g]; exact I2.bare) (fun _ z => nomatch z)
    have e : s' = { ({ s1 with heap := h', toks := tk } : Shared) with heap := s'.heap, gens := s'.gens, drawn := s'.drawn, toks := s'.toks } := by
      cases s'
      cases s1
      cases o
      rfl
    rw [e]
    refine ⟨.ref r, _, J, rfl, ?_⟩
    have z := q1 r hn
    rw [em] at z
    exact z
  cases k with
  | false =>
    obtain ⟨its, rv, pl, hz⟩ := I1.list hq
    exact call_set_lstI ns (I1.ok.hd hc) pl.isList (by simpa using RZ.intsAre_vals rv) (by unfold scanBound; omega) fun h' tk c R hcl hk => PyProof.Rows.args_nil (rest h' tk c R hcl hk)
  | true =>
    obtain ⟨its, rv, pl, hz⟩ := I1.tuple hq
    exact call_set_tupI ns (I1.ok.hd hc) (show s1.heap.IsTuple l its.toArray from pl) (by simpa using RZ.intsAre_vals rv) (by unfold scanBound; omega) fun h' tk c R hcl hk => PyProof.Rows.args_nil (rest h' tk c R hcl hk)
def nAsc (f : FE) : FL := fun ρ => R1L (f ρ) fun d => ((seqD d).bind intsD).bind fun ns => if ns.length ≤ 63 then some (.ok ((ascI ns).map D.int)) else none
theorem en_asc (hm : X.mg "sorted" = none) (hm2 : X.mg "set" = none) (ha : EE X T W a fa) (hK : X.K = T.K := by rfl) (hg : Gl X "sorted" := by rfl) (hg2 : Gl X "set" := by rfl) (hc : X.calm = true := by rfl)
    (na : starEach [a] X.env = (false, eval a X.env) :: starEach [] X.env := by rfl) : EN X T W (.Call (.Name "sorted" p) [.Call (.Name "set" p2) [a] [] q] [] pos) (nAsc fa) := by
  refine PE.weak (pe_asc hg hm hg2 hm2 ha hc na) fun σ H Q q => ?_
  obtain ⟨ρ, S, r, sh, rep, e, fin⟩ := q
  refine tF_goN sh rep e fin fun d x S1 H1 k1 i1 rep1 e1 fin1 => ?_
  obtain ⟨ns, e2, e3⟩ := Option.bind_eq_some_iff.mp e1
  obtain ⟨ds, e4, e5⟩ := Option.bind_eq_some_iff.mp e2
  split at e3 <;> cases e3
  rename_i hl
  have go : ∀ (k : Bool) (l : Addr) (vs : List V), x = .ref l → SqK T.K k S1 l vs → Iss T S1 vs ds → ∃ (l' : Addr) (ns' : List Int) (k : Bool), x = .ref l' ∧ SqK X.K k H1 l' (ns'.map V.int) ∧ ns'.length ≤ 63 ∧ ∀ r, H1 r = none → Q (.ref r) (L2.upd H1 r (.lst ((ascI ns').map V.int))) := fun k l vs ex hq hs => by
    have ev := ints_iss hs e5
    subst ev
    exact ⟨l, ns, k, ex, by rw [hK]; exact sqK_same k1.sub.same hq, hl, fun r hr => fin1 r _ S1 _ (Kp.hide k1.sub hr rfl) hr (k1.sub.same.free hr) upd_same (Iss.ints _)⟩
  unfold seqD at e4
  split at e4 <;> cases e4
  · cases i1 with
    | lst h hs => exact go false _ _ rfl (SqL.of h) hs
  · cases i1 with
    | tup h hs => exact go true _ _ rfl h hs
  · cases i1 with
    | scr h l => exact go false _ _ rfl h (Iss.ints _)
end

/-! ### a constant of the module, as it stands in what the head has seen -/
mutual
def kD (K : PySem.W.Frag) : D → Value → Bool
  | .non, .none => true
  | .bl b, .bool c => b == c
  | .int i, .int j _ => decide (i = j)
  | .str x, .str y _ => decide (x = y)
  | .tup ds, .ref a => (match K.lookup a with
    | some ⟨.type c, _, .seq its _, _⟩ => decide (c = "tuple") && (decide (its.size ≤ sizeLine) && kDs K ds its.toList)
    | _ => false)
  | _, _ => false
def kDs (K : PySem.W.Frag) : List D → List Value → Bool
  | [], [] => true
  | d :: ds, v :: vs => kD K d v && kDs K ds vs
  | _, _ => false
end
theorem and2 {a b : Bool} (h : (a && b) = true) : a = true ∧ b = true := by simpa using h
mutual
theorem kD_ok {T : Tab} : ∀ {d : D} {v : Value}, kD T.K d v = true → ∃ x, RelV x v ∧ ∀ H, Is T H x d
  | .non, v, h => by
    cases v <;> first | (simp [kD] at h; done) | exact ⟨.non, rfl, fun _ => .non⟩
  | .bl b, v, h => by
    cases v <;> first | (simp [kD] at h; done) | skip
    rw [kD] at h
    have := eq_of_beq h
    subst this
    exact ⟨.bl b, rfl, fun _ => .bl b⟩
  | .int i, v, h => by
    cases v <;> first | (simp [kD] at h; done) | skip
    rw [kD] at h
    have := of_decide_eq_true h
    subst this
    exact ⟨.int i, ⟨_, rfl⟩, fun _ => .int i⟩
  | .str i, v, h => by
    cases v <;> first | (simp [kD] at h; done) | skip
    rw [kD] at h
    have := of_decide_eq_true h
    subst this
    exact ⟨.str i, ⟨_, rfl⟩, fun _ => .str i⟩
  | .tup ds, v, h => by
    cases v <;> first | (simp [kD] at h; done) | skip
    rename_i a
    rw [kD] at h
    split at h <;> try cases h
    rename_i c od its n sl e
    obtain ⟨h1, h2⟩ := and2 h
    obtain ⟨h3, h4⟩ := and2 h2
    obtain ⟨xs, r, hi⟩ := kDs_ok h4
    have hc : c = "tuple" := of_decide_eq_true h1
    subst hc
    exact ⟨.ref a, rfl, fun H => .tup (.inr ⟨_, its, n, e, rfl, rfl, of_decide_eq_true h3, r⟩) (hi H)⟩
  | .lst _, v, h => by cases v <;> simp [kD] at h
  | .obj _ _, v, h => by cases v <;> simp [kD] at h
  | .scr _, v, h => by cases v <;> simp [kD] at h
theorem kDs_ok {T : Tab} : ∀ {ds : List D} {vs : List Value}, kDs T.K ds vs = true → ∃ xs, Vals xs vs ∧ ∀ H, Iss T H xs ds
  | [], [], _ => ⟨[], .nil, fun _ => .nil⟩
  | [], _ :: _, h => by simp [kDs] at h
  | _ :: _, [], h => by simp [kDs] at h
  | d :: ds, v :: vs, h => by
    rw [kDs] at h
    obtain ⟨h1, h2⟩ := and2 h
    obtain ⟨x, r1, i1⟩ := kD_ok h1
    obtain ⟨xs, r2, i2⟩ := kDs_ok h2
    exact ⟨x :: xs, .cons r1 r2, fun H => .cons (i1 H) (i2 H)⟩
end
/-- the constant's name stands for d -/
def kC (K : PySem.W.Frag) (x : Str) (d : D) : Bool := match PySem.W.nsIn K mainGlobals x with
  | some (some v) => kD K d v
  | _ => false
theorem kC_ok {T : Tab} {h : Heap} {mg : Str → Option Value} (X : T.K.In h) (G : h.Ns mainGlobals mg) {x : Str} {d : D} (c : kC T.K x d = true) : ∃ u v, mg x = some u ∧ RelV v u ∧ ∀ H, Is T H v d := by
  unfold kC at c
  split at c <;> try cases c
  rename_i u e
  obtain ⟨v, r, i⟩ := kD_ok c
  exact ⟨u, v, PySem.W.mg_of X G e, r, i⟩
section
variable {X : Cx} {T : Tab} {W : WX} {x : Str} {pos : Pos}
theorem ee_globC {d : D} (hc : ∃ u v, X.mg x = some u ∧ RelV v u ∧ ∀ H, Is T H v d) (hg : Gl X x := by rfl) (hd : (x == ("__debug__" : Str)) = false := by decide) : EE X T W (.Name x pos) (vC d) := by
  obtain ⟨u, v, h1, h2, h3⟩ := hc
  exact ee_glob h1 h2 h3 hg hd
end
end EV
namespace EV
open PySem L2
/-- a def of which nothing is said -/
theorem fn_none {P : Program} {w : World} {K : PySem.W.Frag} {mg : Str → Option Value} {base : Heap} {CX : CXT} {k n : Nat} {f : Addr} {fd : FuncData} {ps : List Str} {T : Tab} : FnOk P w K mg base CX k f fd ps (spF T n fun _ => none) :=
  ⟨fun vs H Q E h => (nomatch (show False from (let ⟨_, _, _, _, _, _, e, _⟩ := h; nomatch e))), fun A outer s H args us vs Q E _ _ _ _ h => (nomatch (show False from (let ⟨_, _, _, _, _, _, e, _⟩ := h; nomatch e)))⟩
end EV
namespace EV
open PySem L2
section
variable {K : PySem.W.Frag} {x qual : Str} {params : Arguments} {body : List Stmt} {scope : Scope} {f : Addr} {fd : FuncData} {ps ks : List Str} {n : Nat} {perm : List Nat} {dvs : List V} {kws : List (Str × V)}
/-- a def without positional defaults; all parameters are given -/
theorem ArgB.given (F : FunD K x qual params body scope [] kws f fd)
    (h : ∀ (kV doc pm : Value) (an : Option Addr) (cdv ct : Value) (us ws : List Value), us.length = n → ws.length = ks.length → bindArgs (PySem.W.fnOf x qual params body scope .none kV doc pm an cdv ct) ⟨us, ks.zip ws⟩ = pure (ps.zip (pick perm (us ++ ws ++ [])))) : ArgB K fd ps n ks [] perm := by
  obtain ⟨oc, od, dV, kV, doc, pm, an, cdv, ct, osl, rfl, lk, hcd, hD, hK⟩ := F.ex
  rcases hD with ⟨_, rfl⟩ | ⟨e, _⟩
  · exact ⟨[], .nil, fun s us ws _ l1 l2 => BindsTo.of_eq (h kV doc pm an cdv ct us ws l1 l2)⟩
  · exact absurd rfl e
/-- a def with positional defaults, none of them is used -/
theorem ArgB.unused (F : FunD K x qual params body scope dvs kws f fd) (hd : dvs ≠ [])
    (h : ∀ (T : Addr) (kV doc pm : Value) (an : Option Addr) (cdv ct : Value) (us its ws : List Value), us.length = n → its.length = dvs.length → ws.length = ks.length →
      ∃ k, bindArgs (PySem.W.fnOf x qual params body scope (.ref T) kV doc pm an cdv ct) ⟨us, ks.zip ws⟩ = seqItems? (.ref T) >>= k ∧ k (some its.toArray) = pure (ps.zip (pick perm (us ++ ws ++ [])))) : ArgB K fd ps n ks [] perm := by
  obtain ⟨oc, od, dV, kV, doc, pm, an, cdv, ct, osl, rfl, lk, hcd, hD, hK⟩ := F.ex
  rcases hD with ⟨e, _⟩ | ⟨_, Ta, o, its, m, rfl, lT, oT, rT⟩
  · exact absurd e hd
  · refine ⟨[], .nil, fun s us ws X l1 l2 => ?_⟩
    obtain ⟨k, e1, e2⟩ := h Ta kV doc pm an cdv ct us its ws l1 rT.length.symm l2
    refine BindsTo.of_looks fun M => ?_
    rw [e1]
    exact looks_items X lT oT (.of_pure e2)
end
end EV
namespace EV
open PySem L2
section
variable {X : Cx} {T : Tab} {W : WX} {e : Expr} {f : FE} {pos : Pos}
def gDropA (f : FE) : FS := fun ρ => RA (f (thaw ρ)) ρ fun _ => some (.nx ρ)
theorem ss_exprA (he : EE X T W e f) (hs : swapsWith e none pos.line X.env = pure false := by rfl) : SS X T W (.Expr e pos) (gDropA f) := PS.weak (ps_expr he hs) fun Dn σ H q => by
  obtain ⟨ρ, S, L, o, r, e, fin⟩ := q
  refine sA r e fin fun d v S' H' kp hi r' e' fin' => ?_
  cases e'
  exact fin' _ S' H' L r' Stp.refl
end
end EV
end

section
set_option maxHeartbeats 4000000
/-! EV14: reasoning about the pure functions. -/
namespace EV
open PySem L2

abbrev Ev (f : FE) (ρ : Env) (d : D) : Prop := f ρ = some (.ok d)
abbrev EvL (f : FL) (ρ : Env) (ds : List D) : Prop := f ρ = some (.ok ds)
section
variable {f fa fb fc : FE} {fs fr fk : FL} {ρ : Env} {i j : Int} {P Q : Prop} {d d' p q : D} {ds es : List D}
theorem Ev.var {k : Nat} (h : ρ[k]? = some (.v d)) : Ev (vVar k) ρ d := by unfold Ev vVar; rw [h]
theorem Ev.c : Ev (vC d) ρ d := rfl
theorem Ev.v2 {o : D → D → Option D} (ha : Ev fa ρ p) (hb : Ev fb ρ q) (h : o p q = some d) : Ev (v2 o fa fb) ρ d := by
  unfold Ev EV.v2; rw [ha, hb]; simp [h]
theorem Ev.v1 {o : D → Option D} (ha : Ev fa ρ p) (h : o p = some d) : Ev (v1 o fa) ρ d := by
  unfold Ev EV.v1; rw [ha]; simp [h]
theorem Ev.add (ha : Ev fa ρ (.int i)) (hb : Ev fb ρ (.int j)) : Ev (EV.v2 addD fa fb) ρ (.int (i + j)) := .v2 ha hb rfl
theorem Ev.addT (ha : Ev fa ρ (.tup ds)) (hb : Ev fb ρ (.tup es)) (h : ds.length + es.length ≤ 100000) : Ev (EV.v2 addD fa fb) ρ (.tup (ds ++ es)) := .v2 ha hb (by simp [addD, h])
theorem Ev.addL (ha : Ev fa ρ (.lst ds)) (hb : Ev fb ρ (.lst es)) (h : ds.length + es.length ≤ 100000) : Ev (EV.v2 addD fa fb) ρ (.lst (ds ++ es)) := .v2 ha hb (by simp [addD, h])
theorem Ev.sub (ha : Ev fa ρ (.int i)) (hb : Ev fb ρ (.int j)) : Ev (EV.v2 subD fa fb) ρ (.int (i - j)) := .v2 ha hb rfl
theorem Ev.mulR (ha : Ev fa ρ (.int i)) (hb : Ev fb ρ (.int j)) (h : -18446744073709551616 < j ∧ j < 18446744073709551616) : Ev (EV.v2 mulD fa fb) ρ (.int (i * j)) := .v2 ha hb (if_pos (.inr (by omega)))
theorem Ev.mulL (ha : Ev fa ρ (.int i)) (hb : Ev fb ρ (.int j)) (h : -18446744073709551616 < i ∧ i < 18446744073709551616) : Ev (EV.v2 mulD fa fb) ρ (.int (i * j)) := .v2 ha hb (if_pos (.inl (by omega)))
theorem Ev.mod (ha : Ev fa ρ (.int i)) (hb : Ev fb ρ (.int j)) (h : 0 < j) : Ev (EV.v2 modD fa fb) ρ (.int (i % j)) := .v2 ha hb (if_pos h)
theorem Ev.fdiv (ha : Ev fa ρ (.int i)) (hb : Ev fb ρ (.int j)) (h : 0 < j ∧ j < 1073741824) : Ev (EV.v2 fdivD fa fb) ρ (.int (i / j)) := .v2 ha hb (if_pos h)
theorem Ev.pow (ha : Ev fa ρ (.int i)) (hb : Ev fb ρ (.int j)) (h : 0 ≤ j ∧ j ≤ 1000000 ∧ i.natAbs < 2 ^ 64) : Ev (EV.v2 powD fa fb) ρ (.int (i ^ j.toNat)) := .v2 ha hb (if_pos h)
theorem Ev.neg (ha : Ev fa ρ (.int i)) : Ev (EV.v1 negD fa) ρ (.int (-i)) := .v1 ha rfl
theorem Ev.lt (ha : Ev fa ρ (.int i)) (hb : Ev fb ρ (.int j)) : Ev (EV.v2 ltD fa fb) ρ (.bl (decide (i < j))) := .v2 ha hb rfl
theorem Ev.le (ha : Ev fa ρ (.int i)) (hb : Ev fb ρ (.int j)) : Ev (EV.v2 leD fa fb) ρ (.bl (decide (i ≤ j))) := .v2 ha hb rfl
theorem Ev.gt (ha : Ev fa ρ (.int i)) (hb : Ev fb ρ (.int j)) : Ev (EV.v2 gtD fa fb) ρ (.bl (decide (j < i))) := .v2 ha hb rfl
theorem Ev.ge (ha : Ev fa ρ (.int i)) (hb : Ev fb ρ (.int j)) : Ev (EV.v2 geD fa fb) ρ (.bl (decide (j ≤ i))) := .v2 ha hb rfl
theorem Ev.eqI (ha : Ev fa ρ (.int i)) (hb : Ev fb ρ (.int j)) : Ev (EV.v2 eqD fa fb) ρ (.bl (decide (i = j))) := .v2 ha hb (by
  simp only [eqD, D.pl, D.eqv, Bool.and_self, if_true]
  congr 2)
theorem Ev.neI (ha : Ev fa ρ (.int i)) (hb : Ev fb ρ (.int j)) : Ev (EV.v2 neD fa fb) ρ (.bl (decide (i ≠ j))) := .v2 ha hb (by
  simp only [neD, D.pl, D.eqv, Bool.and_self, if_true]
  congr 2
  rw [decide_not]
  congr 1)
theorem Ev.eq (ha : Ev fa ρ p) (hb : Ev fb ρ q) (hp : D.pl 8 p = true) (hq : D.pl 8 q = true) : Ev (EV.v2 eqD fa fb) ρ (.bl (D.eqv p q)) := .v2 ha hb (by simp [eqD, hp, hq])
theorem Ev.ne (ha : Ev fa ρ p) (hb : Ev fb ρ q) (hp : D.pl 8 p = true) (hq : D.pl 8 q = true) : Ev (EV.v2 neD fa fb) ρ (.bl (!D.eqv p q)) := .v2 ha hb (by simp [neD, hp, hq])
theorem Ev.isN (ha : Ev fa ρ p) : Ev (EV.v2 isNonD fa (vC .non)) ρ (.bl (decide (p.isNon = true))) := .v2 ha .c (by
  show some (D.bl p.isNon) = _
  cases p.isNon <;> rfl)
theorem Ev.notN (ha : Ev fa ρ p) : Ev (EV.v2 notNonD fa (vC .non)) ρ (.bl (decide (¬ p.isNon = true))) := .v2 ha .c (by
  show some (D.bl (!p.isNon)) = _
  cases p.isNon <;> rfl)
theorem Ev.notP {iP : Decidable P} (ha : Ev fa ρ (.bl (decide P))) : Ev (EV.v1 notD fa) ρ (.bl (decide (¬ P))) := .v1 ha (by
  show some (D.bl (!decide P)) = _
  rw [decide_not])
theorem Ev.andP {iP : Decidable P} {iQ : Decidable Q} (ha : Ev fa ρ (.bl (decide P))) (hb : P → Ev fb ρ (.bl (decide Q))) : Ev (vAnd fa fb) ρ (.bl (decide (P ∧ Q))) := by
  by_cases h : P
  · have hb := hb h
    unfold Ev vAnd
    rw [ha, decide_eq_true h]
    show fb ρ = _
    rw [hb]
    simp [h]
  · unfold Ev vAnd
    rw [ha]
    simp [h]
theorem Ev.orP {iP : Decidable P} {iQ : Decidable Q} (ha : Ev fa ρ (.bl (decide P))) (hb : ¬ P → Ev fb ρ (.bl (decide Q))) : Ev (vOr fa fb) ρ (.bl (decide (P ∨ Q))) := by
  by_cases h : P
  · unfold Ev vOr
    rw [ha]
    simp [h]
  · have hb := hb h
    unfold Ev vOr
    rw [ha, decide_eq_false h]
    show fb ρ = _
    rw [hb]
    simp [h]
theorem Ev.ifP {iP : Decidable P} (hc : Ev fc ρ (.bl (decide P))) (ha : P → Ev fa ρ d) (hb : ¬ P → Ev fb ρ d') : Ev (vIf fc fa fb) ρ (if P then d else d') := by
  by_cases h : P
  · unfold Ev vIf
    rw [hc]
    simp only [h, decide_true, if_true]
    exact ha h
  · unfold Ev vIf
    rw [hc]
    simp only [h, decide_false, if_false]
    exact hb h
theorem atI_nn {α : Type} {xs : List α} {x : α} (h0 : 0 ≤ i) (h : xs[i.toNat]? = some x) : atI xs i = some x := by
  have hl := (List.getElem?_eq_some_iff.mp h).1
  unfold atI
  have e : ixN xs.length i = some i.toNat := by
    unfold ixN
    simp only [h0, if_true]
    rw [if_pos (by omega)]
  rw [e]
  exact h
theorem Ev.ixL (ha : Ev fa ρ (.lst ds)) (hb : Ev fb ρ (.int i)) (h0 : 0 ≤ i) (h : ds[i.toNat]? = some d) : Ev (EV.v2 ixD fa fb) ρ d := .v2 ha hb (atI_nn h0 h)
theorem Ev.ixT (ha : Ev fa ρ (.tup ds)) (hb : Ev fb ρ (.int i)) (h0 : 0 ≤ i) (h : ds[i.toNat]? = some d) : Ev (EV.v2 ixD fa fb) ρ d := .v2 ha hb (atI_nn h0 h)
theorem Ev.ixS {ns : List Int} {z : Int} (ha : Ev fa ρ (.scr ns)) (hb : Ev fb ρ (.int i)) (h0 : 0 ≤ i) (h : ns[i.toNat]? = some z) : Ev (EV.v2 ixD fa fb) ρ (.int z) := .v2 ha hb (by
  show (atI ns i).map D.int = _
  rw [atI_nn h0 h]
  rfl)
theorem Ev.in_ (ha : Ev fa ρ p) (hb : Ev fb ρ q) (h : q = .lst ds ∨ q = .tup ds) (hp : D.pl 8 p = true) (hq : D.pls 8 ds = true) : Ev (EV.v2 inD fa fb) ρ (.bl (ds.any fun z => D.eqv z p)) := .v2 ha hb (by
  rcases h with rfl | rfl <;> simp [inD, hp, hq])
theorem Ev.nin (ha : Ev fa ρ p) (hb : Ev fb ρ q) (h : q = .lst ds ∨ q = .tup ds) (hp : D.pl 8 p = true) (hq : D.pls 8 ds = true) : Ev (EV.v2 ninD fa fb) ρ (.bl (!ds.any fun z => D.eqv z p)) := .v2 ha hb (by
  rcases h with rfl | rfl <;> simp [ninD, hp, hq])
/-! arguments -/
theorem EvL.nil : EvL aNil ρ [] := rfl
theorem EvL.cons (ha : Ev fa ρ d) (hr : EvL fr ρ ds) : EvL (aCons fa fr) ρ (d :: ds) := by
  unfold EvL aCons; rw [ha, hr]; rfl
theorem Ev.tup (h : EvL fs ρ ds) (hl : ds.length ≤ 100000) : Ev (vTup fs) ρ (.tup ds) := by
  unfold Ev vTup; rw [h]; simp [tupD, hl]
theorem Ev.vL (h : EvL fs ρ ds) : Ev (vL fs) ρ (.lst ds) := by
  unfold Ev EV.vL; rw [h]; rfl
theorem EvL.lenOk (h : EvL fs ρ ds) (hl : ds.length ≤ 100000) : EvL (lenOk fs) ρ ds := by
  unfold EvL EV.lenOk; rw [h]; simp [hl]
theorem Ev.call {o : List D → Option D} (h : EvL fs ρ ds) (e : o ds = some d) : Ev (vCall o fs) ρ d := by
  unfold Ev vCall; rw [h]; simp [e, RL1]
theorem EvL.call {o : List D → Option (List D)} (h : EvL fs ρ ds) (e : o ds = some es) : EvL (nCall o fs) ρ es := by
  unfold EvL nCall; rw [h]; simp [e, RLL]
theorem Ev.int_ (ha : Ev fa ρ (.int i)) : Ev (vCall intD (aCons fa aNil)) ρ (.int i) := .call (.cons ha .nil) rfl
theorem Ev.intB {b : Bool} (ha : Ev fa ρ (.bl b)) : Ev (vCall intD (aCons fa aNil)) ρ (.int (if b then 1 else 0)) := .call (.cons ha .nil) rfl
theorem Ev.lenL (ha : Ev fa ρ (.lst ds)) : Ev (vCall lenD (aCons fa aNil)) ρ (.int ds.length) := .call (.cons ha .nil) rfl
theorem Ev.lenT (ha : Ev fa ρ (.tup ds)) : Ev (vCall lenD (aCons fa aNil)) ρ (.int ds.length) := .call (.cons ha .nil) rfl
theorem Ev.lenS {ns : List Int} (ha : Ev fa ρ (.scr ns)) : Ev (vCall lenD (aCons fa aNil)) ρ (.int ns.length) := .call (.cons ha .nil) rfl
theorem Ev.min_ (ha : Ev fa ρ (.int i)) (hb : Ev fb ρ (.int j)) : Ev (vCall minD (aCons fa (aCons fb aNil))) ρ (.int (min i j)) := .call (.cons ha (.cons hb .nil)) (by
  show some (D.int (if j < i then j else i)) = _
  congr 2
  split <;> omega)
theorem Ev.max_ (ha : Ev fa ρ (.int i)) (hb : Ev fb ρ (.int j)) : Ev (vCall maxD (aCons fa (aCons fb aNil))) ρ (.int (max i j)) := .call (.cons ha (.cons hb .nil)) (by
  show some (D.int (if j > i then j else i)) = _
  congr 2
  split <;> omega)
theorem Ev.abs_ (ha : Ev fa ρ (.int i)) : Ev (vCall absD (aCons fa aNil)) ρ (.int (if i < 0 then -i else i)) := .call (.cons ha .nil) rfl
theorem Ev.tupleL (ha : Ev fa ρ (.lst ds)) : Ev (vCall tupleD (aCons fa aNil)) ρ (.tup ds) := .call (.cons ha .nil) rfl
theorem Ev.tupleT (ha : Ev fa ρ (.tup ds)) : Ev (vCall tupleD (aCons fa aNil)) ρ (.tup ds) := .call (.cons ha .nil) rfl
theorem EvL.listL (ha : Ev fa ρ (.lst ds)) : EvL (nCall listD (aCons fa aNil)) ρ ds := .call (.cons ha .nil) rfl
theorem EvL.listT (ha : Ev fa ρ (.tup ds)) : EvL (nCall listD (aCons fa aNil)) ρ ds := .call (.cons ha .nil) rfl
theorem Ev.callP {n m : Nat} {perm : List Nat} {sem : List D → Option R} {dds : List D} (h : EvL fs ρ ds) (hk : EvL fk ρ es) (hl : ds.length = n ∧ es.length = m) (e : sem (pick perm (ds ++ es ++ dds)) = some (.ok d)) : Ev (vCallP n m perm sem dds fs fk) ρ d := by
  unfold Ev vCallP; rw [h, hk]; simp only [RL1, hl, and_self, if_true]; exact e
theorem EvL.callP {n m : Nat} {perm : List Nat} {sem : List D → Option RL} {dds xs : List D} (h : EvL fs ρ ds) (hk : EvL fk ρ es) (hl : ds.length = n ∧ es.length = m) (e : sem (pick perm (ds ++ es ++ dds)) = some (.ok xs)) : EvL (nCallP n m perm sem dds fs fk) ρ xs := by
  unfold EvL nCallP; rw [h, hk]; simp only [RLL, hl, and_self, if_true]; exact e
theorem EvL.rep (ha : Ev fa ρ (.lst ds)) (hb : Ev fb ρ (.int i)) (h0 : 0 ≤ i ∧ i < 1000000 ∧ ds.length * i.toNat ≤ 100000) : EvL (nRep fa fb) ρ (List.replicate i.toNat ds).flatten := by
  unfold EvL nRep; rw [ha, hb]
  simp only [R1L]
  rw [if_pos (by omega)]
theorem EvL.add (ha : Ev fa ρ (.lst ds)) (hb : Ev fb ρ (.lst es)) (h : ds.length + es.length ≤ 100000) : EvL (nAdd fa fb) ρ (ds ++ es) := by
  unfold EvL nAdd; rw [ha, hb]
  simp only [R1L]
  rw [if_pos h]
/-! what is walked -/
theorem EvL.seqL (h : Ev f ρ (.lst ds)) : EvL (iSeq f) ρ ds := by unfold EvL iSeq; rw [h]; rfl
theorem EvL.seqT (h : Ev f ρ (.tup ds)) : EvL (iSeq f) ρ ds := by unfold EvL iSeq; rw [h]; rfl
theorem EvL.seqS {ns : List Int} (h : Ev f ρ (.scr ns)) : EvL (iSeq f) ρ (ns.map D.int) := by unfold EvL iSeq; rw [h]; rfl
theorem EvL.range1 (h : Ev f ρ (.int j)) (hb : -4611686018427387904 ≤ j ∧ j < 4611686018427387904) : EvL (iRange1 f) ρ (rangeD 0 j.toNat) := by
  unfold EvL iRange1; rw [h]
  simp only [R1L]
  rw [if_pos (by omega)]
theorem EvL.range2 (ha : Ev fa ρ (.int i)) (hb : Ev fb ρ (.int j)) (h : (-4611686018427387904 ≤ i ∧ i < 4611686018427387904) ∧ -4611686018427387904 ≤ j ∧ j < 4611686018427387904) : EvL (iRange2 fa fb) ρ (rangeD i (j - i).toNat) := by
  unfold EvL iRange2; rw [ha, hb]
  simp only [R1L]
  rw [if_pos (by omega)]
theorem EvL.enumL (h : Ev f ρ (.lst ds)) : EvL (iEnum f) ρ (enumFrom 0 ds) := by unfold EvL iEnum; rw [h]; rfl
theorem EvL.enumT (h : Ev f ρ (.tup ds)) : EvL (iEnum f) ρ (enumFrom 0 ds) := by unfold EvL iEnum; rw [h]; rfl
end

/-! ### statements -/
def Run (g : FS) (ρ : Env) (Q : Out → Prop) : Prop := ∃ o, g ρ = some o ∧ Q o
section
variable {g g1 g2 : FS} {f fa fb fc fkx : FE} {fl : FL} {ρ ρ' : Env} {Q : Out → Prop} {d : D} {ds : List D} {i : Nat} {P : Prop}
def After (g2 : FS) (Q : Out → Prop) : Out → Prop
  | .nx ρ' => Run g2 ρ' Q
  | o => Q o
theorem Run.mono {Q' : Out → Prop} (h : Run g ρ Q) (w : ∀ o, Q o → Q' o) : Run g ρ Q' := let ⟨o, e, q⟩ := h; ⟨o, e, w o q⟩
theorem Run.seq (h : Run g1 ρ (After g2 Q)) : Run (gSeq g1 g2) ρ Q := by
  obtain ⟨o, e, q⟩ := h
  cases o with
  | nx ρ' =>
    obtain ⟨o2, e2, q2⟩ := q
    exact ⟨o2, by unfold gSeq; rw [e]; exact e2, q2⟩
  | rt d => exact ⟨_, by unfold gSeq; rw [e], q⟩
  | bk d => exact ⟨_, by unfold gSeq; rw [e], q⟩
  | ct d => exact ⟨_, by unfold gSeq; rw [e], q⟩
  | rs d _ => exact ⟨_, by unfold gSeq; rw [e], q⟩
  | rl d => exact ⟨_, by unfold gSeq; rw [e], q⟩
theorem Run.cut (M : Env → Prop) (h1 : Run g1 ρ fun o => ∃ ρ', o = .nx ρ' ∧ M ρ') (h2 : ∀ ρ', M ρ' → Run g2 ρ' Q) : Run (gSeq g1 g2) ρ Q := by
  obtain ⟨o, e, ρ', rfl, m⟩ := h1
  exact Run.seq ⟨_, e, h2 ρ' m⟩
theorem Run.next (h : Q (.nx ρ)) : Run gNext ρ Q := ⟨_, rfl, h⟩
theorem Run.brk (h : Q (.bk ρ)) : Run gBrk ρ Q := ⟨_, rfl, h⟩
theorem Run.set (e : Ev f ρ d) (h : Q (.nx (ρ.set i (.v d)))) : Run (gSet i f) ρ Q := ⟨_, by unfold gSet; rw [e]; rfl, h⟩
theorem Run.setA (e : Ev f (thaw ρ) d) (p : d.pure = true) (h : Q (.nx (ρ.set i (.v d)))) : Run (gSetA i f) ρ Q := ⟨_, by unfold gSetA; rw [e]; simp only [RA, p, if_true], h⟩
theorem Run.own (e : EvL fl ρ ds) (hi : i < ρ.length) (h : Q (.nx (ρ.set i (.own ds)))) : Run (gOwn i fl) ρ Q := ⟨_, by unfold gOwn; rw [e]; simp only [RSL, EV.setOwn, hi, if_true], h⟩
theorem Run.ownA (e : EvL fl (thaw ρ) ds) (p : D.pures ds = true) (hi : i < ρ.length) (h : Q (.nx (ρ.set i (.own ds)))) : Run (gOwnA i fl) ρ Q := ⟨_, by unfold gOwnA; rw [e]; simp only [RAL, p, EV.setOwn, hi, if_true], h⟩
theorem Run.rel (h : Run g (EV.rel i ρ) Q) : Run (gRel i g) ρ Q := h
def Rels (i : Nat) (Q : Out → Prop) : Out → Prop
  | .nx ρ => Q (.nx (EV.rel i ρ))
  | o => Q o
theorem Run.thenRel (h : Run g ρ (Rels i Q)) : Run (gThenRel i g) ρ Q := by
  obtain ⟨o, e, q⟩ := h
  cases o with
  | nx ρ' => exact ⟨_, by unfold gThenRel; rw [e], q⟩
  | rt d => exact ⟨_, by unfold gThenRel; rw [e], q⟩
  | bk d => exact ⟨_, by unfold gThenRel; rw [e], q⟩
  | ct d => exact ⟨_, by unfold gThenRel; rw [e], q⟩
  | rs d _ => exact ⟨_, by unfold gThenRel; rw [e], q⟩
  | rl d => exact ⟨_, by unfold gThenRel; rw [e], q⟩
theorem Run.drop (e : Ev f ρ d) (h : Q (.nx ρ)) : Run (gDrop f) ρ Q := ⟨_, by unfold gDrop; rw [e]; rfl, h⟩
theorem Run.dropA (e : Ev f (thaw ρ) d) (p : d.pure = true) (h : Q (.nx ρ)) : Run (gDropA f) ρ Q := ⟨_, by unfold gDropA; rw [e]; simp only [RA, p, if_true], h⟩
theorem Run.ret (e : Ev f ρ d) (h : Q (.rt d)) : Run (gRet f) ρ Q := ⟨_, by unfold gRet; rw [e]; rfl, h⟩
theorem Run.retA (e : Ev f (thaw ρ) d) (p : d.pure = true) (h : Q (.rt d)) : Run (gRetA f) ρ Q := ⟨_, by unfold gRetA; rw [e]; simp only [RA, p, if_true], h⟩
theorem Run.retN (h : Q (.rt .non)) : Run gRetN ρ Q := ⟨_, rfl, h⟩
theorem Run.retL (e : EvL fl ρ ds) (h : Q (.rl ds)) : Run (gRetL fl) ρ Q := ⟨_, by unfold gRetL; rw [e]; rfl, h⟩
theorem Run.ifP {iP : Decidable P} (e : Ev fc ρ (.bl (decide P))) (h1 : P → Run g1 ρ Q) (h2 : ¬ P → Run g2 ρ Q) : Run (gIf fc g1 g2) ρ Q := by
  by_cases h : P
  · obtain ⟨o, e1, q⟩ := h1 h
    exact ⟨o, by unfold gIf; rw [e]; simp only [RS, h, decide_true]; exact e1, q⟩
  · obtain ⟨o, e1, q⟩ := h2 h
    exact ⟨o, by unfold gIf; rw [e]; simp only [RS, h, decide_false]; exact e1, q⟩
theorem Run.ifAP {iP : Decidable P} (e : Ev fc (thaw ρ) (.bl (decide P))) (h1 : P → Run g1 ρ Q) (h2 : ¬ P → Run g2 ρ Q) : Run (gIfA fc g1 g2) ρ Q := by
  by_cases h : P
  · obtain ⟨o, e1, q⟩ := h1 h
    exact ⟨o, by unfold gIfA; rw [e]; simp only [RA, D.pure, if_true, h, decide_true]; exact e1, q⟩
  · obtain ⟨o, e1, q⟩ := h2 h
    exact ⟨o, by unfold gIfA; rw [e]; simp only [RA, D.pure, if_true, h, decide_false]; exact e1, q⟩
theorem Run.app {xs : List D} (ho : ρ[i]? = some (.own xs)) (e : Ev f ρ d) (hl : xs.length < 100000) (h : Q (.nx (ρ.set i (.own (xs ++ [d]))))) : Run (gAppO i (gApp i f)) ρ Q :=
  ⟨_, by unfold gAppO gApp; rw [ho]; simp only []; rw [e]; simp only [RS, appK, ho, hl, if_true], h⟩
theorem Run.appA {xs : List D} (ho : ρ[i]? = some (.own xs)) (e : Ev f (thaw ρ) d) (p : d.pure = true) (hl : xs.length < 100000) (h : Q (.nx (ρ.set i (.own (xs ++ [d]))))) : Run (gAppO i (gAppA i f)) ρ Q :=
  ⟨_, by unfold gAppO gAppA; rw [ho]; simp only []; rw [e]; simp only [RA, p, appK, ho, hl, if_true], h⟩
theorem ixN_nn {n : Nat} {k : Int} (h0 : 0 ≤ k) (h : k < n) : ixN n k = some k.toNat := by
  unfold ixN
  simp only [h0, if_true]
  rw [if_pos (by omega)]
theorem Run.setIx {xs : List D} {k : Int} (ho : ρ[i]? = some (.own xs)) (e : Ev f ρ d) (ek : Ev fkx (thaw ρ) (.int k)) (h0 : 0 ≤ k) (hl : k < xs.length) (h : Q (.nx (ρ.set i (.own (xs.set k.toNat d))))) : Run (gSetIx i fkx f) ρ Q :=
  ⟨_, by unfold gSetIx; rw [e]; simp only [RS, setK, ho]; rw [ek]; simp only [ixN_nn h0 hl], h⟩
theorem Run.setIxA {xs : List D} {k : Int} (ho : ρ[i]? = some (.own xs)) (e : Ev f (thaw ρ) d) (p : d.pure = true) (ek : Ev fkx (thaw ρ) (.int k)) (h0 : 0 ≤ k) (hl : k < xs.length) (h : Q (.nx (ρ.set i (.own (xs.set k.toNat d))))) : Run (gSetIxA i fkx f) ρ Q :=
  ⟨_, by unfold gSetIxA; rw [e]; simp only [RA, p, if_true, setK, ho]; rw [ek]; simp only [ixN_nn h0 hl], h⟩
theorem Run.aug {k j : Int} (ho : ρ[i]? = some (.v (.int k))) (e : Ev f ρ (.int j)) (h : Q (.nx (ρ.set i (.v (.int (k + j)))))) : Run (gAug i f) ρ Q :=
  ⟨_, by unfold gAug; rw [ho]; simp only []; rw [e]; rfl, h⟩
theorem Run.asg {fg : FG} (e : Ev f ρ d) (eg : fg d ρ = some ρ') (h : Q (.nx ρ')) : Run (gAsg fg f) ρ Q := ⟨_, by unfold gAsg; rw [e]; simp only [RS, eg, Option.map], h⟩
theorem Run.fld {ci k : Nat} {xs : List D} (ho : ρ[i]? = some (.ins ci xs)) (hk : xs.length = k) (e : Ev f ρ d) (h : Q (.nx (ρ.set i (.ins ci (xs ++ [d]))))) : Run (gFld i ci k f) ρ Q :=
  ⟨_, by unfold gFld; rw [e]; simp only [RS, fldK, ho, hk, and_self, if_true], h⟩
theorem Run.sset (e : Ev f ρ d) (h : Run g2 (ρ.set i (.v d)) Q) : Run (gSeq (gSet i f) g2) ρ Q := .seq (.set e h)
theorem Run.ssetA (e : Ev f (thaw ρ) d) (p : d.pure = true) (h : Run g2 (ρ.set i (.v d)) Q) : Run (gSeq (gSetA i f) g2) ρ Q := .seq (.setA e p h)
theorem Run.sown (e : EvL fl ρ ds) (hi : i < ρ.length) (h : Run g2 (ρ.set i (.own ds)) Q) : Run (gSeq (gOwn i fl) g2) ρ Q := .seq (.own e hi h)
theorem Run.sownA (e : EvL fl (thaw ρ) ds) (p : D.pures ds = true) (hi : i < ρ.length) (h : Run g2 (ρ.set i (.own ds)) Q) : Run (gSeq (gOwnA i fl) g2) ρ Q := .seq (.ownA e p hi h)
theorem Run.sthen (e : EvL fl (thaw ρ) ds) (p : D.pures ds = true) (hi : i < ρ.length) (h : Run g2 (EV.rel i (ρ.set i (.own ds))) Q) : Run (gSeq (gThenRel i (gOwnA i fl)) g2) ρ Q := .seq (.thenRel (.ownA e p hi h))
theorem Run.srel (h : Run (gSeq g1 g2) (EV.rel i ρ) Q) : Run (gSeq (gRel i g1) g2) ρ Q := h
theorem Run.sdrop (e : Ev f ρ d) (h : Run g2 ρ Q) : Run (gSeq (gDrop f) g2) ρ Q := .seq (.drop e h)
theorem Run.sdropA (e : Ev f (thaw ρ) d) (p : d.pure = true) (h : Run g2 ρ Q) : Run (gSeq (gDropA f) g2) ρ Q := .seq (.dropA e p h)
theorem Run.sapp {xs : List D} (ho : ρ[i]? = some (.own xs)) (e : Ev f ρ d) (hl : xs.length < 100000) (h : Run g2 (ρ.set i (.own (xs ++ [d]))) Q) : Run (gSeq (gAppO i (gApp i f)) g2) ρ Q := .seq (.app ho e hl h)
theorem Run.ssetIx {xs : List D} {k : Int} (ho : ρ[i]? = some (.own xs)) (e : Ev f ρ d) (ek : Ev fkx (thaw ρ) (.int k)) (h0 : 0 ≤ k) (hl : k < xs.length) (h : Run g2 (ρ.set i (.own (xs.set k.toNat d))) Q) : Run (gSeq (gSetIx i fkx f) g2) ρ Q := .seq (.setIx ho e ek h0 hl h)
theorem Run.sfld {ci k : Nat} {xs : List D} (ho : ρ[i]? = some (.ins ci xs)) (hk : xs.length = k) (e : Ev f ρ d) (h : Run g2 (ρ.set i (.ins ci (xs ++ [d]))) Q) : Run (gSeq (gFld i ci k f) g2) ρ Q := .seq (.fld ho hk e h)
/-- what a turn may end with -/
def Turn' (I : Env → Prop) (Q : Out → Prop) : Out → Prop
  | .nx ρ => I ρ
  | .ct ρ => I ρ
  | .bk ρ => Q (.nx ρ)
  | o => Q o
theorem loop_run {fg : FG} {b : FS} (I : Nat → Env → Prop) : ∀ (ds : List D) (n : Nat) (ρ : Env), I n ρ →
    (∀ k d ρ, ds[k]? = some d → I (n + k) ρ → ∃ ρ1, fg d ρ = some ρ1 ∧ Run b ρ1 (Turn' (I (n + k + 1)) Q)) → (∀ ρ, I (n + ds.length) ρ → Q (.nx ρ)) → ∃ o, loopF fg b ds ρ = some o ∧ Q o
  | [], n, ρ, h0, _, hq => ⟨_, rfl, hq ρ h0⟩
  | d :: ds, n, ρ, h0, st, hq => by
    obtain ⟨ρ1, e1, o, e2, q⟩ := st 0 d ρ rfl h0
    have rest : ∀ ρ2, I (n + 1) ρ2 → ∃ o, loopF fg b ds ρ2 = some o ∧ Q o := fun ρ2 h2 => loop_run I ds (n + 1) ρ2 h2 (fun k d ρ hd hI => by
      have := st (k + 1) d ρ (by simpa using hd) (by rw [show n + (k + 1) = n + 1 + k by omega]; exact hI)
      rw [show n + (k + 1) + 1 = n + 1 + k + 1 by omega] at this
      exact this) (fun ρ h => hq ρ (by rw [List.length_cons, show n + (ds.length + 1) = n + 1 + ds.length by omega]; exact h))
    cases o with
    | nx ρ2 =>
      obtain ⟨o, e, q⟩ := rest ρ2 q
      exact ⟨o, by rw [loopF, e1]; simp only [e2]; exact e, q⟩
    | ct ρ2 =>
      obtain ⟨o, e, q⟩ := rest ρ2 q
      exact ⟨o, by rw [loopF, e1]; simp only [e2]; exact e, q⟩
    | bk ρ2 => exact ⟨_, by rw [loopF, e1]; simp only [e2], q⟩
    | rt d2 => exact ⟨_, by rw [loopF, e1]; simp only [e2], q⟩
    | rs x ρ2 => exact ⟨_, by rw [loopF, e1]; simp only [e2], q⟩
    | rl d2 => exact ⟨_, by rw [loopF, e1]; simp only [e2], q⟩
theorem Run.for {fg : FG} {b : FS} (I : Nat → Env → Prop) (e : EvL fl ρ ds) (h0 : I 0 ρ) (st : ∀ k d ρ, ds[k]? = some d → I k ρ → ∃ ρ1, fg d ρ = some ρ1 ∧ Run b ρ1 (Turn' (I (k + 1)) Q)) (hq : ∀ ρ, I ds.length ρ → Q (.nx ρ)) : Run (gFor fl fg b) ρ Q := by
  obtain ⟨o, e2, q⟩ := loop_run (fg := fg) (b := b) (Q := Q) I ds 0 ρ h0 (fun k d ρ hd hI => by
    rw [Nat.zero_add] at hI ⊢
    exact st k d ρ hd hI) (fun ρ h => hq ρ (by rw [Nat.zero_add] at h; exact h))
  exact ⟨o, by unfold gFor; rw [e]; exact e2, q⟩
end
/-! ### comprehensions -/
theorem lcF_of {α : Type} {fg : FG} {ft fe : FE} {ρ : Env} (A : α → D) (o : α → Option D) : ∀ (xs : List α), (∀ x ∈ xs, itemF fg ft fe ρ (A x) = some (o x)) → lcF fg ft fe ρ (xs.map A) = some (xs.filterMap o)
  | [], _ => rfl
  | x :: xs, h => by
    rw [List.map_cons, lcF, h x List.mem_cons_self]
    simp only []
    rw [lcF_of A o xs fun y hy => h y (List.mem_cons_of_mem _ hy)]
    cases e : o x with
    | none => simp [List.filterMap_cons, e]
    | some d => simp [List.filterMap_cons, e]
theorem EvL.lc {α : Type} {fi : FL} {fg : FG} {ft fe : FE} {vs : List Nat} {ρ : Env} (xs : List α) (A : α → D) (o : α → Option D) (hi : EvL fi ρ (xs.map A)) (hl : xs.length ≤ 90000) (h : ∀ x ∈ xs, itemF fg ft fe (wipeE ρ vs) (A x) = some (o x)) : EvL (nLc fi fg ft fe vs) ρ (xs.filterMap o) := by
  unfold EvL nLc
  rw [hi]
  simp only [RLL, List.length_map, hl, if_true, lcF_of A o xs h, Option.map]
theorem item_yes {fg : FG} {fe : FE} {ρ ρ1 : Env} {d v : D} (eg : fg d (mask ρ) = some ρ1) (ev : Ev fe ρ1 v) : itemF fg vYes fe ρ d = some (some v) := by
  unfold itemF vYes
  rw [eg]
  simp only []
  rw [ev]
theorem item_if {fg : FG} {ft fe : FE} {ρ ρ1 : Env} {d v : D} {P : Prop} {iP : Decidable P} (eg : fg d (mask ρ) = some ρ1) (et : Ev ft ρ1 (.bl (decide P))) (ev : P → Ev fe ρ1 v) : itemF fg ft fe ρ d = some (if P then some v else none) := by
  unfold itemF
  rw [eg]
  simp only []
  rw [et]
  by_cases h : P
  · simp only [h, decide_true, if_true]
    rw [ev h]
  · simp only [h, decide_false, if_false]
/-! ### defs -/
theorem sem_of {n : Nat} {g : FS} {ds : List D} {P : D → Prop} (h : Run g (ds.map Sl.v ++ List.replicate (n - ds.length) Sl.no) fun o => (∃ d, o = .rt d ∧ P d) ∨ ((∃ ρ, o = .nx ρ) ∧ P .non) ∨ ∃ xs, o = .rl xs ∧ P (.lst xs)) : ∃ d, semF n g ds = some (.ok d) ∧ P d := by
  obtain ⟨o, e, q⟩ := h
  unfold semF
  rw [e]
  rcases q with ⟨d, rfl, q⟩ | ⟨⟨ρ, rfl⟩, q⟩ | ⟨xs, rfl, q⟩
  · exact ⟨d, rfl, q⟩
  · exact ⟨_, rfl, q⟩
  · exact ⟨_, rfl, q⟩
def Ret (P : D → Prop) : Out → Prop
  | .rt d => P d
  | .nx _ => P .non
  | .rl xs => P (.lst xs)
  | _ => False
theorem sem_ret {n : Nat} {g : FS} {ds : List D} {P : D → Prop} (h : Run g (ds.map Sl.v ++ List.replicate (n - ds.length) Sl.no) (Ret P)) : ∃ d, semF n g ds = some (.ok d) ∧ P d := by
  obtain ⟨o, e, q⟩ := h
  unfold semF
  rw [e]
  cases o with
  | rt d => exact ⟨d, rfl, q⟩
  | nx ρ => exact ⟨_, rfl, q⟩
  | rl xs => exact ⟨_, rfl, q⟩
  | _ => exact q.elim
theorem rangeD_map (lo : Int) (n : Nat) : rangeD lo n = (List.range n).map fun k => D.int (lo + (k : Nat)) := rfl
theorem rangeD_get {lo : Int} {n k : Nat} {d : D} (h : (rangeD lo n)[k]? = some d) : d = .int (lo + (k : Nat)) ∧ k < n := by
  unfold rangeD at h
  rw [List.getElem?_map] at h
  obtain ⟨x, e, rfl⟩ := Option.map_eq_some_iff.mp h
  have := (List.getElem?_eq_some_iff.mp e)
  obtain ⟨hl, hx⟩ := this
  rw [List.length_range] at hl
  rw [List.getElem_range] at hx
  subst hx
  exact ⟨rfl, hl⟩
def at_ {α : Type} [Inhabited α] (xs : List α) (i : Int) : α := xs.getD i.toNat default
theorem at_get {α : Type} [Inhabited α] {xs : List α} {i : Int} (h0 : 0 ≤ i) (h : i < xs.length) : xs[i.toNat]? = some (at_ xs i) := by
  unfold at_
  rw [List.getD_eq_getElem?_getD]
  have : i.toNat < xs.length := by omega
  rw [List.getElem?_eq_getElem this]
  rfl
theorem at_mem {α : Type} [Inhabited α] {xs : List α} {i : Int} (h0 : 0 ≤ i) (h : i < xs.length) : at_ xs i ∈ xs := List.mem_of_getElem? (at_get h0 h)
theorem Ev.ixM {fa fb : FE} {ρ : Env} {i : Int} {α : Type} [Inhabited α] {A : α → D} {xs : List α} (ha : Ev fa ρ (.lst (xs.map A))) (hb : Ev fb ρ (.int i)) (h0 : 0 ≤ i) (h : i < xs.length) : Ev (EV.v2 ixD fa fb) ρ (A (at_ xs i)) :=
  .ixL ha hb h0 (by rw [List.getElem?_map, at_get h0 h]; rfl)
theorem Ev.ixMT {fa fb : FE} {ρ : Env} {i : Int} {α : Type} [Inhabited α] {A : α → D} {xs : List α} (ha : Ev fa ρ (.tup (xs.map A))) (hb : Ev fb ρ (.int i)) (h0 : 0 ≤ i) (h : i < xs.length) : Ev (EV.v2 ixD fa fb) ρ (A (at_ xs i)) :=
  .ixT ha hb h0 (by rw [List.getElem?_map, at_get h0 h]; rfl)
theorem range0_get {n k : Nat} {d : D} (h : (rangeD 0 n)[k]? = some d) : d = .int (k : Nat) ∧ k < n := by
  obtain ⟨e, hl⟩ := rangeD_get h
  exact ⟨by rw [e, Int.zero_add], hl⟩
theorem tbl_get {tb : List D} (P : Int → Bool) (h : tb.all (fun d => match d with | .int m => P m | _ => false) = true) {i : Int} (hl : i.toNat < tb.length) : ∃ m, tb[i.toNat]? = some (.int m) ∧ P m = true := by
  have hm : tb[i.toNat] ∈ tb := List.getElem_mem hl
  have q := List.all_eq_true.mp h _ hm
  rw [List.getElem?_eq_getElem hl]
  generalize tb[i.toNat] = d at q
  cases d with
  | int m => exact ⟨m, rfl, q⟩
  | _ => cases q
end EV
end

section
set_option maxHeartbeats 4000000
/-! EV15: zip of two and three lists or tuples. -/
namespace EV
open PySem L2

def Itz2 (K : PySem.W.Frag) (k1 k2 : Bool) (a b : Addr) : It :=
  ⟨fun i H => ∃ (xs ys : List V) (x y : V), SqK K k1 H a xs ∧ SqK K k2 H b ys ∧ xs[i]? = some x ∧ ys[i]? = some y,
    fun i H v H' => ∃ T x y, v = .ref T ∧ H T = none ∧ H' = L2.upd H T (.tup [x, y]) ∧ (∀ xs, SqK K k1 H a xs → xs[i]? = some x) ∧ ∀ ys, SqK K k2 H b ys → ys[i]? = some y,
    fun i H => ∃ xs ys : List V, SqK K k1 H a xs ∧ SqK K k2 H b ys ∧ i ≤ xs.length ∧ i ≤ ys.length ∧ (i = xs.length ∨ i = ys.length)⟩
theorem turn_z2 {P : Program} {w : World} {K : PySem.W.Frag} {elts : List Expr} {kk : Nat} {tpos : Pos} {k1 k2 : Bool} {a b z TI TO i1 i2 : Addr} (D : ZipSep2 z TI TO i1 i2 [i1, a] [i2, b]) :
    Turn P w K (.Tuple elts kk tpos) (Itz2 K k1 k2 a b) [z, TI, TO, i1, i2] z (fun i h => IsZip h z TI TO .none ∧ IsTupOf2 h TI (.ref i1) (.ref i2) ∧ (∃ x y, IsTupOf2 h TO x y) ∧ stK k1 i1 a i h ∧ stK k2 i2 b i h) where
  mem := by simp
  obj := fun i h st c hc => by
    obtain ⟨hz, hTI, ⟨x, y, hTO⟩, h1, h2⟩ := st
    have e' : c = z ∨ c = TI ∨ c = TO ∨ c = i1 ∨ c = i2 := by simpa using hc
    rcases e' with q | q | q | q | q
    · rw [q]; exact ⟨_, hz, fun v q => nomatch q⟩
    · rw [q]; exact ⟨_, hTI, fun v q => nomatch q⟩
    · rw [q]; exact ⟨_, hTO, fun v q => nomatch q⟩
    · rw [q]; exact stK_live h1
    · rw [q]; exact stK_live h2
  keep := fun i h h' st k => by
    obtain ⟨hz, hTI, ⟨x, y, hTO⟩, h1, h2⟩ := st
    exact ⟨k z (by simp) _ hz, k TI (by simp) _ hTI, ⟨x, y, k TO (by simp) _ hTO⟩, stK_at h1 fun o q => k i1 (by simp) o q, stK_at h2 fun o q => k i2 (by simp) o q⟩
  item := by
    intro X hP hw hK hc i pins s σ H E I hf st hg
    subst hP hw hK
    obtain ⟨hz, hTI, ⟨x0, y0, hTO⟩, h1, h2⟩ := st
    obtain ⟨xs, ys, x, y, hqx, hqy, hx, hy⟩ := hg
    obtain ⟨its, rv, p⟩ := sqK_get I hqx
    obtain ⟨its2, rv2, p2⟩ := sqK_get I hqy
    obtain ⟨u, hu, ru⟩ := rv.get hx
    obtain ⟨u2, hu2, ru2⟩ := rv2.get hy
    have hzl : z < s.heap.objs.size := Heap.lt_size hz
    have l1 : i < its.toArray.size := by simpa using (List.getElem?_eq_some_iff.mp hu).1
    have l2 : i < its2.toArray.size := by simpa using (List.getElem?_eq_some_iff.mp hu2).1
    refine wpAny_pyNext_zipD2_item D (drawsK (A := X.A.in1) (I.ok.hd hc) i1 a (stK_ne h1 p) its.toArray k1) (drawsK (A := X.A.in1) (I.ok.hd hc) i2 b (stK_ne h2 p2) its2.toArray k2) hz hTI hTO ⟨h1, p⟩ ⟨h2, p2⟩ l1 l2 fun v1 v2 h' tk q1 q2 z' TO' h1' h2' hT hsz hk => ?_
    have ev : v1 = u := by
      have e1 : its.toArray[i]? = some u := by simpa using hu
      rw [e1] at q1
      exact (Option.some.inj q1).symm
    have ev2 : v2 = u2 := by
      have e1 : its2.toArray[i]? = some u2 := by simpa using hu2
      rw [e1] at q2
      exact (Option.some.inj q2).symm
    subst ev ev2
    refine ⟨_, rfl, wpAny_letOwnedTupleGo_zip (s := { s with heap := h', toks := tk }) z' fun h'' z'' sb => ?_⟩
    have hT2 : h''.get? s.heap.objs.size = some { cls := .type "tuple", data := .seq #[v1, v2] } := (sb.2 _ (Nat.ne_of_gt hzl)).trans hT
    have new : ObjOk X.prog X.w (L2.upd H s.heap.objs.size (.tup [x, y])) h'' s.heap.objs.size (.tup [x, y]) :=
      ⟨by show 2 ≤ sizeLine; decide, [v1, v2], .cons ru (.cons ru2 .nil), ⟨_, hT2, rfl, _, rfl⟩⟩
    have I1 : Inv X pins σ (L2.upd H s.heap.objs.size (.tup [x, y])) { s with heap := h'', toks := tk } :=
      I.turnedNew (ch := [z, TI, TO, i1, i2]) (fun c o hb q => (sb.2 c (fun q' => hb (by simp [q']))).trans (hk c o (fun q' => hb (by simp [q'])) (fun q' => hb (by simp [q'])) (fun q' => hb (by simp [q'])) (fun q' => hb (by simp [q'])) q)) hf (Nat.le_refl _) new
    refine ⟨.ref s.heap.objs.size, _, I1, rfl, ⟨_, x, y, rfl, I.hok.fresh (Nat.le_refl _), rfl, fun l hl => by rw [sqK_inj I hl hqx]; exact hx, fun l hl => by rw [sqK_inj I hl hqy]; exact hy⟩, ⟨z'', ?_, ⟨v1, v2, ?_⟩, ?_, ?_⟩, fun c hcm => ?_⟩
    · exact (sb.2 _ D.TIz).trans (hk _ _ D.TIz D.TITO D.TIi1 D.TIi2 hTI)
    · exact (sb.2 _ D.TOz).trans TO'
    · exact stK_at h1'.1 fun o q => (sb.2 _ (Ne.symm D.zi1)).trans q
    · exact stK_at h2'.1 fun o q => (sb.2 _ (Ne.symm D.zi2)).trans q
    · have hlt : c < s.heap.objs.size := by
        have e' : c = z ∨ c = TI ∨ c = TO ∨ c = i1 ∨ c = i2 := by simpa using hcm
        rcases e' with q | q | q | q | q
        · rw [q]; exact hzl
        · rw [q]; exact Heap.lt_size hTI
        · rw [q]; exact Heap.lt_size hTO
        · rw [q]; obtain ⟨_, e1, _⟩ := stK_live h1; exact Heap.lt_size e1
        · rw [q]; obtain ⟨_, e2, _⟩ := stK_live h2; exact Heap.lt_size e2
      rw [upd_ne (Nat.ne_of_lt hlt)]
      exact (hf c hcm).1
  done := by
    intro X hP hw hK hc i pins s σ H E I hf st hg
    subst hP hw hK
    obtain ⟨hz, hTI, ⟨x0, y0, hTO⟩, h1, h2⟩ := st
    obtain ⟨xs, ys, hqx, hqy, e1, e2, hend⟩ := hg
    obtain ⟨its, rv, p⟩ := sqK_get I hqx
    obtain ⟨its2, rv2, p2⟩ := sqK_get I hqy
    have l1 : its.toArray.size = xs.length := by simpa using rv.length.symm
    have l2 : its2.toArray.size = ys.length := by simpa using rv2.length.symm
    exact wpAny_pyNext_zipD2_end D (drawsK (A := X.A.in1) (I.ok.hd hc) i1 a (stK_ne h1 p) its.toArray k1) (drawsK (A := X.A.in1) (I.ok.hd hc) i2 b (stK_ne h2 p2) its2.toArray k2) hz hTI hTO ⟨h1, p⟩ ⟨h2, p2⟩ (by omega) (by omega) (by omega) fun h' tk hk => ⟨rfl, I.turnedL (ch := [z, TI, TO, i1, i2]) (fun c o hb q =>
      hk c o (fun q' => hb (by simp [q'])) (fun q' => hb (by simp [q'])) (fun q' => hb (by simp [q'])) (fun q' => hb (by simp [q'])) q) hf⟩
  self := fun A i s Q E st h => wpAny_pyIter_zip st.1 h

def Itz3 (K : PySem.W.Frag) (k1 k2 k3 : Bool) (a b c : Addr) : It :=
  ⟨fun i H => ∃ (xs ys zs : List V) (x y u : V), SqK K k1 H a xs ∧ SqK K k2 H b ys ∧ SqK K k3 H c zs ∧ xs[i]? = some x ∧ ys[i]? = some y ∧ zs[i]? = some u,
    fun i H v H' => ∃ T x y u, v = .ref T ∧ H T = none ∧ H' = L2.upd H T (.tup [x, y, u]) ∧ (∀ xs, SqK K k1 H a xs → xs[i]? = some x) ∧ (∀ ys, SqK K k2 H b ys → ys[i]? = some y) ∧ ∀ zs, SqK K k3 H c zs → zs[i]? = some u,
    fun i H => ∃ xs ys zs : List V, SqK K k1 H a xs ∧ SqK K k2 H b ys ∧ SqK K k3 H c zs ∧ i ≤ xs.length ∧ i ≤ ys.length ∧ i ≤ zs.length ∧ (i = xs.length ∨ i = ys.length ∨ i = zs.length)⟩
theorem turn_z3 {P : Program} {w : World} {K : PySem.W.Frag} {elts : List Expr} {kk : Nat} {tpos : Pos} {k1 k2 k3 : Bool} {a b e z TI TO i1 i2 i3 : Addr} (D : ZipSep3 z TI TO i1 i2 i3 [i1, a] [i2, b] [i3, e]) :
    Turn P w K (.Tuple elts kk tpos) (Itz3 K k1 k2 k3 a b e) [z, TI, TO, i1, i2, i3] z (fun i h => IsZip h z TI TO .none ∧ IsTupOf3 h TI (.ref i1) (.ref i2) (.ref i3) ∧ (∃ x y u, IsTupOf3 h TO x y u) ∧ stK k1 i1 a i h ∧ stK k2 i2 b i h ∧ stK k3 i3 e i h) where
  mem := by simp
  obj := fun i h st c hc => by
    obtain ⟨hz, hTI, ⟨x, y, u, hTO⟩, h1, h2, h3⟩ := st
    have e' : c = z ∨ c = TI ∨ c = TO ∨ c = i1 ∨ c = i2 ∨ c = i3 := by simpa using hc
    rcases e' with q | q | q | q | q | q
    · rw [q]; exact ⟨_, hz, fun v q => nomatch q⟩
    · rw [q]; exact ⟨_, hTI, fun v q => nomatch q⟩
    · rw [q]; exact ⟨_, hTO, fun v q => nomatch q⟩
    · rw [q]; exact stK_live h1
    · rw [q]; exact stK_live h2
    · rw [q]; exact stK_live h3
  keep := fun i h h' st k => by
    obtain ⟨hz, hTI, ⟨x, y, u, hTO⟩, h1, h2, h3⟩ := st
    exact ⟨k z (by simp) _ hz, k TI (by simp) _ hTI, ⟨x, y, u, k TO (by simp) _ hTO⟩, stK_at h1 fun o q => k i1 (by simp) o q, stK_at h2 fun o q => k i2 (by simp) o q, stK_at h3 fun o q => k i3 (by simp) o q⟩
  item := by
    intro X hP hw hK hc i pins s σ H E I hf st hg
    subst hP hw hK
    obtain ⟨hz, hTI, ⟨x0, y0, u0, hTO⟩, h1, h2, h3⟩ := st
    obtain ⟨xs, ys, zs, x, y, r, hqx, hqy, hqz, hx, hy, hr⟩ := hg
    obtain ⟨its, rv, p⟩ := sqK_get I hqx
    obtain ⟨its2, rv2, p2⟩ := sqK_get I hqy
    obtain ⟨its3, rv3, p3⟩ := sqK_get I hqz
    obtain ⟨u, hu, ru⟩ := rv.get hx
    obtain ⟨u2, hu2, ru2⟩ := rv2.get hy
    obtain ⟨u3, hu3, ru3⟩ := rv3.get hr
    have hzl : z < s.heap.objs.size := Heap.lt_size hz
    have l1 : i < its.toArray.size := by simpa using (List.getElem?_eq_some_iff.mp hu).1
    have l2 : i < its2.toArray.size := by simpa using (List.getElem?_eq_some_iff.mp hu2).1
    have l3 : i < its3.toArray.size := by simpa using (List.getElem?_eq_some_iff.mp hu3).1
    refine wpAny_pyNext_zipD3_item D (drawsK (A := X.A.in1) (I.ok.hd hc) i1 a (stK_ne h1 p) its.toArray k1) (drawsK (A := X.A.in1) (I.ok.hd hc) i2 b (stK_ne h2 p2) its2.toArray k2) (drawsK (A := X.A.in1) (I.ok.hd hc) i3 e (stK_ne h3 p3) its3.toArray k3) hz hTI hTO ⟨h1, p⟩ ⟨h2, p2⟩ ⟨h3, p3⟩ l1 l2 l3 fun v1 v2 v3 h' tk q1 q2 q3 z' TO' h1' h2' h3' hT hsz hk => ?_
    have ev : v1 = u := by
      have e1 : its.toArray[i]? = some u := by simpa using hu
      rw [e1] at q1
      exact (Option.some.inj q1).symm
    have ev2 : v2 = u2 := by
      have e1 : its2.toArray[i]? = some u2 := by simpa using hu2
      rw [e1] at q2
      exact (Option.some.inj q2).symm
    have ev3 : v3 = u3 := by
      have e1 : its3.toArray[i]? = some u3 := by simpa using hu3
      rw [e1] at q3
      exact (Option.some.inj q3).symm
    subst ev ev2 ev3
    refine ⟨_, rfl, wpAny_letOwnedTupleGo_zip (s := { s with heap := h', toks := tk }) z' fun h'' z'' sb => ?_⟩
    have hT2 : h''.get? s.heap.objs.size = some { cls := .type "tuple", data := .seq #[v1, v2, v3] } := (sb.2 _ (Nat.ne_of_gt hzl)).trans hT
    have new : ObjOk X.prog X.w (L2.upd H s.heap.objs.size (.tup [x, y, r])) h'' s.heap.objs.size (.tup [x, y, r]) :=
      ⟨by show 3 ≤ sizeLine; decide, [v1, v2, v3], .cons ru (.cons ru2 (.cons ru3 .nil)), ⟨_, hT2, rfl, _, rfl⟩⟩
    have I1 : Inv X pins σ (L2.upd H s.heap.objs.size (.tup [x, y, r])) { s with heap := h'', toks := tk } :=
      I.turnedNew (ch := [z, TI, TO, i1, i2, i3]) (fun c o hb q => (sb.2 c (fun q' => hb (by simp [q']))).trans (hk c o (fun q' => hb (by simp [q'])) (fun q' => hb (by simp [q'])) (fun q' => hb (by simp [q'])) (fun q' => hb (by simp [q'])) (fun q' => hb (by simp [q'])) q)) hf (Nat.le_refl _) new
    refine ⟨.ref s.heap.objs.size, _, I1, rfl, ⟨_, x, y, r, rfl, I.hok.fresh (Nat.le_refl _), rfl, fun l hl => by rw [sqK_inj I hl hqx]; exact hx, fun l hl => by rw [sqK_inj I hl hqy]; exact hy, fun l hl => by rw [sqK_inj I hl hqz]; exact hr⟩, ⟨z'', ?_, ⟨v1, v2, v3, ?_⟩, ?_, ?_, ?_⟩, fun c hcm => ?_⟩
    · exact (sb.2 _ D.TIz).trans (hk _ _ D.TIz D.TITO D.TIi1 D.TIi2 D.TIi3 hTI)
    · exact (sb.2 _ D.TOz).trans TO'
    · exact stK_at h1'.1 fun o q => (sb.2 _ (Ne.symm D.zi1)).trans q
    · exact stK_at h2'.1 fun o q => (sb.2 _ (Ne.symm D.zi2)).trans q
    · exact stK_at h3'.1 fun o q => (sb.2 _ (Ne.symm D.zi3)).trans q
    · have hlt : c < s.heap.objs.size := by
        have e' : c = z ∨ c = TI ∨ c = TO ∨ c = i1 ∨ c = i2 ∨ c = i3 := by simpa using hcm
        rcases e' with q | q | q | q | q | q
        · rw [q]; exact hzl
        · rw [q]; exact Heap.lt_size hTI
        · rw [q]; exact Heap.lt_size hTO
        · rw [q]; obtain ⟨_, e1, _⟩ := stK_live h1; exact Heap.lt_size e1
        · rw [q]; obtain ⟨_, e2, _⟩ := stK_live h2; exact Heap.lt_size e2
        · rw [q]; obtain ⟨_, e2, _⟩ := stK_live h3; exact Heap.lt_size e2
      rw [upd_ne (Nat.ne_of_lt hlt)]
      exact (hf c hcm).1
  done := by
    intro X hP hw hK hc i pins s σ H E I hf st hg
    subst hP hw hK
    obtain ⟨hz, hTI, ⟨x0, y0, u0, hTO⟩, h1, h2, h3⟩ := st
    obtain ⟨xs, ys, zs, hqx, hqy, hqz, e1, e2, e3, hend⟩ := hg
    obtain ⟨its, rv, p⟩ := sqK_get I hqx
    obtain ⟨its2, rv2, p2⟩ := sqK_get I hqy
    obtain ⟨its3, rv3, p3⟩ := sqK_get I hqz
    have l1 : its.toArray.size = xs.length := by simpa using rv.length.symm
    have l2 : its2.toArray.size = ys.length := by simpa using rv2.length.symm
    have l3 : its3.toArray.size = zs.length := by simpa using rv3.length.symm
    exact wpAny_pyNext_zipD3_end D (drawsK (A := X.A.in1) (I.ok.hd hc) i1 a (stK_ne h1 p) its.toArray k1) (drawsK (A := X.A.in1) (I.ok.hd hc) i2 b (stK_ne h2 p2) its2.toArray k2) (drawsK (A := X.A.in1) (I.ok.hd hc) i3 e (stK_ne h3 p3) its3.toArray k3) hz hTI hTO ⟨h1, p⟩ ⟨h2, p2⟩ ⟨h3, p3⟩ (by omega) (by omega) (by omega) (by omega) fun h' tk hk => ⟨rfl, I.turnedL (ch := [z, TI, TO, i1, i2, i3]) (fun c o hb q =>
      hk c o (fun q' => hb (by simp [q'])) (fun q' => hb (by simp [q'])) (fun q' => hb (by simp [q'])) (fun q' => hb (by simp [q'])) (fun q' => hb (by simp [q'])) q) hf⟩
  self := fun A i s Q E st h => wpAny_pyIter_zip st.1 h
section
variable {X : Cx} {T : Tab} {W : WX} {e e2 e3 : Expr} {fa fb fc : FE} {p pos tpos : Pos} {elts : List Expr} {kk : Nat}
def iZ2 (K : PySem.W.Frag) (ta : TA) : TI := fun σ H R => ta σ H fun vs H1 => ∃ a b xs ys k1 k2, vs = [.ref a, .ref b] ∧ SqK K k1 H1 a xs ∧ SqK K k2 H1 b ys ∧ R (Itz2 K k1 k2 a b) H1
theorem nin2 {x a b : Addr} (h1 : x ≠ a) (h2 : x ≠ b) : x ∉ [a, b] := by
  simp only [List.mem_cons, List.not_mem_nil, or_false, not_or]
  exact ⟨h1, h2⟩
theorem sep2_of (n a b : Nat) (ha : a < n) (hb : b < n) : ZipSep2 (n + 4) (n + 2) (n + 3) n (n + 1) [n, a] [n + 1, b] := by
  constructor <;> first | exact Nat.ne_of_gt (by omega) | exact Nat.ne_of_lt (by omega) | exact List.mem_cons_self | exact nin2 (by first | exact Nat.ne_of_gt (by omega) | exact Nat.ne_of_lt (by omega)) (by first | exact Nat.ne_of_gt (by omega) | exact Nat.ne_of_lt (by omega))
theorem sep3_of (n a b c : Nat) (ha : a < n) (hb : b < n) (hc : c < n) : ZipSep3 (n + 5) (n + 3) (n + 4) n (n + 1) (n + 2) [n, a] [n + 1, b] [n + 2, c] := by
  constructor <;> first | exact Nat.ne_of_gt (by omega) | exact Nat.ne_of_lt (by omega) | exact List.mem_cons_self | exact nin2 (by first | exact Nat.ne_of_gt (by omega) | exact Nat.ne_of_lt (by omega)) (by first | exact Nat.ne_of_gt (by omega) | exact Nat.ne_of_lt (by omega))
theorem isK_lt {h : Heap} {b : Addr} {its : Array Value} : ∀ {k : Bool}, IsK k h b its → b < h.objs.size
  | true, ⟨u, e', _⟩ => Heap.lt_size e'
  | false, ⟨u, e', _⟩ => Heap.lt_size e'
theorem pi_z2 {ta : TA} (hg : Gl X "zip") (hm : X.mg "zip" = none) (ha : PA X [e, e2] ta)
    (hs : starEach [e, e2] X.env = (false, eval e X.env) :: starEach [e2] X.env := by rfl) (hpl : (backTo pos (starEach [e2] X.env)).any (·.1) = false := by rfl) :
    PI X (.Tuple elts kk tpos) (.Call (.Name "zip" p) [e, e2] [] pos) (iZ2 X.K ta) := by
  refine ⟨fun pins s σ H R I h => ?_⟩
  refine PyProof.Rows.Call_ (ld_blt I hg hm PyProof.Rows.boot_zip (PyProof.Rows.callWith_type1 (thn (ha.run pos pins s σ H _ I h) fun us s1 ⟨vs, H1, I1, r1, q1⟩ => ?_) hs hpl))
  obtain ⟨a, b, xs, ys, k1, k2, rfl, hqx, hqy, q⟩ := q1
  cases r1 with
  | cons r rr =>
    cases rr with
    | cons r' rr =>
      cases rr
      cases r
      cases r'
      obtain ⟨its, rv, p1⟩ := sqK_get I1 hqx
      obtain ⟨its2, rv2, p2⟩ := sqK_get I1 hqy
      have la := isK_lt p1
      have lb := isK_lt p2
      refine zip_begins2 (beginsK k1 a its.toArray) (beginsK k2 b its2.toArray) p1 p2 fun h' hz hTI hTO h1 h2 hsz hk => wpAny_pyIter_zip hz ?_
      have I2 : Inv X pins σ H1 { s1 with heap := h' } := I1.kept (t' := s1.toks) hk
      have D := sep2_of s1.heap.objs.size a b la lb
      refine ⟨s1.heap.objs.size + 4, [s1.heap.objs.size + 4, s1.heap.objs.size + 2, s1.heap.objs.size + 3, s1.heap.objs.size, s1.heap.objs.size + 1], _, _, H1, rfl, I2, turn_z2 D, ⟨hz, hTI, ⟨_, _, hTO⟩, itO_st h1, itO_st h2⟩, fun c hcm => ?_, q⟩
      have e' : c = s1.heap.objs.size + 4 ∨ c = s1.heap.objs.size + 2 ∨ c = s1.heap.objs.size + 3 ∨ c = s1.heap.objs.size ∨ c = s1.heap.objs.size + 1 := by simpa using hcm
      have hle : s1.heap.objs.size ≤ c := by
        rcases e' with z | z | z | z | z <;> rw [z] <;> omega
      exact I1.fpOk hle (I1.hok.fresh hle)
def iZ3 (K : PySem.W.Frag) (ta : TA) : TI := fun σ H R => ta σ H fun vs H1 => ∃ a b c xs ys zs k1 k2 k3, vs = [.ref a, .ref b, .ref c] ∧ SqK K k1 H1 a xs ∧ SqK K k2 H1 b ys ∧ SqK K k3 H1 c zs ∧ R (Itz3 K k1 k2 k3 a b c) H1
theorem pi_z3 {ta : TA} (hg : Gl X "zip") (hm : X.mg "zip" = none) (ha : PA X [e, e2, e3] ta)
    (hs : starEach [e, e2, e3] X.env = (false, eval e X.env) :: starEach [e2, e3] X.env := by rfl) (hpl : (backTo pos (starEach [e2, e3] X.env)).any (·.1) = false := by rfl) :
    PI X (.Tuple elts kk tpos) (.Call (.Name "zip" p) [e, e2, e3] [] pos) (iZ3 X.K ta) := by
  refine ⟨fun pins s σ H R I h => ?_⟩
  refine PyProof.Rows.Call_ (ld_blt I hg hm PyProof.Rows.boot_zip (PyProof.Rows.callWith_type1 (thn (ha.run pos pins s σ H _ I h) fun us s1 ⟨vs, H1, I1, r1, q1⟩ => ?_) hs hpl))
  obtain ⟨a, b, c, xs, ys, zs, k1, k2, k3, rfl, hqx, hqy, hqz, q⟩ := q1
  cases r1 with
  | cons r rr =>
    cases rr with
    | cons r' rr =>
      cases rr with
      | cons r'' rr =>
        cases rr
        cases r
        cases r'
        cases r''
        obtain ⟨its, rv, p1⟩ := sqK_get I1 hqx
        obtain ⟨its2, rv2, p2⟩ := sqK_get I1 hqy
        obtain ⟨its3, rv3, p3⟩ := sqK_get I1 hqz
        have la := isK_lt p1
        have lb := isK_lt p2
        have lc := isK_lt p3
        refine zip_begins3 (beginsK k1 a its.toArray) (beginsK k2 b its2.toArray) (beginsK k3 c its3.toArray) p1 p2 p3 fun h' hz hTI hTO h1 h2 h3 hsz hk => wpAny_pyIter_zip hz ?_
        have I2 : Inv X pins σ H1 { s1 with heap := h' } := I1.kept (t' := s1.toks) hk
        have D := sep3_of s1.heap.objs.size a b c la lb lc
        refine ⟨s1.heap.objs.size + 5, [s1.heap.objs.size + 5, s1.heap.objs.size + 3, s1.heap.objs.size + 4, s1.heap.objs.size, s1.heap.objs.size + 1, s1.heap.objs.size + 2], _, _, H1, rfl, I2, turn_z3 D, ⟨hz, hTI, ⟨_, _, _, hTO⟩, itO_st h1, itO_st h2, itO_st h3⟩, fun c hcm => ?_, q⟩
        have e' : c = s1.heap.objs.size + 5 ∨ c = s1.heap.objs.size + 3 ∨ c = s1.heap.objs.size + 4 ∨ c = s1.heap.objs.size ∨ c = s1.heap.objs.size + 1 ∨ c = s1.heap.objs.size + 2 := by simpa using hcm
        have hle : s1.heap.objs.size ≤ c := by
          rcases e' with z | z | z | z | z | z <;> rw [z] <;> omega
        exact I1.fpOk hle (I1.hok.fresh hle)
theorem sqK_of {H : Hp} {v : V} {d : D} {ds : List D} (h : Is T H v d) (e : seqD d = some ds) : ∃ a vs k, v = .ref a ∧ SqK T.K k H a vs ∧ Iss T H vs ds := by
  unfold seqD at e
  split at e <;> cases e
  · cases h with
    | lst h hs => exact ⟨_, _, false, rfl, SqL.of h, hs⟩
  · cases h with
    | tup h hs => exact ⟨_, _, true, rfl, h, hs⟩
  · cases h with
    | scr h l => exact ⟨_, _, false, rfl, h, Iss.ints _⟩
def zipW2 : List D → List D → List D
  | x :: xs, y :: ys => .tup [x, y] :: zipW2 xs ys
  | _, _ => []
def zipW3 : List D → List D → List D → List D
  | x :: xs, y :: ys, z :: zs => .tup [x, y, z] :: zipW3 xs ys zs
  | _, _, _ => []
theorem zipW2_length : ∀ xs ys : List D, (zipW2 xs ys).length = min xs.length ys.length
  | [], _ => by simp [zipW2]
  | _ :: _, [] => by simp [zipW2]
  | x :: xs, y :: ys => by simp only [zipW2, List.length_cons, zipW2_length xs ys]; omega
theorem zipW3_length : ∀ xs ys zs : List D, (zipW3 xs ys zs).length = min xs.length (min ys.length zs.length)
  | [], _, _ => by simp [zipW3]
  | _ :: _, [], _ => by simp [zipW3]
  | _ :: _, _ :: _, [] => by simp [zipW3]
  | x :: xs, y :: ys, z :: zs => by simp only [zipW3, List.length_cons, zipW3_length xs ys zs]; omega
theorem zipW2_get : ∀ (xs ys : List D) (i : Nat) (x y : D), xs[i]? = some x → ys[i]? = some y → (zipW2 xs ys)[i]? = some (.tup [x, y])
  | [], _, _, _, _, h, _ => by simp at h
  | _ :: _, [], _, _, _, _, h => by simp at h
  | x :: xs, y :: ys, 0, _, _, h, h' => by simp at h h'; subst h h'; rfl
  | x :: xs, y :: ys, i + 1, a, b, h, h' => by
    simp only [zipW2, List.getElem?_cons_succ]
    exact zipW2_get xs ys i a b (by simpa using h) (by simpa using h')
theorem zipW3_get : ∀ (xs ys zs : List D) (i : Nat) (x y z : D), xs[i]? = some x → ys[i]? = some y → zs[i]? = some z → (zipW3 xs ys zs)[i]? = some (.tup [x, y, z])
  | [], _, _, _, _, _, _, h, _, _ => by simp at h
  | _ :: _, [], _, _, _, _, _, _, h, _ => by simp at h
  | _ :: _, _ :: _, [], _, _, _, _, _, _, h => by simp at h
  | x :: xs, y :: ys, z :: zs, 0, _, _, _, h, h', h'' => by simp at h h' h''; subst h h' h''; rfl
  | x :: xs, y :: ys, z :: zs, i + 1, a, b, c, h, h', h'' => by
    simp only [zipW3, List.getElem?_cons_succ]
    exact zipW3_get xs ys zs i a b c (by simpa using h) (by simpa using h') (by simpa using h'')
theorem iw_z2 {K : PySem.W.Frag} (hK : K = T.K) {k1 k2 : Bool} {a b : Addr} {vs us : List V} {ds es : List D} {S1 : Hp} (h : SqK K k1 S1 a vs) (hs : Iss T S1 vs ds) (h' : SqK K k2 S1 b us) (hs' : Iss T S1 us es) : IW T (Itz2 K k1 k2 a b) S1 (zipW2 ds es) := by
  refine ⟨fun i S H s sh hi => ?_, fun S H s sh => ?_, fun i S H x H' s sh hi y => ?_⟩
  · rw [zipW2_length, ← hs.length, ← hs'.length] at hi
    exact ⟨vs, us, vs[i]'(by omega), us[i]'(by omega), sqK_same sh.same (sqK_same s h), sqK_same sh.same (sqK_same s h'), List.getElem?_eq_getElem (by omega), List.getElem?_eq_getElem (by omega)⟩
  · refine ⟨vs, us, sqK_same sh.same (sqK_same s h), sqK_same sh.same (sqK_same s h'), ?_⟩
    rw [zipW2_length, ← hs.length, ← hs'.length]
    omega
  · obtain ⟨Tn, x', y', rfl, hn, rfl, hx, hy⟩ := y
    obtain ⟨d, h1, h2⟩ := hs.get (hx vs (sqK_same sh.same (sqK_same s h)))
    obtain ⟨d', h1', h2'⟩ := hs'.get (hy us (sqK_same sh.same (sqK_same s h')))
    have kp := Kp.new (o := .tup [x', y']) sh hn
    exact ⟨.tup [d, d'], _, zipW2_get ds es i d d' h1 h1', kp, .tup (SqT.of upd_same) (.cons ((h2.mono s).mono kp.s) (.cons ((h2'.mono s).mono kp.s) .nil))⟩
theorem iw_z3 {K : PySem.W.Frag} (hK : K = T.K) {k1 k2 k3 : Bool} {a b c : Addr} {vs us ws : List V} {ds es gs : List D} {S1 : Hp} (h : SqK K k1 S1 a vs) (hs : Iss T S1 vs ds) (h' : SqK K k2 S1 b us) (hs' : Iss T S1 us es) (h'' : SqK K k3 S1 c ws) (hs'' : Iss T S1 ws gs) : IW T (Itz3 K k1 k2 k3 a b c) S1 (zipW3 ds es gs) := by
  refine ⟨fun i S H s sh hi => ?_, fun S H s sh => ?_, fun i S H x H' s sh hi y => ?_⟩
  · rw [zipW3_length, ← hs.length, ← hs'.length, ← hs''.length] at hi
    exact ⟨vs, us, ws, vs[i]'(by omega), us[i]'(by omega), ws[i]'(by omega), sqK_same sh.same (sqK_same s h), sqK_same sh.same (sqK_same s h'), sqK_same sh.same (sqK_same s h''), List.getElem?_eq_getElem (by omega), List.getElem?_eq_getElem (by omega), List.getElem?_eq_getElem (by omega)⟩
  · refine ⟨vs, us, ws, sqK_same sh.same (sqK_same s h), sqK_same sh.same (sqK_same s h'), sqK_same sh.same (sqK_same s h''), ?_⟩
    rw [zipW3_length, ← hs.length, ← hs'.length, ← hs''.length]
    omega
  · obtain ⟨Tn, x', y', z', rfl, hn, rfl, hx, hy, hz⟩ := y
    obtain ⟨d, h1, h2⟩ := hs.get (hx vs (sqK_same sh.same (sqK_same s h)))
    obtain ⟨d', h1', h2'⟩ := hs'.get (hy us (sqK_same sh.same (sqK_same s h')))
    obtain ⟨d'', h1'', h2''⟩ := hs''.get (hz ws (sqK_same sh.same (sqK_same s h'')))
    have kp := Kp.new (o := .tup [x', y', z']) sh hn
    exact ⟨.tup [d, d', d''], _, zipW3_get ds es gs i d d' d'' h1 h1' h1'', kp, .tup (SqT.of upd_same) (.cons ((h2.mono s).mono kp.s) (.cons ((h2'.mono s).mono kp.s) (.cons ((h2''.mono s).mono kp.s) .nil)))⟩
def iZip2 (fa fb : FE) : FL := fun ρ => R1L (fa ρ) fun d => R1L (fb ρ) fun d2 => (seqD d).bind fun xs => (seqD d2).map fun ys => RL.ok (zipW2 xs ys)
def iZip3 (fa fb fc : FE) : FL := fun ρ => R1L (fa ρ) fun d => R1L (fb ρ) fun d2 => R1L (fc ρ) fun d3 => (seqD d).bind fun xs => (seqD d2).bind fun ys => (seqD d3).map fun zs => RL.ok (zipW3 xs ys zs)
theorem ei_zip2 (hm : X.mg "zip" = none) (ha : EE X T W e fa) (hb : EE X T W e2 fb) (hK : X.K = T.K := by rfl) (hg : Gl X "zip" := by rfl)
    (hs : starEach [e, e2] X.env = (false, eval e X.env) :: starEach [e2] X.env := by rfl) (hs4 : starEach [e2] X.env = (false, eval e2 X.env) :: starEach [] X.env := by rfl) (hpl : (backTo pos (starEach [e2] X.env)).any (·.1) = false := by rfl) :
    EI X T W (.Tuple elts kk tpos) (.Call (.Name "zip" p) [e, e2] [] pos) (iZip2 fa fb) := by
  refine PI.weak (pi_z2 hg hm (pa_cons ha (pa_cons hb pa_nil hs4) hs) hs hpl) fun σ H R q => ?_
  obtain ⟨ρ, S, r, sh, rep, e, fin⟩ := q
  show tF T W fa σ H _
  refine tF_goI sh rep e fin fun d v S1 H1 k i rep1 e1 fin1 => ?_
  show tF T W fb σ H1 _
  refine tF_goI k.sub rep1 e1 fin1 fun d2 v2 S2 H2 k2 i2 rep2 e2 fin2 => ?_
  obtain ⟨ds, e3, e4⟩ := Option.bind_eq_some_iff.mp e2
  obtain ⟨es, e5, rfl⟩ := Option.map_eq_some_iff.mp e4
  obtain ⟨a, vs, q1, rfl, h1, h2⟩ := sqK_of (i.mono k2.s) e3
  obtain ⟨b, us, q2, rfl, h3, h4⟩ := sqK_of i2 e5
  rw [← hK] at h1 h3
  exact ⟨a, b, vs, us, q1, q2, rfl, sqK_same k2.sub.same h1, sqK_same k2.sub.same h3, fin2 _ S2 H2 (Kp.refl k2.sub) (iw_z2 hK h1 h2 h3 h4)⟩
theorem ei_zip3 (hm : X.mg "zip" = none) (ha : EE X T W e fa) (hb : EE X T W e2 fb) (hc : EE X T W e3 fc) (hK : X.K = T.K := by rfl) (hg : Gl X "zip" := by rfl)
    (hs : starEach [e, e2, e3] X.env = (false, eval e X.env) :: starEach [e2, e3] X.env := by rfl) (hs4 : starEach [e2, e3] X.env = (false, eval e2 X.env) :: starEach [e3] X.env := by rfl) (hs5 : starEach [e3] X.env = (false, eval e3 X.env) :: starEach [] X.env := by rfl) (hpl : (backTo pos (starEach [e2, e3] X.env)).any (·.1) = false := by rfl) :
    EI X T W (.Tuple elts kk tpos) (.Call (.Name "zip" p) [e, e2, e3] [] pos) (iZip3 fa fb fc) := by
  refine PI.weak (pi_z3 hg hm (pa_cons ha (pa_cons hb (pa_cons hc pa_nil hs5) hs4) hs) hs hpl) fun σ H R q => ?_
  obtain ⟨ρ, S, r, sh, rep, e, fin⟩ := q
  show tF T W fa σ H _
  refine tF_goI sh rep e fin fun d v S1 H1 k i rep1 e1 fin1 => ?_
  show tF T W fb σ H1 _
  refine tF_goI k.sub rep1 e1 fin1 fun d2 v2 S2 H2 k2 i2 rep2 e2 fin2 => ?_
  show tF T W fc σ H2 _
  refine tF_goI k2.sub rep2 e2 fin2 fun d3 v3 S3 H3 k3 i3 rep3 e3 fin3 => ?_
  obtain ⟨ds, e4, e5⟩ := Option.bind_eq_some_iff.mp e3
  obtain ⟨es, e6, e7⟩ := Option.bind_eq_some_iff.mp e5
  obtain ⟨gs, e8, rfl⟩ := Option.map_eq_some_iff.mp e7
  obtain ⟨a, vs, q1, rfl, h1, h2⟩ := sqK_of ((i.mono k2.s).mono k3.s) e4
  obtain ⟨b, us, q2, rfl, h3, h4⟩ := sqK_of (i2.mono k3.s) e6
  obtain ⟨c, ws, q3, rfl, h5, h6⟩ := sqK_of i3 e8
  rw [← hK] at h1 h3 h5
  exact ⟨a, b, c, vs, us, ws, q1, q2, q3, rfl, sqK_same k3.sub.same h1, sqK_same k3.sub.same h3, sqK_same k3.sub.same h5, fin3 _ S3 H3 (Kp.refl k3.sub) (iw_z3 hK h1 h2 h3 h4 h5 h6)⟩
end
end EV
end

section
set_option maxHeartbeats 4000000
/-! EV16: own classes: isinstance, ==, in, properties. -/
namespace EV
open PySem L2

/-- what the checks say of an own class -/
structure OwnC (T : TabC) (ci : Nat) : Prop where
  cls : Cls T.K (T.cls ci)
  ha : PySem.W.findIn T.K (.ref (T.cls ci)) "__class__" = some (some (.builtin "object.__class__"))
  hn : PySem.W.specialIn T.K (.builtin "object.__class__") "__get__" = some (some (.builtin "getset_descriptor.__get__"))
  htk : PySem.W.takesIn T.K (.builtin "object.__class__") = some true
  hm : PySem.W.mroIn T.K (T.cls ci) (.type "object") = some true
theorem OwnC.ty {T : Tab} {ci : Nat} {H : Hp} {v : V} {ds : List D} (o : OwnC T ci) (h : Is T H v (.obj ci ds)) : TyX T.K H v (.ref (T.cls ci)) := by
  cases h with
  | obj h hl hs => exact .base (.ins h o.cls o.ha o.hn o.htk o.hm)
def okD (o : Option R) : Option D := match o with
  | some (.ok d) => some d
  | _ => none
theorem okD_some {o : Option R} {d : D} (h : okD o = some d) : o = some (.ok d) := by
  unfold okD at h
  split at h <;> cases h
  rfl
def blD (o : Option D) : Option D := match o with
  | some (.bl b) => some (.bl b)
  | _ => none
theorem blD_some {o : Option D} {d : D} (h : blD o = some d) : ∃ b, o = some (.bl b) ∧ d = .bl b := by
  unfold blD at h
  split at h <;> cases h
  exact ⟨_, rfl, rfl⟩
abbrev noX : XK := fun _ _ _ => False
section
variable {X : Cx} {T : Tab} {W : WX} {k n ci : Nat} {f C : Addr} {fd : FuncData} {ps : List Str} {sp : Sp} {x m : Str} {p q pos apos : Pos} {e a b o : Expr} {sem : List D → Option R} {fa fb fo : FE} {perm : List Nat}
/-- a callee that lets nothing out -/
theorem run_N {pins : List (Addr × Obj)} {σ : L2.St} {H : Hp} {s : Shared} {Q : VK} {us : List Value} {vs : List V} {E' : Value → Shared → Prop} (F : FnOk X.prog X.w X.K X.mg X.base (L2N.CX X.prog X.w) k f fd ps sp) (hr : Room k X.A) (hb : ArgB X.K fd ps n [] [] perm)
    (I : Inv X pins σ H s) (r : Vals vs us) (l1 : vs.length = n) (h : sp (pick perm vs) H Q noX) : wpAny (model X.prog X.w) X.A (call (.ref f) us) (EP X pins σ Q) E' s := by
  obtain ⟨ds, rd, to⟩ := hb.to
  cases rd
  have r2 := Vals.pick r perm
  have t := to s us [] I.kIn (r.length.symm.trans l1) rfl
  simp only [List.append_nil] at t
  refine wpAny_call (codeAny_mono (F.run X.A X.stack s H ⟨us, []⟩ _ _ Q noX hr I.env0 t r2 h) fun r s' hq => ?_)
  cases r with
  | error e => obtain ⟨_, _, _, _, _, _, _, _, _, _, _, _, z⟩ := hq; exact z.elim
  | ok fl =>
    cases fl with
    | ret u => exact I.after hq
    | next => exact False.elim hq
    | brk => exact False.elim hq
    | cont => exact False.elim hq
theorem noPass {X' : Cx} : Passes (L2N.CX X.prog X.w) X' noX := fun _ _ _ _ _ _ _ hq => by
  obtain ⟨_, _, _, _, _, _, _, _, _, _, _, _, z⟩ := hq
  exact z.elim
theorem spF_N {T : Tab} {S H : Hp} {np : Nat} {vs : List V} {ds : List D} {d : D} {Q : VK} {E : XK} (sh : EV.Sub S H) (h : Iss T S vs ds) (hn : vs.length = np) (e : sem ds = some (.ok d)) (fin : ∀ v S' H', Kp S H S' H' → Is T S' v d → Q v H') : spF T np sem vs H Q E :=
  ⟨S, ds, _, sh, h, hn, e, fin⟩

/-! ### isinstance(x, C) -/
def isOD (ci : Nat) (cs : List Nat) (d : D) : Option D := match d with
  | .obj c _ => if cs.contains c then some (.bl (c == ci)) else none
  | d => d.ty.map fun _ => .bl false
theorem isOD_ty {ci : Nat} {cs : List Nat} {d r : D} (h : isOD ci cs d = some r) : (∃ c xs, d = .obj c xs ∧ cs.contains c = true ∧ r = .bl (c == ci)) ∨ ∃ t, d.ty = some t ∧ r = .bl false := by
  cases d with
  | obj c xs =>
    have e4 : (if cs.contains c then some (D.bl (c == ci)) else none) = some r := h
    by_cases hc : cs.contains c = true
    · rw [if_pos hc] at e4
      cases e4
      exact .inl ⟨c, xs, rfl, hc, rfl⟩
    · rw [if_neg hc] at e4
      cases e4
  | non => exact .inr ⟨.non, rfl, (Option.some.inj (show some (D.bl false) = some r from h)).symm⟩
  | bl b => exact .inr ⟨.bl, rfl, (Option.some.inj (show some (D.bl false) = some r from h)).symm⟩
  | int b => exact .inr ⟨.int, rfl, (Option.some.inj (show some (D.bl false) = some r from h)).symm⟩
  | str b => exact .inr ⟨.str, rfl, (Option.some.inj (show some (D.bl false) = some r from h)).symm⟩
  | tup b => exact .inr ⟨.tup, rfl, (Option.some.inj (show some (D.bl false) = some r from h)).symm⟩
  | lst b => exact .inr ⟨.lst, rfl, (Option.some.inj (show some (D.bl false) = some r from h)).symm⟩
  | scr b => exact .inr ⟨.lst, rfl, (Option.some.inj (show some (D.bl false) = some r from h)).symm⟩
theorem ee_isO {ci : Nat} {cs : List Nat} {y : Str} (hm : X.mg "isinstance" = none) (hy : X.mg y = some (.ref (T.cls ci))) (ho : ∀ c ∈ cs, OwnC T c ∧ PySem.W.kitOne T.K (.ref (T.cls c)) (.ref (T.cls ci)) = some (c == ci)) (hp : ∀ t : Ty, PySem.W.kitOne T.K (.type t.nm) (.ref (T.cls ci)) = some false)
    (ha : EE X T W a fa) (hK : X.K = T.K := by rfl) (hg : Gl X "isinstance" := by rfl) (hgy : Gl X y := by rfl) (hdy : (y == ("__debug__" : Str)) = false := by decide)
    (he : starEach (a :: [.Name y q]) X.env = (false, eval a X.env) :: starEach [.Name y q] X.env := by rfl) (he2 : starEach [.Name y q] X.env = (false, eval (.Name y q) X.env) :: starEach [] X.env := by rfl) (hpl : (backTo pos (starEach [.Name y q] X.env)).any (·.1) = false := by rfl) :
    EE X T W (.Call (.Name "isinstance" p) [a, .Name y q] [] pos) (v1 (isOD ci cs) fa) := by
  refine PE.weak (pe_callB call_isi hg hm (by decide +kernel) (pa_cons ha (pa_cons (pe_glob (v := .ref (T.cls ci)) hgy hy rfl hdy) pa_nil he2) he) (by decide) (by decide) he hpl) fun σ H Q q => ?_
  obtain ⟨ρ, S, z, sh, rep, e, fin⟩ := q
  refine tF_go sh rep e fin fun d x S1 H1 k1 i1 rep1 e1 fin1 => ?_
  obtain ⟨r, e3, rfl⟩ := okO_inv e1
  rw [hK]
  rcases isOD_ty e3 with ⟨c, xs, rfl, hc, rfl⟩ | ⟨t, e4, rfl⟩
  · obtain ⟨o1, o2⟩ := ho c (List.contains_iff_mem.mp hc)
    exact ⟨x, .ref (T.cls ci), _, _, _, rfl, .own _, o1.ty (i1.mono k1.sub.same), o2, fin1 _ S1 H1 (Kp.refl k1.sub) (.bl _)⟩
  · exact ⟨x, .ref (T.cls ci), _, _, _, rfl, .own _, ty_of (i1.mono k1.sub.same) e4, hp t, fin1 _ S1 H1 (Kp.refl k1.sub) (.bl _)⟩

/-! ### a == b, a an instance -/
/-- other instances have classes that are not below C -/
structure EqI (T : TabC) (ci : Nat) (cs : List Nat) (f : Addr) : Prop where
  m : Meth T.K (T.cls ci) "__eq__" f
  o : ∀ c ∈ cs, OwnC T c ∧ PySem.W.notFirst T.K (T.cls ci) (.ref (T.cls c)) = true
  p : ∀ t : Ty, PySem.W.notFirst T.K (T.cls ci) (.type t.nm) = true
def tyOk (cs : List Nat) (d : D) : Bool := match d with
  | .obj c _ => cs.contains c
  | d => d.ty.isSome
theorem EqI.ty {cs : List Nat} (E : EqI T ci cs f) {H : Hp} {v : V} {d : D} (h : Is T H v d) (e : tyOk cs d = true) : ∃ tb, TyX T.K H v tb ∧ PySem.W.notFirst T.K (T.cls ci) tb = true := by
  cases d with
  | obj c xs =>
    obtain ⟨o1, o2⟩ := E.o c (List.contains_iff_mem.mp e)
    exact ⟨_, o1.ty h, o2⟩
  | scr ns => exact ⟨_, ty_of (t := .lst) h rfl, E.p .lst⟩
  | non => exact ⟨_, ty_of (t := .non) h rfl, E.p .non⟩
  | bl b => exact ⟨_, ty_of (t := .bl) h rfl, E.p .bl⟩
  | int b => exact ⟨_, ty_of (t := .int) h rfl, E.p .int⟩
  | str b => exact ⟨_, ty_of (t := .str) h rfl, E.p .str⟩
  | tup b => exact ⟨_, ty_of (t := .tup) h rfl, E.p .tup⟩
  | lst b => exact ⟨_, ty_of (t := .lst) h rfl, E.p .lst⟩
def eqOD (ci : Nat) (cs : List Nat) (sem : List D → Option R) (p q : D) : Option D := match p with
  | .obj c xs => if c == ci && tyOk cs q then blD (okD (sem [.obj c xs, q])) else none
  | _ => none
def rEqO (K : PySem.W.Frag) (C : Addr) (sp : Sp) : R2 := fun x y H Q => ∃ a dx fs tb, x = .ref a ∧ H a = some (.ins C dx fs) ∧ TyX K H y tb ∧ PySem.W.notFirst K C tb = true ∧ sp [x, y] H Q noX
theorem op_eqO (F : FnOk X.prog X.w X.K X.mg X.base (L2N.CX X.prog X.w) k f fd ps sp) (hr : Room k X.A) (hb : ArgB X.K fd ps 2 [] [] [0, 1]) (hm : Meth X.K C "__eq__" f) : OpR X (compareOp .Eq) (rEqO X.K C sp) := by
  intro pins s σ H x y v u Q I rx ry h
  obtain ⟨a, dx, fs, tb, rfl, ha, ty, hn, q⟩ := h
  cases (show v = Value.ref a from rx)
  obtain ⟨mA, J, _⟩ := ins_get I.hok ha
  obtain ⟨od, J, _⟩ := J.look
  obtain ⟨P, Z, p, _⟩ := kit_of I ry ty
  obtain ⟨m, hF⟩ := I.fr
  show wpAny (model X.prog X.w) X.A (richCompare .Eq (.ref a) u) (EP X pins σ Q) X.xe s
  refine PySem.W.cmp_K (op := .Eq) (tb := tb) hr.units0 hF I.ok.mod.kin J (Z.ty _ _ I.kIn p) hn hm.at_ hm.fn ?_
  refine wpAny_mono (run_N (us := [.ref a, u]) (vs := [.ref a, y]) F hr hb I (.cons rfl (.cons ry .nil)) rfl q) (fun w s' z => ?_) fun _ _ x => x
  obtain ⟨z', H', I', rz, qz⟩ := z
  exact SlX.cmpback rz ⟨z', H', I', rz, qz⟩
theorem o_eqO {cs : List Nat} (E : EqI T ci cs f) : Op2 T (rEqO T.K (T.cls ci) (spF T 2 sem)) (eqOD ci cs sem) := fun S H x y p q d Q sh i1 i2 e fin => by
  unfold eqOD at e
  split at e <;> try cases e
  rename_i c xs
  split at e <;> try cases e
  rename_i hc
  obtain ⟨h1, h2⟩ := Bool.and_eq_true_iff.mp hc
  have hci : c = ci := by simpa using h1
  subst hci
  obtain ⟨b, e2, rfl⟩ := blD_some e
  have e3 := okD_some e2
  obtain ⟨tb, ty, nf⟩ := E.ty (i2.mono sh.same) h2
  cases i1 with
  | @obj a dx _ vs0 _ h hl0 hs => exact ⟨a, dx, _, tb, rfl, sh.same _ _ h, ty, nf, spF_N sh (.cons (.obj h hl0 hs) (.cons i2 .nil)) rfl e3 fin⟩
theorem ee_eqO {cs : List Nat} (E : EqI T ci cs f) (F : FnOk X.prog X.w X.K X.mg X.base (L2N.CX X.prog X.w) k f fd ps (spF T 2 sem)) (hr : Room k X.A) (hb : ArgB X.K fd ps 2 [] [] [0, 1]) (ha : EE X T W a fa) (hb' : EE X T W b fb) (hK : X.K = T.K := by rfl) :
    EE X T W (.Compare a [.Eq] [b] pos) (v2 (eqOD ci cs sem) fa fb) := by
  have o := op_eqO (C := T.cls ci) F hr hb (by rw [hK]; exact E.m)
  rw [hK] at o
  exact ee_cmp o (o_eqO E) ha hb' (nomark _)

/-! ### a in b, b an instance -/
def inOD (ci : Nat) (sem : List D → Option R) (p q : D) : Option D := match q with
  | .obj c xs => if c == ci then blD (okD (sem [.obj c xs, p])) else none
  | _ => none
def rInO (C : Addr) (sp : Sp) : R2 := fun x y H Q => ∃ a dx fs, y = .ref a ∧ H a = some (.ins C dx fs) ∧ sp [y, x] H (fun v H' => ∃ b, v = .bl b ∧ Q v H') noX
theorem op_inO (F : FnOk X.prog X.w X.K X.mg X.base (L2N.CX X.prog X.w) k f fd ps sp) (hr : Room k X.A) (hb : ArgB X.K fd ps 2 [] [] [0, 1]) (hm : Meth X.K C "__contains__" f) : OpR X (compareOp .In) (rInO C sp) := by
  intro pins s σ H x y v u Q I rx ry h
  obtain ⟨a, dx, fs, rfl, ha, q⟩ := h
  cases (show u = Value.ref a from ry)
  obtain ⟨mA, J, _⟩ := ins_get I.hok ha
  obtain ⟨od, J, _⟩ := J.look
  obtain ⟨m, hF⟩ := I.fr
  refine PySem.W.in_K hF I.ok.mod.kin J hm.at_ hm.fn ?_
  refine wpAny_mono (run_N (us := [.ref a, v]) (vs := [.ref a, x]) F hr hb I (.cons rfl (.cons rx .nil)) rfl q) (fun w s' z => ?_) fun _ _ x => x
  obtain ⟨z', H', I', rz, b, rfl, qz⟩ := z
  cases (show w = Value.bool b from rz)
  exact wpAny_truthy_bool ⟨.bl b, H', I', rfl, qz⟩
theorem o_inO : Op2 T (rInO (T.cls ci) (spF T 2 sem)) (inOD ci sem) := fun S H x y p q d Q sh i1 i2 e fin => by
  unfold inOD at e
  split at e <;> try cases e
  rename_i c xs
  split at e <;> try cases e
  rename_i hc
  have hci : c = ci := by simpa using hc
  subst hci
  obtain ⟨b, e2, rfl⟩ := blD_some e
  have e3 := okD_some e2
  cases i2 with
  | @obj a dx _ vs0 _ h hl0 hs => exact ⟨a, dx, _, rfl, sh.same _ _ h, spF_N sh (.cons (.obj h hl0 hs) (.cons i1 .nil)) rfl e3 fun v S' H' kp i => by cases i; exact ⟨b, rfl, fin _ S' H' kp (.bl b)⟩⟩
theorem ee_inO (M : Meth T.K (T.cls ci) "__contains__" f) (F : FnOk X.prog X.w X.K X.mg X.base (L2N.CX X.prog X.w) k f fd ps (spF T 2 sem)) (hr : Room k X.A) (hb : ArgB X.K fd ps 2 [] [] [0, 1]) (hm : behindInMarks .In b = false) (ha : EE X T W a fa) (hb' : EE X T W b fb) (hK : X.K = T.K := by rfl) :
    EE X T W (.Compare a [.In] [b] pos) (v2 (inOD ci sem) fa fb) := ee_cmp (op_inO (C := T.cls ci) F hr hb (by rw [hK]; exact M)) o_inO ha hb' hm

/-! ### e.f, a property -/
def propD (ci : Nat) (sem : List D → Option R) (d : D) : Option D := match d with
  | .obj c xs => if c == ci then okD (sem [.obj c xs]) else none
  | _ => none
theorem ee_prop {pa g : Addr} {fl : Str} (c : Cls T.K (T.cls ci)) (hp : PropOf T.K (T.cls ci) fl pa g) (F : FnOk X.prog X.w X.K X.mg X.base (L2N.CX X.prog X.w) k g fd ps (spF T 1 sem)) (hr : Room (k + 1) X.A) (hb : ArgB X.K fd ps 1 [] [] [0]) (hlp : ps.length = 1) (ha : EE X T W a fa) (hK : X.K = T.K := by rfl) (hab : attributeBase a fl X.env (eval a X.env) = eval a X.env := by rfl) :
    EE X T W (.Attribute a fl pos) (v1 (propD ci sem) fa) := by
  have bd : Binds X.K fd ps [] := fun s us hi hl => by
    obtain ⟨ds, rd, to⟩ := hb.to
    cases rd
    rw [List.append_nil] at hl ⊢
    have l1 : us.length = 1 := hl.trans hlp
    have t := to s us [] hi l1 rfl
    have e1 : pick [0] us = us := by
      match us, l1 with
      | [u], _ => rfl
    simp only [List.append_nil, e1] at t
    exact t
  refine PE.weak (pe_prop (C := T.cls ci) (dvs := []) (E := noX) ha (by rw [hK]; exact c) (by rw [hK]; exact hp) F hr bd .nil noPass hab) fun σ H Q q => ?_
  obtain ⟨ρ, S, z, sh, rep, e, fin⟩ := q
  refine tF_go sh rep e fin fun d x S1 H1 k1 i1 rep1 e1 fin1 => ?_
  obtain ⟨r, e3, rfl⟩ := okO_inv e1
  unfold propD at e3
  split at e3 <;> try cases e3
  rename_i c xs
  split at e3 <;> try cases e3
  rename_i hc
  have hci : c = ci := by simpa using hc
  subst hci
  have e4 := okD_some e3
  cases i1 with
  | @obj a dx _ vs0 _ h hl0 hs => exact ⟨a, dx, _, rfl, k1.sub.same _ _ h, spF_N k1.sub (.cons (.obj h hl0 hs) .nil) rfl e4 fin1⟩
end
end EV
end

section
set_option maxHeartbeats 4000000
/-! EV17: what is looked at of own classes in the module as it stands. -/
namespace EV
open PySem L2

/-- the getter of a property -/
def getAd (K : PySem.W.Frag) (C : Addr) (f : Str) : Addr := match PySem.W.recIn K (He.ma K C f) "property" with
  | some (.ref g :: _) => g
  | _ => 0
def fnWA (K : PySem.W.Frag) (a : Addr) : He.FnW := match K.lookup a with
  | some ⟨_, _, .func fd, _⟩ => some (fd.name, fd.qualname, fd.params, fd.body, fd.scope, fd.globals, fd.closure, fd.builtins)
  | _ => none
def okA (K : PySem.W.Frag) (a : Addr) (d : He.DefD) : Bool := PySem.W.keepIn K (.ref a) && (match K.lookup a with
  | some ⟨_, _, .func fd, _⟩ => PySem.W.codeIn K fd.code d.qual && (He.dflB K fd.defaults (d.dvs K) && He.kwdB K fd.kwdefaults (d.kws K))
  | _ => false)
theorem funA {K : PySem.W.Frag} {a : Addr} {d : He.DefD} (e : fnWA K a = d.val) (c : okA K a d = true) : ∃ fd, FunD K d.name d.qual d.params d.body d.scope (d.dvs K) (d.kws K) a fd := by
  obtain ⟨kp, c2⟩ := He.ba c
  unfold fnWA at e
  cases q : K.lookup a with
  | none =>
    rw [q] at c2
    cases c2
  | some o =>
    obtain ⟨oc, od, dt, osl⟩ := o
    rw [q] at c2 e
    cases dt with
    | func fd =>
      obtain ⟨n1, n2, n3, n4, n5, n6, n7, n8, n9, n10, n11, n12, n13, n14, n15⟩ := fd
      have e2 : (some (n1, n2, n3, n4, n5, n6, n7, n15) : He.FnW) = some (d.name, d.qual, d.params, .stmts d.body, d.scope, mainGlobals, [], builtinsNs) := e
      simp only [Option.some.injEq, Prod.mk.injEq] at e2
      obtain ⟨h1, h2, h3, h4, h5, h6, h7, h8⟩ := e2
      subst h1 h2 h3 h4 h5 h6 h7 h8
      have c3 : (PySem.W.codeIn K n13 d.qual && (He.dflB K n8 (d.dvs K) && He.kwdB K n9 (d.kws K))) = true := c2
      obtain ⟨k1, k2⟩ := He.ba c3
      obtain ⟨k3, k4⟩ := He.ba k2
      exact ⟨_, ⟨oc, od, n8, n9, n10, n11, n12, n13, n14, osl, rfl, q, k1, He.dflB_ok k3, He.kwdB_ok k4⟩, kp⟩
    | _ => cases c2
def propB (K : PySem.W.Frag) (C : Addr) (f : Str) : Bool := He.eqO (PySem.W.findIn K (.ref C) f) (some (some (.ref (He.ma K C f)))) && (He.eqO (PySem.W.specialIn K (.ref (He.ma K C f)) "__get__") (some (some (.builtin "property.__get__"))) &&
  (decide (PySem.W.takesIn K (.ref (He.ma K C f)) = some true) && (match PySem.W.recIn K (He.ma K C f) "property" with
  | some (.ref _ :: _) => true
  | _ => false)))
theorem propB_ok {K : PySem.W.Frag} {C : Addr} {f : Str} (c : propB K C f = true) : PropOf K C f (He.ma K C f) (getAd K C f) := by
  obtain ⟨c1, c⟩ := He.ba c
  obtain ⟨c2, c⟩ := He.ba c
  obtain ⟨c3, c4⟩ := He.ba c
  refine ⟨He.eqO_ok c1, He.eqO_ok c2, of_decide_eq_true c3, ?_⟩
  unfold getAd
  split at c4
  · rename_i g rest q
    rw [q]
    exact ⟨rest, rfl⟩
  · cases c4
def ownB (K : PySem.W.Frag) (C : Addr) : Bool := He.eqO (PySem.W.findIn K (.ref C) "__class__") (some (some (.builtin "object.__class__"))) && (He.eqO (PySem.W.specialIn K (.builtin "object.__class__") "__get__") (some (some (.builtin "getset_descriptor.__get__"))) &&
  (decide (PySem.W.takesIn K (.builtin "object.__class__") = some true) && decide (PySem.W.mroIn K C (.type "object") = some true)))
theorem ownB_ok {T : Tab} {ci : Nat} (cl : Cls T.K (T.cls ci)) (c : ownB T.K (T.cls ci) = true) : OwnC T ci := by
  obtain ⟨c1, c⟩ := He.ba c
  obtain ⟨c2, c⟩ := He.ba c
  obtain ⟨c3, c4⟩ := He.ba c
  exact ⟨cl, He.eqO_ok c1, He.eqO_ok c2, of_decide_eq_true c3, of_decide_eq_true c4⟩
def tys : List Ty := [.non, .bl, .int, .str, .lst, .tup]
theorem mem_tys (t : Ty) : t ∈ tys := by cases t <;> simp [tys]
/-- isinstance(x, C) for the own classes Ds and the plain types -/
def isiB (K : PySem.W.Frag) (C : Addr) (ci : Nat) (Ds : List (Nat × Addr)) : Bool := Ds.all (fun q => decide (PySem.W.kitOne K (.ref q.2) (.ref C) = some (q.1 == ci))) && tys.all fun t => decide (PySem.W.kitOne K (.type t.nm) (.ref C) = some false)
theorem isiB_ok {K : PySem.W.Frag} {C : Addr} {ci : Nat} {Ds : List (Nat × Addr)} (c : isiB K C ci Ds = true) : (∀ q ∈ Ds, PySem.W.kitOne K (.ref q.2) (.ref C) = some (q.1 == ci)) ∧ ∀ t : Ty, PySem.W.kitOne K (.type t.nm) (.ref C) = some false := by
  obtain ⟨c1, c2⟩ := He.ba c
  exact ⟨fun q hq => of_decide_eq_true (List.all_eq_true.mp c1 q hq), fun t => of_decide_eq_true (List.all_eq_true.mp c2 t (mem_tys t))⟩
/-- none of the own classes Ds and of the plain types goes first -/
def firB (K : PySem.W.Frag) (C : Addr) (Ds : List Addr) : Bool := Ds.all (fun q => PySem.W.notFirst K C (.ref q)) && tys.all fun t => PySem.W.notFirst K C (.type t.nm)
theorem firB_ok {K : PySem.W.Frag} {C : Addr} {Ds : List Addr} (c : firB K C Ds = true) : (∀ q ∈ Ds, PySem.W.notFirst K C (.ref q) = true) ∧ ∀ t : Ty, PySem.W.notFirst K C (.type t.nm) = true := by
  obtain ⟨c1, c2⟩ := He.ba c
  exact ⟨fun q hq => List.all_eq_true.mp c1 q hq, fun t => List.all_eq_true.mp c2 t (mem_tys t)⟩
/-- below none of the plain types -/
def subB (K : PySem.W.Frag) (C : Addr) : Bool := tys.all fun t => decide (PySem.W.subIn K (.ref C) (.type t.nm) = some false)
theorem subB_ok {K : PySem.W.Frag} {C : Addr} (c : subB K C = true) : ∀ t : Ty, PySem.W.subIn K (.ref C) (.type t.nm) = some false := fun t => of_decide_eq_true (List.all_eq_true.mp c t (mem_tys t))
theorem isi_ok {T : Tab} {ci : Nat} {cs : List Nat} (ho : ∀ c ∈ cs, OwnC T c) (b : isiB T.K (T.cls ci) ci (cs.map fun c => (c, T.cls c)) = true) :
    (∀ c ∈ cs, OwnC T c ∧ PySem.W.kitOne T.K (.ref (T.cls c)) (.ref (T.cls ci)) = some (c == ci)) ∧ ∀ t : Ty, PySem.W.kitOne T.K (.type t.nm) (.ref (T.cls ci)) = some false :=
  ⟨fun c hc => ⟨ho c hc, (isiB_ok b).1 (c, T.cls c) (List.mem_map.mpr ⟨c, hc, rfl⟩)⟩, (isiB_ok b).2⟩
theorem eqi_ok {T : Tab} {ci : Nat} {cs : List Nat} {f : Addr} (m : Meth T.K (T.cls ci) "__eq__" f) (ho : ∀ c ∈ cs, OwnC T c) (b : firB T.K (T.cls ci) (cs.map T.cls) = true) : EqI T ci cs f :=
  ⟨m, fun c hc => ⟨ho c hc, (firB_ok b).1 _ (List.mem_map.mpr ⟨c, hc, rfl⟩)⟩, (firB_ok b).2⟩
end EV
end

section
set_option maxHeartbeats 4000000
/-! EV18: a plain value == an instance; tuple * int. -/
namespace EV
open PySem L2
open AutoSeq1 (wpAny_loadPart')

theorem instObj_eq (C dx : Addr) : ∃ dd dt sl, PySem.W.instObj C dx = { cls := .ref C, dict := dd, data := dt, slots := sl } := ⟨_, _, _, rfl⟩
section
variable {prog : Program} {w : World} {A : Around} {E : Value → Shared → Prop} {s : Shared} {x C dx : Addr}
theorem int_eq_ins (i : Int) (t : Tok) (x C dx : Addr) :
    Meets (Builtin.«int.__eq__» ⟨[.int i t, .ref x], []⟩) (fun _ R s => s.heap.get? x = some (PySem.W.instObj C dx) ∧ R (.ok (.ret .notImplemented)) s) :=
  .of_wp fun prog w A R s h => by obtain ⟨hp, g, d, tk, os⟩ := s; obtain ⟨hl, h⟩ := h; wp_walk using wpAny_loadPart' hl; exact ⟨_, rfl, h⟩
theorem str_eq_ins (i : Str) (t : Tok) (x C dx : Addr) :
    Meets (Builtin.«str.__eq__» ⟨[.str i t, .ref x], []⟩) (fun _ R s => s.heap.get? x = some (PySem.W.instObj C dx) ∧ R (.ok (.ret .notImplemented)) s) :=
  .of_wp fun prog w A R s h => by obtain ⟨hp, g, d, tk, os⟩ := s; obtain ⟨hl, h⟩ := h; wp_walk using wpAny_loadPart' hl; exact ⟨_, rfl, h⟩
/-- the class at C is not below T, as the heap stands -/
def NotBelow (s : Shared) (C : Addr) (T : String) : Prop := ∀ (M : Model) (A : Around) (E : Value → Shared → Prop) (Q : Bool → Shared → Prop), Q false s → wpAny M A (isSubtype (.ref C) (.type T)) Q E s
theorem list_eq_ins (l : Addr) (x C dx : Addr) :
    Meets (Builtin.«list.__eq__» ⟨[.ref l, .ref x], []⟩) (fun _ R s => s.heap.get? x = some (PySem.W.instObj C dx) ∧ NotBelow s C "list" ∧ R (.ok (.ret .notImplemented)) s) :=
  .of_wp fun prog w A R s h => by
    obtain ⟨hp, g, d, tk, os⟩ := s
    obtain ⟨hl, hn, h⟩ := h
    have q1 : ∀ {A' : Around} {E : Value → Shared → Prop} {Q : Bool → Shared → Prop}, Q false ⟨hp, g, d, tk, os⟩ → wpAny (model prog w) A' (isSubtype (.ref C) (.type "list")) Q E ⟨hp, g, d, tk, os⟩ := fun q => hn _ _ _ _ q
    wp_walk using wpAny_loadPart' hl, q1
    exact ⟨_, rfl, h⟩
theorem tuple_eq_ins (l : Addr) (x C dx : Addr) :
    Meets (Builtin.«tuple.__eq__» ⟨[.ref l, .ref x], []⟩) (fun _ R s => s.heap.get? x = some (PySem.W.instObj C dx) ∧ NotBelow s C "tuple" ∧ R (.ok (.ret .notImplemented)) s) :=
  .of_wp fun prog w A R s h => by
    obtain ⟨hp, g, d, tk, os⟩ := s
    obtain ⟨hl, hn, h⟩ := h
    have q1 : ∀ {A' : Around} {E : Value → Shared → Prop} {Q : Bool → Shared → Prop}, Q false ⟨hp, g, d, tk, os⟩ → wpAny (model prog w) A' (isSubtype (.ref C) (.type "tuple")) Q E ⟨hp, g, d, tk, os⟩ := fun q => hn _ _ _ _ q
    wp_walk using wpAny_loadPart' hl, q1
    exact ⟨_, rfl, h⟩
end
section
variable {prog : Program} {w : World} {A : Around} {E : Value → Shared → Prop} {s : Shared} {K : PySem.W.Frag} {x C L f : Addr} {h₀ : Heap} {m : Str → Option Value} {ox : Obj} {od : Option Obj}
/-- a == x: the builtin declines, the own == answers -/
theorem rc_back {a : Value} {Ta id : String} {Q : Value → Shared → Prop} (hu : A.units < cLine) (F : PyProof.Rows.Fr h₀ L s.heap m) (X₀ : K.In h₀) (I : PySem.W.InstAt s.heap x ox C od) (ha : s.TypeIs a Ta) (hn : PySem.W.subIn K (.ref C) (.type Ta) = some false) (h1 : Slot Ta (cmpInfo .Eq).2.1 id)
    (hd : ∀ Q' : Value → Shared → Prop, Q' .notImplemented s → wpAny (model prog w) A (call (.builtin id) [a, .ref x]) Q' E s)
    (hs : PySem.W.findIn K (.ref C) "__eq__" = some (some (.ref f))) (hf : PySem.W.isFn K (.ref f) = true)
    (h : wpAny (model prog w) A (call (.ref f) [.ref x, a]) (PySem.W.CmpBack Q) E s) : wpAny (model prog w) A (richCompare .Eq a (.ref x)) Q E s := by
  have X := X₀.keeps F.keep
  rcases hi : cmpInfo CmpOp.Eq with ⟨sym, f1, r⟩
  have er : r = "__eq__" := by cases hi; rfl
  rw [hi] at h1
  simp only [richCompare, hi, ha.oneThing_none]
  refine wpAny_holding (wpAny_bind (wpAny_cRoomFor hu ?_))
  refine wpAny_bind (wpAny_typeOf ha (wpAny_bind (I.type.here ?_)))
  have hne : (Value.type Ta != Value.ref C) = true := rfl
  simp only [hne, if_true]
  refine wpAny_bind ((PySem.W.looks_subIn X hn).here ?_)
  simp only [Bool.false_eq_true, if_false, Bool.not_false, if_true]
  refine wpAny_bind (m := tryCompare a _ _) (wpAny_tryCompare_declines ha h1 (hd _ ⟨rfl, ?_⟩))
  have one : wpAny (model prog w) A (tryCompare (.ref x) r a) (fun r s' => ∃ v, r = some v ∧ Q v s') E s := by
    subst er
    unfold tryCompare
    refine wpAny_bind (PySem.W.ifBound_K X I hs hf (wpAny_mono h (fun v s' hv => ?_) fun _ _ e => e))
    cases v <;> first | exact hv.elim | exact wpAny_pure ⟨_, rfl, hv⟩
  refine wpAny_bind (wpAny_mono one (fun r s' z => ?_) fun _ _ e => e)
  obtain ⟨v, rfl, hq⟩ := z
  exact wpAny_pure hq
end
section
variable {X : Cx} {T : Tab} {W : WX} {k n ci : Nat} {f C : Addr} {fd : FuncData} {ps : List Str} {sp : Sp} {p q pos : Pos} {e a b : Expr} {sem : List D → Option R} {fa fb : FE}
/-- None, an int, a text, a list, a tuple -/
def Pln (K : PySem.W.Frag) (H : Hp) (x : V) (t : Ty) : Prop := (x = .non ∧ t = .non) ∨ (∃ i, x = .int i ∧ t = .int) ∨ (∃ z, x = .str z ∧ t = .str) ∨ (∃ l xs, x = .ref l ∧ SqK K false H l xs ∧ t = .lst) ∨ ∃ l xs, x = .ref l ∧ SqK K true H l xs ∧ t = .tup
def plT : D → Option Ty
  | .non => some .non
  | .int _ => some .int
  | .str _ => some .str
  | .lst _ => some .lst
  | .tup _ => some .tup
  | .scr _ => some .lst
  | _ => none
theorem pln_of {H : Hp} {v : V} {d : D} {t : Ty} (h : Is T H v d) (e : plT d = some t) : Pln T.K H v t := by
  cases d with
  | non => cases h; cases e; exact .inl ⟨rfl, rfl⟩
  | int i => cases h; cases e; exact .inr (.inl ⟨_, rfl, rfl⟩)
  | str i => cases h; cases e; exact .inr (.inr (.inl ⟨_, rfl, rfl⟩))
  | lst ds => cases e; cases h with
    | lst h hs => exact .inr (.inr (.inr (.inl ⟨_, _, rfl, SqL.of h, rfl⟩)))
  | tup ds => cases e; cases h with
    | tup h hs => exact .inr (.inr (.inr (.inr ⟨_, _, rfl, h, rfl⟩)))
  | scr ds => cases e; cases h with
    | scr h hs => exact .inr (.inr (.inr (.inl ⟨_, _, rfl, h, rfl⟩)))
  | bl b => cases e
  | obj c b => cases e
def rBack (K : PySem.W.Frag) (C : Addr) (sp : Sp) : R2 := fun x y H Q => ∃ a dx fs t, y = .ref a ∧ H a = some (.ins C dx fs) ∧ Pln K H x t ∧ sp [y, x] H Q noX
theorem op_back (Fo : FnOk X.prog X.w X.K X.mg X.base (L2N.CX X.prog X.w) k f fd ps sp) (hr : Room k X.A) (hb : ArgB X.K fd ps 2 [] [] [0, 1]) (hm : Meth X.K C "__eq__" f) (hn : ∀ t : Ty, PySem.W.subIn X.K (.ref C) (.type t.nm) = some false) : OpR X (compareOp .Eq) (rBack X.K C sp) := by
  intro pins s σ H x y v u Q I rx ry h
  obtain ⟨a, dx, fs, t, rfl, ha, pl, q⟩ := h
  cases (show u = Value.ref a from ry)
  obtain ⟨mA, J0, _⟩ := ins_get I.hok ha
  obtain ⟨od, J, _⟩ := J0.look
  obtain ⟨m, hF⟩ := I.fr
  have hobj : s.heap.get? a = some (PySem.W.instObj C dx) := J0.obj
  have nb : ∀ T, PySem.W.subIn X.K (.ref C) (.type T) = some false → NotBelow s C T := fun T e M A E Q q => (PySem.W.looks_subIn I.kIn e).here q
  have fin : wpAny (model X.prog X.w) X.A (call (.ref f) [.ref a, v]) (PySem.W.CmpBack (EP X pins σ Q)) X.xe s := by
    refine wpAny_mono (run_N (us := [.ref a, v]) (vs := [.ref a, x]) Fo hr hb I (.cons rfl (.cons rx .nil)) rfl q) (fun w s' z => ?_) fun _ _ x => x
    obtain ⟨z', H', I', rz, qz⟩ := z
    exact SlX.cmpback rz ⟨z', H', I', rz, qz⟩
  show wpAny (model X.prog X.w) X.A (richCompare .Eq v (.ref a)) (EP X pins σ Q) X.xe s
  rcases pl with ⟨rfl, rfl⟩ | ⟨i, rfl, rfl⟩ | ⟨z, rfl, rfl⟩ | ⟨l, xs, rfl, hq, rfl⟩ | ⟨l, xs, rfl, hq, rfl⟩
  · cases (show v = Value.none from rx)
    exact rc_back hr.units0 hF I.ok.mod.kin J (Ta := "NoneType") rfl (hn .non) PySem.F.slot_NoneType_eq
      (fun _ hq => call_gives PySem.F.slot_NoneType_eq rfl PySem.F.entry_NoneType_eq (PySem.F.args_NoneType_eq_2 _ _) (PySem.SeqAt.NoneType___eq___none_ref_0 _) hq) hm.at_ hm.fn fin
  · obtain ⟨tk, rfl⟩ := (show ∃ t, v = Value.int i t from rx)
    exact rc_back hr.units0 hF I.ok.mod.kin J (typeIs_int s i tk) (hn .int) PySem.F.slot_int_eq
      (fun _ hq => call_meets PySem.F.slot_int_eq (typeIs_int s i tk) PySem.F.entry_int_eq (PySem.F.args_int_eq_2 _ _) (int_eq_ins i tk a C dx) ⟨hobj, hq⟩) hm.at_ hm.fn fin
  · obtain ⟨tk, rfl⟩ := (show ∃ t, v = Value.str z t from rx)
    exact rc_back hr.units0 hF I.ok.mod.kin J (typeIs_str s z tk) (hn .str) PySem.F.slot_str_eq
      (fun _ hq => call_meets PySem.F.slot_str_eq (typeIs_str s z tk) PySem.F.entry_str_eq (PySem.F.args_str_eq_2 _ _) (str_eq_ins z tk a C dx) ⟨hobj, hq⟩) hm.at_ hm.fn fin
  · cases (show v = Value.ref l from rx)
    obtain ⟨its, rv, p⟩ := sqK_get I hq
    obtain ⟨o, ho, hc, _⟩ := id p
    exact rc_back hr.units0 hF I.ok.mod.kin J (Ta := "list") ⟨o, ho, hc⟩ (hn .lst) PySem.F.slot_list_eq
      (fun _ hq => call_meets PySem.F.slot_list_eq ⟨o, ho, hc⟩ PySem.F.entry_list_eq (PySem.F.args_list_eq_2 _ _) (list_eq_ins l a C dx) ⟨hobj, nb _ (hn .lst), hq⟩) hm.at_ hm.fn fin
  · cases (show v = Value.ref l from rx)
    obtain ⟨its, rv, p⟩ := sqK_get I hq
    obtain ⟨o, ho, hc, _⟩ := id p
    exact rc_back hr.units0 hF I.ok.mod.kin J (Ta := "tuple") ⟨o, ho, hc⟩ (hn .tup) PySem.F.slot_tuple_eq
      (fun _ hq => call_meets PySem.F.slot_tuple_eq ⟨o, ho, hc⟩ PySem.F.entry_tuple_eq (PySem.F.args_tuple_eq_2 _ _) (tuple_eq_ins l a C dx) ⟨hobj, nb _ (hn .tup), hq⟩) hm.at_ hm.fn fin
def eqRD (ci : Nat) (sem : List D → Option R) (p q : D) : Option D := match q with
  | .obj c xs => if c == ci && (plT p).isSome then blD (okD (sem [.obj c xs, p])) else none
  | _ => none
theorem o_back : Op2 T (rBack T.K (T.cls ci) (spF T 2 sem)) (eqRD ci sem) := fun S H x y p q d Q sh i1 i2 e fin => by
  unfold eqRD at e
  split at e <;> try cases e
  rename_i c xs
  split at e <;> try cases e
  rename_i hc
  obtain ⟨h1, h2⟩ := Bool.and_eq_true_iff.mp hc
  have hci : c = ci := by simpa using h1
  subst hci
  obtain ⟨t, ht⟩ := Option.isSome_iff_exists.mp h2
  obtain ⟨b, e2, rfl⟩ := blD_some e
  have e3 := okD_some e2
  cases i2 with
  | @obj a dx _ vs0 _ h hl0 hs => exact ⟨a, dx, _, t, rfl, sh.same _ _ h, pln_of (i1.mono sh.same) ht, spF_N sh (.cons (.obj h hl0 hs) (.cons i1 .nil)) rfl e3 fin⟩
/-- a plain value == an instance -/
theorem ee_eqR (M : Meth T.K (T.cls ci) "__eq__" f) (hn : ∀ t : Ty, PySem.W.subIn T.K (.ref (T.cls ci)) (.type t.nm) = some false) (F : FnOk X.prog X.w X.K X.mg X.base (L2N.CX X.prog X.w) k f fd ps (spF T 2 sem)) (hr : Room k X.A) (hb : ArgB X.K fd ps 2 [] [] [0, 1]) (ha : EE X T W a fa) (hb' : EE X T W b fb) (hK : X.K = T.K := by rfl) :
    EE X T W (.Compare a [.Eq] [b] pos) (v2 (eqRD ci sem) fa fb) := by
  have o := op_back (C := T.cls ci) F hr hb (by rw [hK]; exact M) (by rw [hK]; exact hn)
  rw [hK] at o
  exact ee_cmp o o_back ha hb' (nomark _)
/-- a tuple, some times -/
def mulT : D → D → Option D
  | .tup xs, .int k => if xs ≠ [] ∧ 2 ≤ k ∧ k ≤ 1000 ∧ xs.length ≤ 1000 then some (.tup (List.replicate k.toNat xs).flatten) else none
  | _, _ => none
theorem ee_mulT (ha : EE X T W a fa) (hb : EE X T W b fb) (hK : X.K = T.K := by rfl) : EE X T W (.BinOp a .Mult b pos) (v2 mulT fa fb) := by
  refine ee_op op_repT (fun S H x y p q d Q sh i1 i2 e fin => ?_) ha hb
  unfold mulT at e
  split at e <;> try cases e
  rename_i xs k
  split at e <;> cases e
  rename_i hx
  obtain ⟨h1, h2, h3, h4⟩ := hx
  cases i2
  cases i1 with
  | @tup l vs _ h hs =>
    refine ⟨l, k, vs, rfl, rfl, by rw [hK]; exact Same.seqT sh.same h, fun z => h1 (by subst z; cases hs; rfl), h2, h3, by rw [hs.length]; exact h4, fun p hp => ?_⟩
    exact fin _ _ _ (Kp.new sh hp) (.tup (SqT.of upd_same) ((hs.rep k.toNat).mono (Kp.new (o := .tup (List.replicate k.toNat vs).flatten) sh hp).s))
end
section
variable {X : Cx} {T : Tab} {W : WX} {k n ci : Nat} {f C : Addr} {fd : FuncData} {ps : List Str} {pos : Pos} {a b : Expr} {sem : List D → Option R} {fa fb : FE}
theorem eb_eqO {cs : List Nat} (E : EqI T ci cs f) (F : FnOk X.prog X.w X.K X.mg X.base (L2N.CX X.prog X.w) k f fd ps (spF T 2 sem)) (hr : Room k X.A) (hb : ArgB X.K fd ps 2 [] [] [0, 1]) (ha : EE X T W a fa) (hb' : EE X T W b fb) (hK : X.K = T.K := by rfl) :
    EB X T W (.Compare a [.Eq] [b] pos) (v2 (eqOD ci cs sem) fa fb) := by
  have o := op_eqO (C := T.cls ci) F hr hb (by rw [hK]; exact E.m)
  rw [hK] at o
  exact eb_cmp o (o_eqO E) ha hb' (nomark _)
theorem eb_inO (M : Meth T.K (T.cls ci) "__contains__" f) (F : FnOk X.prog X.w X.K X.mg X.base (L2N.CX X.prog X.w) k f fd ps (spF T 2 sem)) (hr : Room k X.A) (hb : ArgB X.K fd ps 2 [] [] [0, 1]) (hm : behindInMarks .In b = false) (ha : EE X T W a fa) (hb' : EE X T W b fb) (hK : X.K = T.K := by rfl) :
    EB X T W (.Compare a [.In] [b] pos) (v2 (inOD ci sem) fa fb) := eb_cmp (op_inO (C := T.cls ci) F hr hb (by rw [hK]; exact M)) o_inO ha hb' hm
theorem eb_eqR (M : Meth T.K (T.cls ci) "__eq__" f) (hn : ∀ t : Ty, PySem.W.subIn T.K (.ref (T.cls ci)) (.type t.nm) = some false) (F : FnOk X.prog X.w X.K X.mg X.base (L2N.CX X.prog X.w) k f fd ps (spF T 2 sem)) (hr : Room k X.A) (hb : ArgB X.K fd ps 2 [] [] [0, 1]) (ha : EE X T W a fa) (hb' : EE X T W b fb) (hK : X.K = T.K := by rfl) :
    EB X T W (.Compare a [.Eq] [b] pos) (v2 (eqRD ci sem) fa fb) := by
  have o := op_back (C := T.cls ci) F hr hb (by rw [hK]; exact M) (by rw [hK]; exact hn)
  rw [hK] at o
  exact eb_cmp o o_back ha hb' (nomark _)
end
end EV
end

section
set_option maxHeartbeats 4000000
/-! EV19: own errors are made and raised. -/
namespace EV
open PySem L2 PyProof.Rows

theorem takesN {X : Cx} : L2N.Takes X W0 := fun u s' x => by
  obtain ⟨_, _, _, _, _, _, _, _, _, _, _, _, _, _, _, _, w⟩ := x
  exact False.elim w

/-! ### C(e) whose __init__ keeps one field -/
section
variable {X : Cx} {T : Tab} {W : WX} {st : Stmt} {g g1 g2 : FS} {e a b c : Expr} {es : List Expr} {f fa fb fc : FE} {pos pos' : Pos}
variable {S H : Hp} {σ : L2.St} {ρ : Env} {L : Nat → Option Addr} {Dn : Ends} {o : Out} {i ci k : Nat} {x : Str} {p : Pos}

/-- the promise of such an __init__ -/
def spX (C : Addr) (fl : Str) : Sp := fun vs H Q _ => ∃ a u, vs = [V.ref a, u] ∧ H a = some (exo a C none) ∧ ∀ dx, H dx = none → dx ≠ a → Q .non (L2.upd (L2.upd H dx (exd dx [(fl, u)])) a (exo a C (some dx)))
theorem fn_xinit {P : Program} {w : World} {K : PySem.W.Frag} {mg : Str → Option Value} {base : Heap} {y qual fl p0 p1 : Str} {params : Arguments} {scope : Scope} {C f : Addr} {fd : FuncData} {q1 q2 q3 q4 : Pos}
    (F : FunD K y qual params [.Assign [.Attribute (.Name p0 q1) fl q2] (.Name p1 q3) q4] scope [] [] f fd) (Sc : FnScope [p0, p1] [p0, p1] scope) (OC : OexC K C) (no : PySem.W.findIn K (.ref C) fl = some none)
    (h0 : Vis scope p0 := by first | exact Or.inl rfl | exact Or.inr (Or.inl rfl) | exact Or.inr (Or.inr rfl)) (h1 : Vis scope p1 := by first | exact Or.inl rfl | exact Or.inr (Or.inl rfl) | exact Or.inr (Or.inr rfl))
    (d0 : (p0 == ("__debug__" : Str)) = false := by decide) (d1 : (p1 == ("__debug__" : Str)) = false := by decide) (c0 : (p0 == ("__classdict__" : Str)) = false := by decide) (c1 : (p1 == ("__classdict__" : Str)) = false := by decide)  :
    FnOk P w K mg base (L2N.CX P w) 1 f fd [p0, p1] (spX C fl) := by
  refine F.ok Sc (fun vs H Q E h => ?_) fun cdv A outer s H vs Q E hr h => ⟨_, pss_one (ps_ost (pe_var (i := 0) rfl h0 d0 c0) (pe_var (i := 1) rfl h1 d1 c1)), ?_⟩
  · obtain ⟨a, u, rfl, _⟩ := h
    rfl
  · obtain ⟨a, u, rfl, ha, q⟩ := h
    refine ⟨u, rfl, .ref a, rfl, a, C, rfl, OC, no, .inl ⟨ha, q⟩⟩

/-- C(e, ..) where no exception is handled -/
theorem pmkN_oex {CX : CXT} {x : Str} {C fI : Addr} {k : Nat} {fd : FuncData} {ps : List Str} {sp : Sp} {es : List Expr} {ta : TA} (OC : OexC X.K C) (iC : PySem.W.findIn X.K (.ref C) "__init__" = some (some (.ref fI)))
    (tI : PySem.W.typeIn X.K (.ref fI) = some (.type "function")) (F1 : FnOk X.prog X.w X.K X.mg X.base CX k fI fd ps sp) (hr : Room (k + 1) X.A) (hb : Binds X.K fd ps []) (hx : Passes CX X (fun _ _ _ => False)) (hg : Gl X x) (hm : X.mg x = some (.ref C)) (ha : PA X (e :: es) ta)
    (hdb : (x == ("__debug__" : Str)) = false := by decide) (he : starEach (e :: es) X.env = (false, eval e X.env) :: starEach es X.env := by rfl) (hpl : (backTo pos (starEach es X.env)).any (·.1) = false := by rfl) :
    L2N.PMk X (.Call (.Name x p) (e :: es) [] pos) (tMkO C sp [] ta) := by
  intro pins s σ H Q I h
  obtain ⟨nm, q, N, bs, bm, sn, sub, ab, col, dd, k0, k1, k2, k3, k5, hC, hbm⟩ := OC.cls
  refine wpAny_Call_Name_kw (ld_glob I hg hm ?_ hdb)
  refine PySem.W.callWith_K (h₀ := X.base) I.ok.mod.kin OC.kC (thn (ha.run pos pins s σ H _ I h) fun us s1 ⟨vs, H1, I1, r1, hz, q1⟩ => ⟨I1.kIn, ?_⟩) he hpl
  show wpAny _ _ (call (.ref C) us) _ _ _
  obtain ⟨hp, g, dr, tk, os⟩ := s1
  have hsz : hp.objs.size ≤ hp.objs.size + 1 := Nat.le_succ _
  have hq := q1 (hp.objs.size + 1) (I1.hok.fresh hsz)
  have kk : ∀ b o, hp.get? b = some o → ((hp.push (PySem.W.kdv_tup us)).push (PySem.HandSPX.excO C hp.objs.size)).get? b = some o := fun b o e => Heap.get?_push_of_some _ (Heap.get?_push_of_some _ e)
  have hget : ((hp.push (PySem.W.kdv_tup us)).push (PySem.HandSPX.excO C hp.objs.size)).get? (hp.objs.size + 1) = some (PySem.HandSPX.excO C hp.objs.size) := by heap_get
  have I2 : Inv X pins σ (L2.upd H1 (hp.objs.size + 1) (exo (hp.objs.size + 1) C none)) ⟨(hp.push (PySem.W.kdv_tup us)).push (PySem.HandSPX.excO C hp.objs.size), g, dr, tk, os⟩ :=
    I1.laid (t' := tk) (a := hp.objs.size + 1) (o := exo (hp.objs.size + 1) C none) (h' := (hp.push (PySem.W.kdv_tup us)).push (PySem.HandSPX.excO C hp.objs.size)) kk hsz (exo_ok hget)
  have r2 : Vals (V.ref (hp.objs.size + 1) :: (vs ++ [])) (Value.ref (hp.objs.size + 1) :: (us ++ [])) := .cons rfl (r1.append .nil)
  have hl : (Value.ref (hp.objs.size + 1) :: us ++ []).length = ps.length := by
    have e := r2.length
    rw [F1.len _ _ _ _ hq] at e
    exact e.symm
  have hus : us.length ≤ sizeLine := by
    rw [← Paired.length r1, sizeLine_eq]
    omega
  refine wpAny_call (PySem.HandSPX.call_own F.excBase_ValueError (fun Y => PySem.HandSPX.refsVE_contains Y bm hbm) (I1.kIn _ _ hC) (PySem.W.looks_findIn I1.kIn iC) (fun self => PySem.W.bind_fn I1.kIn self tI) hus
    (codeAny_mono (F1.run _ X.stack _ _ ⟨Value.ref (hp.objs.size + 1) :: us, []⟩ (Value.ref (hp.objs.size + 1) :: (us ++ [])) _ _ (fun _ _ _ => False) (hr.make C us []) (I2.env0.make C us []) (by
      have z := hb _ (Value.ref (hp.objs.size + 1) :: us) I2.kIn hl
      rw [List.cons_append] at z
      exact z) r2 hq) fun r s' hq' => ?_))
  cases r with
  | error er => exact hx pins σ _ _ er s' I2 hq'
  | ok fl =>
    cases fl with
    | ret u =>
      obtain ⟨v, H2, os2, bare2, un2, hok2, rv, ev, d, fs, ea, ed, hd1, q2⟩ := hq'
      subst ev
      obtain ⟨h2, g2, d2, t2, os'⟩ := s'
      obtain ⟨t0, G, J, kG, ge, hoe, na⟩ := mk_end0 (d2 := d2) (t2 := t2) I1 hsz kk un2 hok2 os2 bare2 ea ed hd1
      refine ⟨rv, hp.objs.size + 1, _, _, ⟨G, g2, d2, t2, os'⟩, _, .ref C, some d, rfl, J, kG, ge, hoe, ⟨rfl, rfl, fun vs hv => ?_⟩, rfl, rfl, na, rfl, bare2, raises_own OC.exC OC.tyC, q2⟩
      cases hv
      rfl
    | next => exact False.elim hq'
    | brk => exact False.elim hq'
    | cont => exact False.elim hq'

/-- raise C(e), C keeping e in its one field -/
def gRaise (ci : Nat) (fe : FE) : FS := fun ρ => RS (fe ρ) ρ fun d => some (.rs ⟨ci, [d]⟩ ρ)
theorem ss_raise {fI : Addr} {fd : FuncData} {fl : Str} {p0 p1 : Str} (hc : X.calm = true) (tk : L2N.Takes X W) (OC : OexC X.K (T.cls ci)) (iC : PySem.W.findIn X.K (.ref (T.cls ci)) "__init__" = some (some (.ref fI)))
    (tI : PySem.W.typeIn X.K (.ref fI) = some (.type "function")) (F1 : FnOk X.prog X.w X.K X.mg X.base (L2N.CX X.prog X.w) k fI fd [p0, p1] (spX (T.cls ci) fl)) (hr : Room (k + 1) X.A) (hb : Binds X.K fd [p0, p1] []) (hf : T.flds ci = [fl]) (hm : X.mg x = some (.ref (T.cls ci)))
    (ha : EE X T W a fa) (hg : Gl X x := by rfl) (hdb : (x == ("__debug__" : Str)) = false := by decide) (he : starEach [a] X.env = (false, eval a X.env) :: starEach [] X.env := by rfl) :
    SS X T W (.Raise (some (.Call (.Name x p) [a] [] pos)) none pos') (gRaise ci fa) := by
  refine PS.weak (L2N.ps_raise hc tk (pmkN_oex OC iC tI F1 hr hb noPass hg hm (pa_cons ha pa_nil he) hdb he rfl)) fun Dn σ H q => ?_
  obtain ⟨ρ, S, L, o, r, e, fin⟩ := q
  refine sB r e fin fun d v S1 H1 k1 i1 r1 e1 fin1 => ?_
  cases e1
  refine ⟨(by show (1 : Nat) ≤ 1000; decide), fun y hy => ⟨y, v, rfl, upd_same, fun dx hdx hne => ⟨rfl, dx, [(fl, v)], upd_same, ?_, ?_, ?_⟩⟩⟩
  · rw [upd_ne hne, upd_same]
  · rw [upd_ne hne] at hdx
    exact hdx
  · rw [upd_ne hne] at hdx
    have eH : L2.upd (del (L2.upd (L2.upd (L2.upd H1 y (exo y (T.cls ci) none)) dx (exd dx [(fl, v)])) y (exo y (T.cls ci) (some dx))) y) dx (.xd [(fl, v)]) = L2.upd H1 dx (.xd [(fl, v)]) := by
      funext b
      by_cases hb : b = dx
      · rw [hb, upd_same, upd_same]
      · rw [upd_ne hb, upd_ne hb]
        by_cases hy' : b = y
        · rw [hy', del_same, hy]
        · rw [del_ne hy', upd_ne hy', upd_ne hb, upd_ne hy']
    rw [eH]
    have kn := Kp.new (o := .xd [(fl, v)]) k1.sub hdx
    refine fin1 σ _ _ L _ _ (r1.kp kn) kn.stp ⟨rfl, .inr ⟨dx, [v], rfl, ?_, ?_, .cons (i1.mono kn.s) .nil⟩⟩
    · show L2.upd S1 dx _ dx = _
      rw [upd_same]
      show some (HO.xd [(fl, v)]) = some (HO.xd ((T.flds ci).zip [v]))
      rw [hf]
      rfl
    · show [v].length = (T.flds ci).length
      rw [hf]
      rfl
end
end EV
end

section
set_option maxHeartbeats 4000000
/-! EV20: try .. except C as e: the suite, isinstance(e, ..), e.f. -/
namespace EV
open PySem L2 PyProof.Rows

/-! ### what is looked at of own errors in the module as it stands -/
def oexB (K : PySem.W.Frag) (C : Addr) : Bool := (match K.lookup C with
  | some ⟨.type "type", _, .cls cd, sl⟩ => (match cd.mro, sl.toList with
    | .ref C' :: bm, [_, _, _, _, some (.builtin n), _] => C' == C && (n == "ValueError.__new__" && (!cd.hasDel && (cd.hasDict && PySem.HandSPX.refsVE bm)))
    | _, _ => false)
  | _ => false) && (decide (PySem.W.findIn K (.ref C) "__setattr__" = some (some (.builtin "object.__setattr__"))) && (decide (PySem.W.subIn K (.ref C) (.type "BaseException") = some true) && (decide (PySem.W.typeIn K (.ref C) = some (.type "type")) && PySem.W.keepIn K (.ref C))))
theorem oexB_ok {K : PySem.W.Frag} {C : Addr} (c : oexB K C = true) : OexC K C := by
  obtain ⟨c1, c⟩ := He.ba c
  obtain ⟨c2, c⟩ := He.ba c
  obtain ⟨c3, c⟩ := He.ba c
  obtain ⟨c4, c5⟩ := He.ba c
  refine ⟨?_, of_decide_eq_true c2, of_decide_eq_true c3, of_decide_eq_true c4, c5⟩
  split at c1
  · rename_i dd cd sl ho
    split at c1
    · rename_i C' bm k0 k1 k2 k3 n k5 hm hs
      obtain ⟨e1, c1⟩ := He.ba c1
      obtain ⟨e2, c1⟩ := He.ba c1
      obtain ⟨e3, c1⟩ := He.ba c1
      obtain ⟨e4, e5⟩ := He.ba c1
      obtain ⟨nm, bs, mro, ns, qn, hd, sn, sub, ab, col, dl⟩ := cd
      dsimp only at hm e3 e4
      have e1' : C' = C := by simpa using e1
      have e2' : n = "ValueError.__new__" := by simpa using e2
      have e3' : dl = false := by simpa using e3
      subst e1' e2' e3' e4 hm
      have hsl : sl = #[k0, k1, k2, k3, some (.builtin "ValueError.__new__"), k5] := by
        obtain ⟨l⟩ := sl
        simp only at hs
        rw [hs]
      subst hsl
      exact ⟨nm, qn, ns, bs, bm, sn, sub, ab, col, dd, k0, k1, k2, k3, k5, ho, e5⟩
    · cases c1
  · cases c1
/-- what isinstance asks of an own error's class -/
structure ExK (K : PySem.W.Frag) (C : Addr) : Prop where
  cl : (PySem.W.clsIn K C).isSome = true
  ga : PySem.W.findIn K (.ref C) "__getattribute__" = some (some (.builtin "BaseException.__getattribute__"))
  gg : PySem.W.findIn K (.ref C) "__getattr__" = some none
  hs : PySem.W.subIn K (.ref C) (.type "BaseException") = some true
  ha : PySem.W.findIn K (.ref C) "__class__" = some (some (.builtin "object.__class__"))
  hn : PySem.W.specialIn K (.builtin "object.__class__") "__get__" = some (some (.builtin "getset_descriptor.__get__"))
  ht : PySem.W.takesIn K (.builtin "object.__class__") = some true
  hm : PySem.W.mroIn K C (.type "object") = some true
  hd : PySem.W.hasDictIn K C = true
def exkB (K : PySem.W.Frag) (C : Addr) : Bool := (PySem.W.clsIn K C).isSome && (He.eqO (PySem.W.findIn K (.ref C) "__getattribute__") (some (some (.builtin "BaseException.__getattribute__"))) && (He.eqO (PySem.W.findIn K (.ref C) "__getattr__") (some none) &&
  (decide (PySem.W.subIn K (.ref C) (.type "BaseException") = some true) && (He.eqO (PySem.W.findIn K (.ref C) "__class__") (some (some (.builtin "object.__class__"))) && (He.eqO (PySem.W.specialIn K (.builtin "object.__class__") "__get__") (some (some (.builtin "getset_descriptor.__get__"))) &&
  (decide (PySem.W.takesIn K (.builtin "object.__class__") = some true) && (decide (PySem.W.mroIn K C (.type "object") = some true) && PySem.W.hasDictIn K C)))))))
theorem exkB_ok {K : PySem.W.Frag} {C : Addr} (c : exkB K C = true) : ExK K C := by
  obtain ⟨c1, c⟩ := He.ba c
  obtain ⟨c2, c⟩ := He.ba c
  obtain ⟨c3, c⟩ := He.ba c
  obtain ⟨c4, c⟩ := He.ba c
  obtain ⟨c5, c⟩ := He.ba c
  obtain ⟨c6, c⟩ := He.ba c
  obtain ⟨c7, c⟩ := He.ba c
  obtain ⟨c8, c9⟩ := He.ba c
  exact ⟨c1, He.eqO_ok c2, He.eqO_ok c3, of_decide_eq_true c4, He.eqO_ok c5, He.eqO_ok c6, of_decide_eq_true c7, of_decide_eq_true c8, c9⟩

/-! ### the frame at a suite's ends -/
section
variable {T T2 : Tab} {ρ : Env} {σ : L2.St} {S H S' H' : Hp} {L : Nat → Option Addr}
def unXS : Sl → Sl
  | .exn _ => .no
  | s => s
def unX (ρ : Env) : Env := ρ.map unXS
theorem unX_get {i : Nat} : (unX ρ)[i]? = (ρ[i]?).map unXS := by unfold unX; rw [List.getElem?_map]
theorem unX_inv {i : Nat} {s : Sl} (h : (unX ρ)[i]? = some s) : (ρ[i]? = some s ∧ ∀ x, s ≠ .exn x) ∨ s = .no := by
  rw [unX_get] at h
  obtain ⟨z, e1, e2⟩ := Option.map_eq_some_iff.mp h
  cases z <;> cases e2
  · exact .inr rfl
  · exact .inl ⟨e1, fun x z => by cases z⟩
  · exact .inl ⟨e1, fun x z => by cases z⟩
  · exact .inl ⟨e1, fun x z => by cases z⟩
  · exact .inr rfl
theorem Rep.unX (hB : T.B = T2.B) (r : Rep T ρ σ S H L) : Rep T2 (EV.unX ρ) σ S H L := by
  obtain ⟨B, xa⟩ := T
  obtain ⟨B2, xa2⟩ := T2
  cases hB
  refine ⟨r.sub, by unfold EV.unX; simp [r.len], fun i d e => ?_, fun i ds e => ?_, fun i c ds e => ?_, r.inj, fun i a e => ?_, fun i x e => ?_⟩
  · rcases unX_inv e with ⟨e, _⟩ | e
    · exact r.v i d e
    · cases e
  · rcases unX_inv e with ⟨e, _⟩ | e
    · exact r.own i ds e
    · cases e
  · rcases unX_inv e with ⟨e, _⟩ | e
    · exact r.ins i c ds e
    · cases e
  · rcases r.dom i a e with ⟨ds, q⟩ | ⟨c, ds, q⟩
    · exact .inl ⟨ds, by rw [unX_get, q]; rfl⟩
    · exact .inr ⟨c, ds, by rw [unX_get, q]; rfl⟩
  · rcases unX_inv e with ⟨_, e⟩ | e
    · exact absurd rfl (e x)
    · cases e
theorem Rep.setX {i : Nat} {a : Addr} {cls : Value} {d : Option Addr} {x : Xn} (hx : T.xa = some (a, cls, d)) (r : Rep T ρ σ S H L) (h : XIs T S x cls d) : Rep T (ρ.set i (.exn x)) (σ.set i (some (.ref a))) S H (EV.off L i) := by
  have look : ∀ {j : Nat} {s : Sl}, (ρ.set i (.exn x))[j]? = some s → (i = j ∧ s = .exn x ∧ i < ρ.length) ∨ (i ≠ j ∧ ρ[j]? = some s) := fun {j s} q => by
    by_cases hj : i = j
    · subst hj
      by_cases hl : i < ρ.length
      · rw [List.getElem?_set_self hl] at q; cases q; exact .inl ⟨rfl, rfl, hl⟩
      · rw [List.getElem?_eq_none (by simpa using hl)] at q; cases q
    · rw [List.getElem?_set_ne hj] at q
      exact .inr ⟨hj, q⟩
  refine ⟨r.sub, by simp [r.len], fun j e q => ?_, fun j ds q => ?_, fun j c ds q => ?_, fun j k b h1 h2 => r.inj j k b (off_some h1).2 (off_some h2).2, fun j b q => ?_, fun j y q => ?_⟩
  · rcases look q with ⟨_, z, _⟩ | ⟨hj, q⟩
    · cases z
    · rw [List.getElem?_set_ne hj]; exact r.v j e q
  · rcases look q with ⟨_, z, _⟩ | ⟨hj, q⟩
    · cases z
    · rw [List.getElem?_set_ne hj, off_ne (Ne.symm hj)]; exact r.own j ds q
  · rcases look q with ⟨_, z, _⟩ | ⟨hj, q⟩
    · cases z
    · rw [List.getElem?_set_ne hj, off_ne (Ne.symm hj)]; exact r.ins j c ds q
  · obtain ⟨hj, q⟩ := off_some q
    rw [List.getElem?_set_ne (Ne.symm hj)]
    exact r.dom j b q
  · rcases look q with ⟨hj, z, hl⟩ | ⟨hj, q⟩
    · cases z
      subst hj
      exact ⟨a, cls, d, hx, List.getElem?_set_self (by rw [r.len]; exact hl), h⟩
    · exact (r.x j y q).set hj
/-- the tables within the suite -/
abbrev Tab.sx (T : Tab) (a : Addr) (cls : Value) (d : Option Addr) : Tab := ⟨T.B, some (a, cls, d)⟩
end

/-! ### try: body, except C as e: suite -/
section
variable {X : Cx} {T : Tab} {W : WX} {g g1 g2 : FS} {e a b c : Expr} {es : List Expr} {f fa fb fc : FE} {pos pos' np : Pos} {body suite : List Stmt} {b₀ : Stmt}
variable {S H : Hp} {σ : L2.St} {ρ : Env} {L : Nat → Option Addr} {Dn : Ends} {o : Out} {i ci k : Nat} {x n y : Str} {p q : Pos}
/-- the suite's end: the exception is let go -/
def hEnd (i : Nat) : Option Out → Option Out
  | some (.nx ρ) => some (.nx ((unX ρ).set i .no))
  | some (.bk ρ) => some (.bk ((unX ρ).set i .no))
  | some (.ct ρ) => some (.ct ((unX ρ).set i .no))
  | some (.rt d) => some (.rt d)
  | some (.rl ds) => some (.rl ds)
  | _ => none
def gTryAs (i : Nat) (cs : List Nat) (gb gh : FS) : FS := fun ρ => match gb ρ with
  | some (.rs x ρ1) => if cs.contains x.c then hEnd i (gh ((unX ρ1).set i (.exn x))) else none
  | o => o
theorem Stp.offs {S H S2 H2 : Hp} {L L2' : Nat → Option Addr} (s : Stp S H L S2 H2 L2') (i : Nat) : Stp S H L S2 H2 (EV.off L2' i) := s.trans Stp.off
theorem ss_tryAs {gb gh : FS} {cs : List Nat} {C : Value} (i : Nat) (hN : X.N.Nodup) (tk : L2N.Takes X W) (hm : X.mg x = some C) (he : ∀ c ∈ cs, PySem.W.exmOne T.K (.ref (T.cls c)) C = some true)
    (hb : ∀ (W : WX) (pn : List (Addr × Obj)) (xe : Value → Shared → Prop), L2N.Takes (X.tr pn xe) W → PassesOwn (model X.prog X.w) X.A X.env xe → SSs (X.tr pn xe) T W body gb)
    (hsu : ∀ (a : Addr) (oe : Obj) (cls : Value) (d : Option Addr) (pn : List (Addr × Obj)), L2N.Zn cls d oe → (∃ vs, oe.data = .fields vs) → SSs (X.suite a ((a, oe) :: pn)) (T.sx a cls d) W0 (b₀ :: suite) gh)
    (hs : X.stack = X.env :: X.outer := by rfl) (hf : X.env.frame = some X.env.locals := by rfl) (hi : X.N[i]? = some n := by rfl) (hln : X.env.kindOf n = some .local := by rfl) (hg : Gl X x := by rfl) (hd : (x == ("__debug__" : Str)) = false := by decide) (hK : X.K = T.K := by rfl) :
    SS X T W (.Try body [.ExceptHandler (some (.Name x np)) (some n) (b₀ :: suite) pos'] [] [] pos) (gTryAs i cs gb gh) := by
  refine PS.weak (L2N.ps_try_as hs hf hN hi hln ⟨hg, hd, .inl hm⟩ tk (fun W pn xe tk' po => hb W pn xe tk' po) (fun a oe cls d pn hz hf => hsu a oe cls d pn hz hf)) fun Dn σ H q => ?_
  obtain ⟨ρ, S, L, o, r, e, fin⟩ := q
  unfold gTryAs at e
  cases e0 : gb ρ with
  | none => rw [e0] at e; cases e
  | some o1 =>
    rw [e0] at e
    refine ⟨ρ, S, L, o1, r, e0, ?_⟩
    cases o1 with
    | nx ρ2 => cases e; exact fin
    | rt d => cases e; exact fin
    | bk ρ2 => cases e; exact fin
    | ct ρ2 => cases e; exact fin
    | rl ds => cases e; exact fin
    | rs x ρ1 =>
      intro σ1 S1 H1 L1 cls d r1 st1 ix
      have e' : (if cs.contains x.c then hEnd i (gh ((unX ρ1).set i (.exn x))) else none) = some o := e
      split at e' <;> try cases e'
      rename_i hc
      obtain ⟨hcls, _⟩ := id ix
      refine ⟨true, by rw [hK, hcls]; exact he x.c (List.contains_iff_mem.mp hc), fun _ a ha => ?_, fun z => by cases z⟩
      have r2 : Rep (T.sx a cls d) (unX ρ1) σ1 S1 H1 L1 := Rep.unX (T := T) (T2 := T.sx a cls d) rfl r1
      have r3 := r2.setX (i := i) (x := x) rfl ix
      cases e2 : gh ((unX ρ1).set i (.exn x)) with
      | none => rw [e2] at e'; cases e'
      | some o2 =>
        rw [e2] at e'
        refine ⟨_, S1, _, o2, r3, e2, ?_⟩
        have st2 : Stp S H L S1 H1 (off L1 i) := st1.offs i
        have back : ∀ {ρ2 : Env} {σ2 : L2.St} {S2 H2 : Hp} {L2' : Nat → Option Addr}, Rep (T.sx a cls d) ρ2 σ2 S2 H2 L2' → Rep T ((unX ρ2).set i .no) (σ2.set i none) S2 H2 (off L2' i) := fun r => (Rep.unX (T := T.sx a cls d) (T2 := T) rfl r).setNone
        cases o2 with
        | nx ρ2 => cases e'; exact fun σ2 S2 H2 L2' r4 s4 => fin _ S2 H2 _ (back r4) ((st2.trans s4).offs i)
        | bk ρ2 => cases e'; exact fun σ2 S2 H2 L2' r4 s4 => fin _ S2 H2 _ (back r4) ((st2.trans s4).offs i)
        | ct ρ2 => cases e'; exact fun σ2 S2 H2 L2' r4 s4 => fin _ S2 H2 _ (back r4) ((st2.trans s4).offs i)
        | rt d2 => cases e'; exact fun v S2 H2 L2' sh s4 i2 => fin v S2 H2 L2' sh (st2.trans s4) i2
        | rl ds => cases e'; exact fun b vs S2 H2 L2' sh s4 hy h1 h2 i2 => fin b vs S2 H2 L2' sh (st2.trans s4) (st2.young hy) h1 h2 i2
        | rs x2 ρ2 => cases e'

/-! ### isinstance(e, ..), e the suite's exception -/
/-- classes as values, each with the numbers of the errors below it -/
inductive PCl (X : Cx) : List Expr → List V → List Value → List (List Nat) → Prop where
  | nil : PCl X [] [] [] []
  | own {y : Str} {q : Pos} {C : Addr} {ys : List Nat} {es : List Expr} {cs : List V} {us : List Value} {yss : List (List Nat)} (hg : Gl X y) (hd : (y == ("__debug__" : Str)) = false) (hm : X.mg y = some (.ref C)) (h : PCl X es cs us yss)
      (hs : starEach (.Name y q :: es) X.env = (false, eval (.Name y q) X.env) :: starEach es X.env) : PCl X (.Name y q :: es) (.ref C :: cs) (.ref C :: us) (ys :: yss)
  | ty {y : Str} {q : Pos} {t : String} {ys : List Nat} {es : List Expr} {cs : List V} {us : List Value} {yss : List (List Nat)} (hg : Gl X y) (hd : (y == ("__debug__" : Str)) = false) (hn : y ≠ "__name__") (hm : X.mg y = none) (hv : bootBuiltins y = some (.type t)) (h : PCl X es cs us yss)
      (hs : starEach (.Name y q :: es) X.env = (false, eval (.Name y q) X.env) :: starEach es X.env) : PCl X (.Name y q :: es) (.ty t :: cs) (.type t :: us) (ys :: yss)
theorem PCl.pa {es : List Expr} {cs : List V} {us : List Value} {yss : List (List Nat)} (h : PCl X es cs us yss) : PA X es (fun _ H Q => Q cs H) := by
  induction h with
  | nil => exact PA.weak pa_nil fun σ H Q q => q
  | @own _ _ C _ _ _ _ _ hg hd hm _ hs ih => exact PA.weak (pa_cons (pe_glob (v := .ref C) hg hm rfl hd) ih hs) fun σ H Q q => q
  | @ty _ _ t _ _ _ _ _ hg hd hn hm hv _ hs ih => exact PA.weak (pa_cons (pe_bltn (v := .ty t) hg hm hv rfl hn hd) ih hs) fun σ H Q q => q
theorem PCl.cl {es : List Expr} {cs : List V} {us : List Value} {yss : List (List Nat)} (h : PCl X es cs us yss) : Paired ClsV cs us := by
  induction h with
  | nil => exact .nil
  | own _ _ _ _ _ ih => exact .cons (.own _) ih
  | ty _ _ _ _ _ _ _ ih => exact .cons (.ty _) ih
def xIs (i : Nat) (all : List Nat) (yss : List (List Nat)) : FE := fun ρ => match ρ[i]? with
  | some (.exn x) => if all.contains x.c then some (.ok (.bl (yss.any fun ys => ys.contains x.c))) else none
  | _ => none
/-- isinstance, the first argument the exception at a -/
def rIsX (K : PySem.W.Frag) (a : Addr) (cls : Value) (d : Option Addr) : List V → Hp → VK → Prop := fun xs H Q => ∃ (c : V) (D : Addr) (b : Bool), xs = [.ref a, c] ∧ cls = .ref D ∧ ExK K D ∧ (∀ dd, d = some dd → ∃ fs, H dd = some (.xd fs)) ∧
  ((∃ u, ClsV c u ∧ PySem.W.kitOne K (.ref D) u = some b) ∨ ∃ tp cs us, c = .ref tp ∧ H tp = some (.tup cs) ∧ Paired ClsV cs us ∧ PySem.W.kitAny K (.ref D) us = some b) ∧ Q (.bl b) H
theorem call_isX {a : Addr} {oe : Obj} {cls : Value} {d : Option Addr} {pn : List (Addr × Obj)} (hz : L2N.Zn cls d oe) (hf : ∃ vs, oe.data = .fields vs) : CallR (X.suite a ((a, oe) :: pn)) (.builtin "isinstance") (rIsX X.K a cls d) := by
  intro pins s σ H xs us Q I r h
  obtain ⟨c, D, b, rfl, rfl, E, hd, hc, q⟩ := h
  obtain ⟨u1, u2, rfl, r1, r2⟩ := vals2 r
  cases (show u1 = Value.ref a from r1)
  obtain ⟨hget, _⟩ := I.pin (a, oe) (List.mem_append_left _ List.mem_cons_self)
  obtain ⟨vs, hv⟩ := hf
  have J : ∃ od, PySem.W.InstAt s.heap a oe D od := by
    obtain ⟨oc, odd, oda, osl⟩ := oe
    obtain ⟨h1, h2, _⟩ := hz
    dsimp only at h1 h2 hv
    subst h1 h2 hv
    cases odd with
    | none => exact ⟨none, hget, rfl, rfl, trivial⟩
    | some dd =>
      obtain ⟨fs, e⟩ := hd dd rfl
      obtain ⟨ob, eb⟩ := objOk_get (I.hok dd _ e)
      exact ⟨some ob, hget, rfl, rfl, eb⟩
  obtain ⟨od, J⟩ := J
  have Z := PySem.W.kitx_exc (x := a) (ox := oe) (od := od) E.cl E.ga E.gg E.hs E.ha E.hn E.ht E.hm
  rcases hc with ⟨u, k, e⟩ | ⟨tp, cs, ws, rfl, hT, k, e⟩
  · have e2 := k.eq r2
    subst e2
    exact PySem.W.kia_one Z I.kIn J e (fun z => nomatch z) fun tk => ⟨.bl b, H, I.tok tk, rfl, q⟩
  · cases (show u2 = Value.ref tp from r2)
    obtain ⟨_, its, rv, o, h1, h2, n, h3⟩ := (show ObjOk X.prog X.w H s.heap tp (.tup cs) from I.hok tp _ hT)
    have e3 := ClsV.all k rv
    subst e3
    obtain ⟨oc, od', dt, sl⟩ := o
    simp only at h2 h3
    subst h2 h3
    exact PySem.W.kia_tup Z I.kIn J h1 e (fun z => nomatch z) fun tk => ⟨.bl b, H, I.tok tk, rfl, q⟩
theorem xat {a : Addr} {cls : Value} {d : Option Addr} {i : Nat} {x : Xn} (h : XAt (T.sx a cls d) S σ i x) : σ[i]? = some (some (.ref a)) ∧ XIs T S x cls d := by
  obtain ⟨a', cls', d', h1, h2, h3⟩ := h
  cases h1
  exact ⟨h2, h3⟩
theorem xdict {d : Option Addr} {cls : Value} {x : Xn} (sh : EV.Sub S H) (h : XIs T S x cls d) : ∀ dd, d = some dd → ∃ fs, H dd = some (.xd fs) := fun dd e => by
  obtain ⟨_, h⟩ := h
  rcases h with ⟨_, h⟩ | ⟨dx, vs, h1, h2, _⟩
  · rw [h] at e; cases e
  · rw [h1] at e; cases e
    exact ⟨_, sh.same _ _ h2⟩
theorem ee_isX {a : Addr} {oe : Obj} {cls : Value} {d : Option Addr} {pn : List (Addr × Obj)} {all ys : List Nat} {cv : V} {u : Value} (hz : L2N.Zn cls d oe) (hf : ∃ vs, oe.data = .fields vs) (i : Nat) (hm : X.mg "isinstance" = none) (hc : PCl (X.suite a ((a, oe) :: pn)) [c] [cv] [u] [ys])
    (hk : ∀ c ∈ all, ExK T.K (T.cls c) ∧ PySem.W.kitOne T.K (.ref (T.cls c)) u = some (ys.contains c)) (hK : X.K = T.K := by rfl) (hN : X.N[i]? = some x := by rfl) (hv : Vis X.env.scope x := by first | exact Or.inl rfl | exact Or.inr (Or.inl rfl) | exact Or.inr (Or.inr rfl)) (hd : (x == ("__debug__" : Str)) = false := by decide)
    (hcd : (x == ("__classdict__" : Str)) = false := by decide) (hg : Gl X "isinstance" := by rfl) (he : starEach (.Name x q :: [c]) X.env = (false, eval (.Name x q) X.env) :: starEach [c] X.env := by rfl) (hpl : (backTo pos (starEach [c] X.env)).any (·.1) = false := by rfl) :
    EE (X.suite a ((a, oe) :: pn)) (T.sx a cls d) W (.Call (.Name "isinstance" p) [.Name x q, c] [] pos) (xIs i all [ys]) := by
  refine PE.weak (pe_callB (X := X.suite a ((a, oe) :: pn)) (call_isX hz hf) hg hm (by decide +kernel) (pa_cons (X := X.suite a ((a, oe) :: pn)) (pe_var hN hv hd hcd) hc.pa he) (by decide) (by decide) he hpl) fun σ H Q h => ?_
  obtain ⟨ρ, S, r, sh, rep, e, fin⟩ := h
  unfold xIs at e
  split at e <;> try cases e
  rename_i xx hx
  split at e <;> cases e
  rename_i hall
  obtain ⟨h1, h2⟩ := xat (rep.x i xx hx)
  obtain ⟨E, hk1⟩ := hk xx.c (List.contains_iff_mem.mp hall)
  refine ⟨.ref a, h1, cv, T.cls xx.c, ys.contains xx.c, rfl, h2.1, by rw [hK]; exact E, xdict sh h2, .inl ⟨u, ?_, by rw [hK]; exact hk1⟩, ?_⟩
  · cases hc.cl with
    | cons k _ => exact k
  · simp only [List.any_cons, List.any_nil, Bool.or_false] at fin
    exact fin _ S H (Kp.refl sh) (.bl _)
theorem kitAny_of {K : PySem.W.Frag} {t : Value} {c : Nat} : ∀ {us : List Value} {yss : List (List Nat)}, Paired (fun u (ys : List Nat) => PySem.W.kitOne K t u = some (ys.contains c)) us yss → PySem.W.kitAny K t us = some (yss.any fun ys => ys.contains c)
  | _, _, .nil => rfl
  | _, _, .cons (b := ys) h r => by
    refine kitAny_cons h (fun e => ?_) (fun e => ?_)
    · rw [List.any_cons, e, Bool.false_or]
      exact kitAny_of r
    · rw [List.any_cons, e, Bool.true_or]
theorem ee_isXT {a : Addr} {oe : Obj} {cls : Value} {d : Option Addr} {pn : List (Addr × Obj)} {all : List Nat} {yss : List (List Nat)} {cvs : List V} {us : List Value} {x1} {q2 : Pos} (hz : L2N.Zn cls d oe) (hf : ∃ vs, oe.data = .fields vs) (i : Nat) (hm : X.mg "isinstance" = none) (hc : PCl (X.suite a ((a, oe) :: pn)) es cvs us yss) (hl : cvs.length ≤ 100)
    (hk : ∀ c ∈ all, ExK T.K (T.cls c) ∧ Paired (fun u (ys : List Nat) => PySem.W.kitOne T.K (.ref (T.cls c)) u = some (ys.contains c)) us yss) (hK : X.K = T.K := by rfl) (hN : X.N[i]? = some x := by rfl) (hv : Vis X.env.scope x := by first | exact Or.inl rfl | exact Or.inr (Or.inl rfl) | exact Or.inr (Or.inr rfl)) (hd : (x == ("__debug__" : Str)) = false := by decide)
    (hcd : (x == ("__classdict__" : Str)) = false := by decide) (hg : Gl X "isinstance" := by rfl) (he : starEach (.Name x q :: [.Tuple es x1 q2]) X.env = (false, eval (.Name x q) X.env) :: starEach [.Tuple es x1 q2] X.env := by rfl) (he2 : starEach [.Tuple es x1 q2] X.env = (false, eval (.Tuple es x1 q2) X.env) :: starEach [] X.env := by rfl)
    (hpl : (backTo pos (starEach [.Tuple es x1 q2] X.env)).any (·.1) = false := by rfl) :
    EE (X.suite a ((a, oe) :: pn)) (T.sx a cls d) W (.Call (.Name "isinstance" p) [.Name x q, .Tuple es x1 q2] [] pos) (xIs i all yss) := by
  refine PE.weak (pe_callB (X := X.suite a ((a, oe) :: pn)) (call_isX hz hf) hg hm (by decide +kernel) (pa_cons (X := X.suite a ((a, oe) :: pn)) (pe_var hN hv hd hcd) (pa_cons (pe_tup hc.pa) pa_nil he2) he) (by decide) (by decide) he hpl) fun σ H Q h => ?_
  obtain ⟨ρ, S, r, sh, rep, e, fin⟩ := h
  unfold xIs at e
  split at e <;> try cases e
  rename_i xx hx
  split at e <;> cases e
  rename_i hall
  obtain ⟨h1, h2⟩ := xat (rep.x i xx hx)
  obtain ⟨E, hk1⟩ := hk xx.c (List.contains_iff_mem.mp hall)
  refine ⟨.ref a, h1, line_of (Nat.le_trans hl (by decide)), fun tp htp => ?_⟩
  have kn := Kp.new (o := .tup cvs) sh htp
  refine ⟨.ref tp, T.cls xx.c, _, rfl, h2.1, by rw [hK]; exact E, xdict kn.sub (h2.mono kn.s), .inr ⟨tp, cvs, us, rfl, upd_same, hc.cl, by rw [hK]; exact kitAny_of hk1⟩, ?_⟩
  exact fin _ _ _ kn (.bl _)

/-! ### e.f -/
def xFld (i : Nat) (cs : List Nat) : FE := fun ρ => match ρ[i]? with
  | some (.exn ⟨c, [d]⟩) => if cs.contains c then some (.ok d) else none
  | _ => none
theorem ee_xf {a : Addr} {oe : Obj} {cls : Value} {d : Option Addr} {pn : List (Addr × Obj)} {cs : List Nat} {fl : Str} (hz : L2N.Zn cls d oe) (hf : ∃ vs, oe.data = .fields vs) (i : Nat)
    (hk : ∀ c ∈ cs, ExK T.K (T.cls c) ∧ PySem.W.findIn T.K (.ref (T.cls c)) fl = some none ∧ T.flds c = [fl]) (hK : X.K = T.K := by rfl) (hN : X.N[i]? = some x := by rfl) (hv : Vis X.env.scope x := by first | exact Or.inl rfl | exact Or.inr (Or.inl rfl) | exact Or.inr (Or.inr rfl)) (hd : (x == ("__debug__" : Str)) = false := by decide)
    (hcd : (x == ("__classdict__" : Str)) = false := by decide) (hb : attributeBase (.Name x q) fl X.env (eval (.Name x q) X.env) = eval (.Name x q) X.env := by rfl) :
    EE (X.suite a ((a, oe) :: pn)) (T.sx a cls d) W (.Attribute (.Name x q) fl pos) (xFld i cs) := by
  refine ⟨fun pins s σ H Q I h => ?_⟩
  obtain ⟨ρ, S, r, sh, rep, e, fin⟩ := h
  unfold xFld at e
  split at e <;> try cases e
  rename_i c dd hx
  split at e <;> cases e
  rename_i hall
  obtain ⟨h1, h2, h3⟩ := xat (rep.x i _ hx)
  obtain ⟨E, hno, hfl⟩ := hk c (List.contains_iff_mem.mp hall)
  refine (pe_xf (X := X) (C := T.cls c) ⟨by rw [hK]; exact E.ga, by rw [hK]; exact E.gg, by rw [hK]; exact E.hs, by rw [hK]; exact E.hd⟩ (by rw [hK]; exact hno) hz.zc hf (pe_var (X := X.suite a ((a, oe) :: pn)) hN hv hd hcd) hb).run pins s σ H Q I ?_
  rcases h3 with ⟨h3, _⟩ | ⟨dx, vs, h3, h4, h5, h6⟩
  · cases h3
  · cases h6 with
    | cons iv h6 =>
      cases h6
      refine ⟨.ref a, h1, rfl, h2, dx, _, _, h3, sh.same _ _ h4, ?_, fin _ S H (Kp.refl sh) iv⟩
      show List.lookup fl ((T.flds c).zip _) = _
      rw [hfl]
      show List.lookup fl [(fl, _)] = _
      simp [List.lookup]
end
end EV
end

section
set_option maxHeartbeats 4000000
/-! EV21: while an exception is handled: defs, calls, for over range, ==. -/
namespace EV
open PySem L2 PyProof.Rows

section
variable {P : Program} {w : World} {K : PySem.W.Frag} {mg : Str → Option Value} {base : Heap} {x qual : Str} {params : Arguments} {body : List Stmt} {scope : Scope} {dvs : List V} {kws : List (Str × V)} {f : Addr} {fd : FuncData} {N ps : List Str} {k : Nat} {T : Tab} {g : FS}
/-- a def's promise where an exception is handled -/
theorem fn_evH (F : FunD K x qual params body scope dvs kws f fd) (Sc : FnScope N ps scope)
    (hb : ∀ (cdv : Value) (A : Around) (outer : List PySem.Env) (s : Shared) (H : Hp) (E : XK) (p : Addr × Obj), L2H.HotC (L2H.cxH (L2N.CX P w) P w K mg base N qual scope f cdv A outer s H E p) → L2H.RoomH k (A.deeper (PyProof.Rows.envOfC qual scope s.heap.objs.size f cdv)) →
      SSs (L2H.cxH (L2N.CX P w) P w K mg base N qual scope f cdv A outer s H E p) T (fun cls d _ H' => E cls d H') body g) : L2H.FnH P w K mg base (L2N.CX P w) (k + 1) f fd ps (spF T ps.length (semF N.length g)) := by
  obtain ⟨oc, od, dV, kV, doc, pm, an, cdv, ct, osl, rfl, lk, hcd, _, _⟩ := F.ex
  refine L2H.fn_ofH lk hcd Sc (fun vs H Q E h => ?_) fun A outer s H vs Q E p hot hr h => ⟨_, hb cdv A outer s H E p ⟨p, hot, List.mem_singleton.mpr rfl⟩ hr, ?_⟩
  · obtain ⟨S, ds, r, _, _, hl, _⟩ := h
    exact hl
  · obtain ⟨S, ds, r, sh, hi, hl, e, fin⟩ := h
    unfold semF at e
    split at e <;> cases e
    · rename_i d hd
      exact ⟨_, S, _, _, rep_start sh hi, hd, fun v S' H' L' sh' st i => fin v S' H' (st.kp0 sh') i⟩
    · rename_i ρ hd
      exact ⟨_, S, _, _, rep_start sh hi, hd, fun σ' S' H' L' r st => fin .non S' H' (st.kp0 r.sub) .non⟩
    · rename_i x ρ hd
      exact ⟨_, S, _, _, rep_start sh hi, hd, fun σ' S' H' L' cls d r st i => fin S' H' cls d (st.kp0 r.sub) i⟩
    · rename_i es hd
      refine ⟨_, S, _, _, rep_start sh hi, hd, fun a us S' H' L' sh' st hy h1 h2 i => ?_⟩
      have hn : H a = none := by
        rcases hy with hy | ⟨_, hy⟩
        · exact hy
        · cases hy
      exact fin (.ref a) _ H' ((st.kp0 sh').open hn h2 h1) (.lst upd_same (i.mono (Same.opened h1)))
theorem pick_range {α : Type} (us : List α) : pick (List.range us.length) us = us := by
  unfold pick
  apply List.ext_getElem?
  intro i
  have key : ∀ n, n ≤ us.length → (List.range n).filterMap (fun j => us[j]?) = us.take n := by
    intro n
    induction n with
    | zero => intro _; simp
    | succ n ih =>
      intro hn
      rw [List.range_succ, List.filterMap_append, ih (by omega)]
      have : us[n]? = some us[n] := List.getElem?_eq_getElem (by omega)
      have e1 : List.filterMap (fun j => us[j]?) [n] = [us[n]] := by
        show (match us[n]? with
          | none => List.filterMap (fun j => us[j]?) []
          | some b => b :: List.filterMap (fun j => us[j]?) []) = _
        rw [this]
        rfl
      rw [e1, List.take_succ, this]
      rfl
  rw [key _ (Nat.le_refl _), List.take_length]
theorem ArgB.binds {fd : FuncData} {ps : List Str} {n : Nat} {perm : List Nat} (hb : ArgB K fd ps n [] [] perm) (hn : n = ps.length) (hp : perm = List.range n) : Binds K fd ps [] := fun s us hi hl => by
  subst hn hp
  obtain ⟨ds, rd, to⟩ := hb.to
  cases rd
  rw [List.append_nil] at hl ⊢
  have t := to s us [] hi hl rfl
  simp only [List.append_nil] at t
  rw [← hl, pick_range] at t
  exact t
end

section
variable {X : Cx} {T : Tab} {W : WX} {st : Stmt} {g g1 g2 : FS} {e a b c : Expr} {es : List Expr} {f fa fb fc : FE} {fs : FL} {pos pos' p : Pos} {body : List Stmt}
variable {S H : Hp} {σ : L2.St} {ρ : Env} {L : Nat → Option Addr} {Dn : Ends} {o : Out} {i ci k : Nat} {x : Str} {is : List Nat} {fg : FG}
theorem hot_suite {a : Addr} {oe : Obj} {cls : Value} {d : Option Addr} {pn : List (Addr × Obj)} (hz : L2N.Zn cls d oe) (hf : ∃ vs, oe.data = .fields vs) : L2H.HotC (X.suite a ((a, oe) :: pn)) := by
  obtain ⟨vs, hv⟩ := hf
  exact ⟨(a, oe), ⟨rfl, vs, hv, hz.2.2 vs hv⟩, List.mem_cons_self⟩
theorem roomH_suite {a : Addr} {pn : List (Addr × Obj)} {k : Nat} (hr : Room k X.A) : L2H.RoomH k (X.suite a pn).A := L2H.roomH_mark hr _

/-- a call by place -/
theorem ee_callH {f : Addr} {fd : FuncData} {ps : List Str} {np : Nat} {sem : List D → Option R} (F : L2H.FnH X.prog X.w X.K X.mg X.base (L2N.CX X.prog X.w) k f fd ps (spF T np sem)) (hr : L2H.RoomH k X.A) (hc : L2H.HotC X) (hm : X.mg x = some (.ref f)) (hk : PySem.W.keepIn X.K (.ref f) = true)
    (hb : Binds X.K fd ps []) (tk : L2N.Takes X W) (ha : EA X T W (e :: es) fs) (hl : (e :: es).length = np) (hg : Gl X x := by rfl) (hdb : (x == ("__debug__" : Str)) = false := by decide) (he : starEach (e :: es) X.env = (false, eval e X.env) :: starEach es X.env := by rfl) (hpl : (backTo pos (starEach es X.env)).any (·.1) = false := by rfl) :
    EE X T W (.Call (.Name x p) (e :: es) [] pos) (vCallP np 0 (List.range np) sem [] fs aNil) := by
  refine PE.weak (L2H.pe_callH (E := WE W) F hr hc hg hm hk hb (fun σ => L2N.passAt tk σ) ha hdb he hpl) fun σ H Q q => ?_
  obtain ⟨ρ, S, z, sh, rep, e, fin⟩ := q
  unfold vCallP at e
  refine tA_go sh rep e fin fun ds vs S1 H1 k1 i1 rep1 e1 fin1 => ?_
  have e2 : (if ds.length = np ∧ ([] : List D).length = 0 then sem (pick (List.range np) (ds ++ [] ++ [])) else none) = some z := e1
  split at e2 <;> try cases e2
  rename_i hh
  rw [List.append_nil, List.append_nil, ← hh.1, pick_range] at e2
  exact ⟨S1, ds, z, k1.sub, i1, i1.length.trans hh.1, e2, fend fin1⟩

/-- for over range -/
def EIH (X : Cx) (T : Tab) (W : WX) (tg e : Expr) (f : FL) : Prop := L2H.PIH X tg e (tI T W f)
theorem PIH.weak {tg e : Expr} {t u : TI} (h : L2H.PIH X tg e t) (w : ∀ σ H Q, u σ H Q → t σ H Q) : L2H.PIH X tg e u := ⟨fun pins s σ H Q I q => h.run pins s σ H Q I (w σ H Q q)⟩
theorem ei_range1H {tg : Expr} (hm : X.mg "range" = none) (ha : EE X T W a fa) (hg : Gl X "range" := by rfl) (hs : starEach [a] X.env = [(false, eval a X.env)] := by rfl) (hs2 : starEach [a] X.env = (false, eval a X.env) :: starEach [] X.env := by rfl) : EIH X T W tg (.Call (.Name "range" p) [a] [] pos) (iRange1 fa) := by
  refine PIH.weak (L2H.pi_range1H hg hm (pa_cons ha pa_nil hs2) hs) fun σ H R q => ?_
  obtain ⟨ρ, S, r, sh, rep, e, fin⟩ := q
  show tF T W fa σ H _
  refine tF_goI sh rep e fin fun d v S1 H1 k i rep1 e1 fin1 => ?_
  split at e1 <;> try cases e1
  split at e1 <;> cases e1
  rename_i hb
  cases i
  exact ⟨_, rfl, hb.1, hb.2, fin1 _ S1 H1 (Kp.refl k.sub) iw_range⟩
theorem ss_forH {tg iter : Expr} {fi : FL} (hp : PassesOwn (model X.prog X.w) X.A X.env X.xe) (hc : L2H.HotC X) (hi : EIH X T W tg iter fi) (hg : EG X T tg is fg) (hb : SSs X T W body g) (hs : ∀ x, foldedSetIterable iter X.env x = pure x := by intro _; rfl) :
    SS X T W (.For tg iter body [] pos) (gFor fi fg g) := by
  refine PS.weak (L2H.ps_forH hp hc hi hg hb hs) fun Dn σ H q => ?_
  obtain ⟨ρ, S, L, o, r, e, fin⟩ := q
  exact sBI r e fin fun ds J S' H' kp iw r' e' fin' => for_core r' iw e' fin'

/-- == where an exception is handled -/
theorem ee_eqH {n : Nat} (hr : L2H.RoomH n X.A) (hK : X.K = T.K := by rfl) (ha : EE X T W a fa) (hb : EE X T W b fb) : EE X T W (.Compare a [.Eq] [b] pos) (v2 eqD fa fb) := ee_cmp (op_eqD (by have := hr.un; omega)) (o_eq hK) ha hb (nomark _)
theorem ee_neH {n : Nat} (hr : L2H.RoomH n X.A) (hK : X.K = T.K := by rfl) (ha : EE X T W a fa) (hb : EE X T W b fb) : EE X T W (.Compare a [.NotEq] [b] pos) (v2 neD fa fb) := ee_cmp (op_neD (by have := hr.un; omega)) (o_ne hK) ha hb (nomark _)
theorem eb_eqH {n : Nat} (hr : L2H.RoomH n X.A) (hK : X.K = T.K := by rfl) (ha : EE X T W a fa) (hb : EE X T W b fb) : EB X T W (.Compare a [.Eq] [b] pos) (v2 eqD fa fb) := eb_cmp (op_eqD (by have := hr.un; omega)) (o_eq hK) ha hb (nomark _)
theorem eb_neH {n : Nat} (hr : L2H.RoomH n X.A) (hK : X.K = T.K := by rfl) (ha : EE X T W a fa) (hb : EE X T W b fb) : EB X T W (.Compare a [.NotEq] [b] pos) (v2 neD fa fb) := eb_cmp (op_neD (by have := hr.un; omega)) (o_ne hK) ha hb (nomark _)
end
end EV
end

section
set_option maxHeartbeats 4000000
/-! EV22: is of truth values, a list from its end. -/
namespace EV
open PySem L2 PyProof.Rows
section
variable {X : Cx} {T : Tab} {W : WX} {e a b c : Expr} {f fa fb fc : FE} {pos p1 p2 p3 : Pos}
def isBlD : D → D → Option D
  | .bl x, .bl y => some (.bl (decide (x = y)))
  | _, _ => none
def rIsBl : R2 := fun x y H Q => ∃ a b : Bool, x = .bl a ∧ y = .bl b ∧ Q (.bl (decide (a = b))) H
theorem o_isB : Op2 T rIsBl isBlD := by
  intro S H x y p q d Q sh i1 i2 e fin
  unfold isBlD at e
  split at e <;> cases e
  cases i1
  cases i2
  exact ⟨_, _, rfl, rfl, fin _ S H (Kp.refl sh) (.bl _)⟩
theorem ee_isB (ha : EE X T W a fa) (hb : EE X T W b fb) : EE X T W (.Compare a [.Is] [b] pos) (v2 isBlD fa fb) := ee_cmp (r := rIsBl) L2.op_isBl o_isB ha hb (nomark _)
theorem eb_isB (ha : EE X T W a fa) (hb : EE X T W b fb) : EB X T W (.Compare a [.Is] [b] pos) (v2 isBlD fa fb) := eb_cmp (r := rIsBl) L2.op_isBl o_isB ha hb (nomark _)
def nRev (f : FE) : FL := fun ρ => R1L (f ρ) fun
  | .lst xs => some (.ok xs.reverse)
  | _ => none
theorem en_rev {k} (hK : X.K = T.K := by rfl) (ha : EE X T W a fa) : EN X T W (.Subscript a (.Slice none none (some (.UnaryOp .USub (.Constant (.int 1) k p1) p2)) p3) pos) (nRev fa) := by
  refine PE.weak (L2.pe_revL ha) fun σ H Q q => ?_
  obtain ⟨ρ, S, r, sh, rep, e, fin⟩ := q
  refine tF_goN sh rep e fin fun d v S1 H1 k1 i1 rep1 e1 fin1 => ?_
  cases d <;> try cases e1
  cases i1 with
  | lst h hs => exact ⟨_, _, rfl, SqL.of (k1.sub.same _ _ h), fun p hp => fin1 p _ S1 _ (Kp.hide k1.sub hp rfl) hp (k1.sub.same.free hp) upd_same hs.reverse⟩
end
/-! ### a not in b, b an instance -/
section
variable {X : Cx} {T : Tab} {W : WX} {k ci : Nat} {f : Addr} {fd : FuncData} {ps : List Str} {sp : Sp} {C : Addr} {sem : List D → Option R} {a b : Expr} {fa fb : FE} {pos : Pos}
def notBlD : Option D → Option D
  | some (.bl b) => some (.bl (!b))
  | _ => none
def ninOD (ci : Nat) (sem : List D → Option R) (p q : D) : Option D := notBlD (inOD ci sem p q)
theorem op_ninO (F : FnOk X.prog X.w X.K X.mg X.base (L2N.CX X.prog X.w) k f fd ps sp) (hr : Room k X.A) (hb : ArgB X.K fd ps 2 [] [] [0, 1]) (hm : Meth X.K C "__contains__" f) :
    OpR X (compareOp .NotIn) (fun x y H Q => rInO C sp x y H fun v H' => ∃ b, v = .bl b ∧ Q (.bl (!b)) H') := by
  intro pins s σ H x y v u Q I rx ry h
  obtain ⟨a, dx, fs, rfl, ha, q⟩ := h
  cases (show u = Value.ref a from ry)
  obtain ⟨mA, J, _⟩ := ins_get I.hok ha
  obtain ⟨od, J, _⟩ := J.look
  obtain ⟨m, hF⟩ := I.fr
  refine PySem.W.notIn_K hF I.ok.mod.kin J hm.at_ hm.fn ?_
  refine wpAny_mono (run_N (us := [.ref a, v]) (vs := [.ref a, x]) F hr hb I (.cons rfl (.cons rx .nil)) rfl q) (fun w s' z => ?_) fun _ _ x => x
  obtain ⟨z', H', I', rz, b, rfl, qz⟩ := z
  cases (show w = Value.bool b from rz)
  obtain ⟨b', e, qz⟩ := qz
  cases e
  exact wpAny_truthy_bool ⟨.bl (!b), H', I', rfl, qz⟩
theorem o_ninO : Op2 T (fun x y H Q => rInO (T.cls ci) (spF T 2 sem) x y H fun v H' => ∃ b, v = .bl b ∧ Q (.bl (!b)) H') (ninOD ci sem) := fun S H x y p q d Q sh i1 i2 e fin => by
  unfold ninOD notBlD at e
  split at e <;> cases e
  rename_i b hb
  exact o_inO S H x y p q (.bl b) _ sh i1 i2 hb fun v S' H' kp i => by
    cases i
    exact ⟨b, rfl, fin _ S' H' kp (.bl _)⟩
theorem ee_ninO (M : Meth T.K (T.cls ci) "__contains__" f) (F : FnOk X.prog X.w X.K X.mg X.base (L2N.CX X.prog X.w) k f fd ps (spF T 2 sem)) (hr : Room k X.A) (hb : ArgB X.K fd ps 2 [] [] [0, 1]) (hm : behindInMarks .NotIn b = false) (ha : EE X T W a fa) (hb' : EE X T W b fb) (hK : X.K = T.K := by rfl) :
    EE X T W (.Compare a [.NotIn] [b] pos) (v2 (ninOD ci sem) fa fb) := ee_cmp (op_ninO (C := T.cls ci) F hr hb (by rw [hK]; exact M)) o_ninO ha hb' hm
theorem eb_ninO (M : Meth T.K (T.cls ci) "__contains__" f) (F : FnOk X.prog X.w X.K X.mg X.base (L2N.CX X.prog X.w) k f fd ps (spF T 2 sem)) (hr : Room k X.A) (hb : ArgB X.K fd ps 2 [] [] [0, 1]) (hm : behindInMarks .NotIn b = false) (ha : EE X T W a fa) (hb' : EE X T W b fb) (hK : X.K = T.K := by rfl) :
    EB X T W (.Compare a [.NotIn] [b] pos) (v2 (ninOD ci sem) fa fb) := eb_cmp (op_ninO (C := T.cls ci) F hr hb (by rw [hK]; exact M)) o_ninO ha hb' hm
end
end EV
end

section
set_option maxHeartbeats 4000000
namespace LW
open PySem L2 EV
def top (i : Nat) : Stmt := PySem.Challenge.pw_millsluices_k13_walks_followed.main.body.getD i (.Pass ⟨0, 0, 0, 0⟩)
abbrev st_law_digits : Stmt := top 50
def d_law_digits : He.DefD := ⟨("_law_digits", none), "_law_digits", "_law_digits", defArgs st_law_digits, defBody st_law_digits, defScope st_law_digits, [], []⟩
abbrev st_frozen : Stmt := top 25
def d_frozen : He.DefD := ⟨("frozen", none), "frozen", "frozen", defArgs st_frozen, defBody st_frozen, defScope st_frozen, [], []⟩
abbrev st_bad_index : Stmt := top 29
def d_bad_index : He.DefD := ⟨("bad_index", none), "bad_index", "bad_index", defArgs st_bad_index, defBody st_bad_index, defScope st_bad_index, [], []⟩
abbrev st_check_needs : Stmt := top 30
def d_check_needs : He.DefD := ⟨("check_needs", none), "check_needs", "check_needs", defArgs st_check_needs, defBody st_check_needs, defScope st_check_needs, [], []⟩
abbrev st_check_limits : Stmt := top 31
def d_check_limits : He.DefD := ⟨("check_limits", none), "check_limits", "check_limits", defArgs st_check_limits, defBody st_check_limits, defScope st_check_limits, [], []⟩
abbrev st_check_sides : Stmt := top 32
def d_check_sides : He.DefD := ⟨("check_sides", none), "check_sides", "check_sides", defArgs st_check_sides, defBody st_check_sides, defScope st_check_sides, [], []⟩
abbrev st_Season__init : Stmt := inClass (top 39) 0
def d_Season__init : He.DefD := ⟨("Season", some "__init__"), "__init__", "Season.__init__", defArgs st_Season__init, defBody st_Season__init, defScope st_Season__init, [], [("needs", .non), ("limits", .non), ("sides", .non)]⟩
abbrev st_check_pairs : Stmt := top 45
def d_check_pairs : He.DefD := ⟨("check_pairs", none), "check_pairs", "check_pairs", defArgs st_check_pairs, defBody st_check_pairs, defScope st_check_pairs, [], []⟩
abbrev st_Valley__init : Stmt := inClass (top 46) 0
def d_Valley__init : He.DefD := ⟨("Valley", some "__init__"), "__init__", "Valley.__init__", defArgs st_Valley__init, defBody st_Valley__init, defScope st_Valley__init, [.adr (He.dflAt ("Valley", some "__init__") 0)], []⟩
abbrev st_law_season : Stmt := top 59
def d_law_season : He.DefD := ⟨("_law_season", none), "_law_season", "_law_season", defArgs st_law_season, defBody st_law_season, defScope st_law_season, [], []⟩
abbrev st_law_turn : Stmt := top 53
def d_law_turn : He.DefD := ⟨("_law_turn", none), "_law_turn", "_law_turn", defArgs st_law_turn, defBody st_law_turn, defScope st_law_turn, [], []⟩
abbrev st_law_fed : Stmt := top 52
def d_law_fed : He.DefD := ⟨("_law_fed", none), "_law_fed", "_law_fed", defArgs st_law_fed, defBody st_law_fed, defScope st_law_fed, [], []⟩
abbrev st_law_runs : Stmt := top 54
def d_law_runs : He.DefD := ⟨("_law_runs", none), "_law_runs", "_law_runs", defArgs st_law_runs, defBody st_law_runs, defScope st_law_runs, [], []⟩
abbrev st_law_drawn_turns : Stmt := top 71
def d_law_drawn_turns : He.DefD := ⟨("_law_drawn_turns", none), "_law_drawn_turns", "_law_drawn_turns", defArgs st_law_drawn_turns, defBody st_law_drawn_turns, defScope st_law_drawn_turns, [], []⟩
abbrev st_law_visited : Stmt := top 72
def d_law_visited : He.DefD := ⟨("_law_visited", none), "_law_visited", "_law_visited", defArgs st_law_visited, defBody st_law_visited, defScope st_law_visited, [], []⟩
abbrev st_law_form : Stmt := top 67
def d_law_form : He.DefD := ⟨("_law_form", none), "_law_form", "_law_form", defArgs st_law_form, defBody st_law_form, defScope st_law_form, [], []⟩
abbrev st_law_truth : Stmt := top 68
def d_law_truth : He.DefD := ⟨("_law_truth", none), "_law_truth", "_law_truth", defArgs st_law_truth, defBody st_law_truth, defScope st_law_truth, [], []⟩
abbrev st_law_whole : Stmt := top 48
def d_law_whole : He.DefD := ⟨("_law_whole", none), "_law_whole", "_law_whole", defArgs st_law_whole, defBody st_law_whole, defScope st_law_whole, [], []⟩
abbrev st_law_same : Stmt := top 58
def d_law_same : He.DefD := ⟨("_law_same", none), "_law_same", "_law_same", defArgs st_law_same, defBody st_law_same, defScope st_law_same, [], []⟩
abbrev st_Season__contains : Stmt := inClass (top 39) 2
def d_Season__contains : He.DefD := ⟨("Season", some "__contains__"), "__contains__", "Season.__contains__", defArgs st_Season__contains, defBody st_Season__contains, defScope st_Season__contains, [], []⟩
abbrev st_NotRunning__init : Stmt := inClass (top 9) 0
def d_NotRunning__init : He.DefD := ⟨("NotRunning", some "__init__"), "__init__", "NotRunning.__init__", defArgs st_NotRunning__init, defBody st_NotRunning__init, defScope st_NotRunning__init, [], []⟩
abbrev st_require_running : Stmt := top 38
def d_require_running : He.DefD := ⟨("require_running", none), "require_running", "require_running", defArgs st_require_running, defBody st_require_running, defScope st_require_running, [], []⟩
abbrev st_flipped : Stmt := top 23
def d_flipped : He.DefD := ⟨("flipped", none), "flipped", "flipped", defArgs st_flipped, defBody st_flipped, defScope st_flipped, [], []⟩
abbrev st_BadWalk__init : Stmt := inClass (top 10) 0
def d_BadWalk__init : He.DefD := ⟨("BadWalk", some "__init__"), "__init__", "BadWalk.__init__", defArgs st_BadWalk__init, defBody st_BadWalk__init, defScope st_BadWalk__init, [], []⟩
abbrev st_follow : Stmt := top 41
def d_follow : He.DefD := ⟨("follow", none), "follow", "follow", defArgs st_follow, defBody st_follow, defScope st_follow, [], []⟩
abbrev st_law_same_rows : Stmt := top 69
def d_law_same_rows : He.DefD := ⟨("_law_same_rows", none), "_law_same_rows", "_law_same_rows", defArgs st_law_same_rows, defBody st_law_same_rows, defScope st_law_same_rows, [], []⟩
abbrev st_law_followed : Stmt := top 73
def d_law_followed : He.DefD := ⟨("_law_followed", none), "_law_followed", "_law_followed", defArgs st_law_followed, defBody st_law_followed, defScope st_law_followed, [], []⟩
abbrev st_turnable : Stmt := top 43
def d_turnable : He.DefD := ⟨("turnable", none), "turnable", "turnable", defArgs st_turnable, defBody st_turnable, defScope st_turnable, [], []⟩
abbrev st_law_turnable : Stmt := top 74
def d_law_turnable : He.DefD := ⟨("_law_turnable", none), "_law_turnable", "_law_turnable", defArgs st_law_turnable, defBody st_law_turnable, defScope st_law_turnable, [], []⟩
abbrev st_is_walk : Stmt := top 42
def d_is_walk : He.DefD := ⟨("is_walk", none), "is_walk", "is_walk", defArgs st_is_walk, defBody st_is_walk, defScope st_is_walk, [], []⟩
abbrev st_law_asked : Stmt := top 75
def d_law_asked : He.DefD := ⟨("_law_asked", none), "_law_asked", "_law_asked", defArgs st_law_asked, defBody st_law_asked, defScope st_law_asked, [], []⟩
abbrev st_law_cell : Stmt := top 49
def d_law_cell : He.DefD := ⟨("_law_cell", none), "_law_cell", "_law_cell", defArgs st_law_cell, defBody st_law_cell, defScope st_law_cell, [], []⟩
abbrev st_law_far : Stmt := top 70
def d_law_far : He.DefD := ⟨("_law_far", none), "_law_far", "_law_far", defArgs st_law_far, defBody st_law_far, defScope st_law_far, [], []⟩
abbrev st_law_valley : Stmt := top 51
def d_law_valley : He.DefD := ⟨("_law_valley", none), "_law_valley", "_law_valley", defArgs st_law_valley, defBody st_law_valley, defScope st_law_valley, [], []⟩
abbrev st_law_world : Stmt := top 56
def d_law_world : He.DefD := ⟨("_law_world", none), "_law_world", "_law_world", defArgs st_law_world, defBody st_law_world, defScope st_law_world, [], []⟩
abbrev st_law_drawn : Stmt := top 60
def d_law_drawn : He.DefD := ⟨("_law_drawn", none), "_law_drawn", "_law_drawn", defArgs st_law_drawn, defBody st_law_drawn, defScope st_law_drawn, [], []⟩
abbrev st_law_mirrored : Stmt := top 61
def d_law_mirrored : He.DefD := ⟨("_law_mirrored", none), "_law_mirrored", "_law_mirrored", defArgs st_law_mirrored, defBody st_law_mirrored, defScope st_law_mirrored, [], []⟩
abbrev st_law_either : Stmt := top 62
def d_law_either : He.DefD := ⟨("_law_either", none), "_law_either", "_law_either", defArgs st_law_either, defBody st_law_either, defScope st_law_either, [], []⟩
abbrev st_law_settings : Stmt := top 55
def d_law_settings : He.DefD := ⟨("_law_settings", none), "_law_settings", "_law_settings", defArgs st_law_settings, defBody st_law_settings, defScope st_law_settings, [], []⟩
abbrev st_law_running : Stmt := top 57
def d_law_running : He.DefD := ⟨("_law_running", none), "_law_running", "_law_running", defArgs st_law_running, defBody st_law_running, defScope st_law_running, [], []⟩
abbrev st_law_lively : Stmt := top 66
def d_law_lively : He.DefD := ⟨("_law_lively", none), "_law_lively", "_law_lively", defArgs st_law_lively, defBody st_law_lively, defScope st_law_lively, [], []⟩
abbrev st_law_barred : Stmt := top 64
def d_law_barred : He.DefD := ⟨("_law_barred", none), "_law_barred", "_law_barred", defArgs st_law_barred, defBody st_law_barred, defScope st_law_barred, [], []⟩
abbrev st_law_loosened : Stmt := top 63
def d_law_loosened : He.DefD := ⟨("_law_loosened", none), "_law_loosened", "_law_loosened", defArgs st_law_loosened, defBody st_law_loosened, defScope st_law_loosened, [], []⟩
abbrev st_law_sibling : Stmt := top 65
def d_law_sibling : He.DefD := ⟨("_law_sibling", none), "_law_sibling", "_law_sibling", defArgs st_law_sibling, defBody st_law_sibling, defScope st_law_sibling, [], []⟩
abbrev st_law : Stmt := top 76
def d_law : He.DefD := ⟨("law", none), "law", "law", defArgs st_law, defBody st_law, defScope st_law, [], []⟩
def fn : List He.DefD := [d_law_digits, d_frozen, d_bad_index, d_check_needs, d_check_limits, d_check_sides, d_Season__init, d_check_pairs, d_Valley__init, d_law_season, d_law_turn, d_law_fed, d_law_runs, d_law_drawn_turns, d_law_visited, d_law_form, d_law_truth, d_law_whole, d_law_same, d_Season__contains, d_NotRunning__init, d_require_running, d_flipped, d_BadWalk__init, d_follow, d_law_same_rows, d_law_followed, d_turnable, d_law_turnable, d_is_walk, d_law_asked, d_law_cell, d_law_far, d_law_valley, d_law_world, d_law_drawn, d_law_mirrored, d_law_either, d_law_settings, d_law_running, d_law_lively, d_law_barred, d_law_loosened, d_law_sibling, d_law]
def gt : List (Str × Str × He.DefD) := []
def fa : List He.Fa := [.glo "_law_digits", .glo "frozen", .glo "bad_index", .glo "check_needs", .glo "check_limits", .glo "check_sides", .glo "check_pairs", .glo "_law_season", .glo "_law_turn", .glo "_law_fed", .glo "_law_runs", .glo "_law_drawn_turns", .glo "_law_visited", .glo "_law_form", .glo "_law_truth", .glo "_law_whole", .glo "_law_same", .glo "require_running", .glo "flipped", .glo "follow", .glo "_law_same_rows", .glo "_law_followed", .glo "turnable", .glo "_law_turnable", .glo "is_walk", .glo "_law_asked", .glo "_law_cell", .glo "_law_far", .glo "_law_valley", .glo "_law_world", .glo "_law_drawn", .glo "_law_mirrored", .glo "_law_either", .glo "_law_settings", .glo "_law_running", .glo "_law_lively", .glo "_law_barred", .glo "_law_loosened", .glo "_law_sibling", .glo "law", .glo "Season", .glo "Valley", .glo "BadFollow", .glo "BadLimit", .glo "BadMove", .glo "BadNeed", .glo "BadNote", .glo "BadSides", .glo "BadSluice", .glo "BadWalk", .glo "EndlessPlan", .glo "HasLimits", .glo "Jammed", .glo "NoHistory", .glo "NoSide", .glo "NoWay", .glo "NotRunning", .glo "NothingRuns", .glo "NothingToUndo", .glo "SluiceError", .glo "ValleysDiffer", .glo "WouldStop", .free "ValueError", .free "bool", .free "enumerate", .free "int", .free "isinstance", .free "len", .free "list", .free "max", .free "min", .free "range", .free "tuple", .free "zip", .cls "Season", .cls "Valley", .noat "Season" "limits", .noat "Season" "needs", .noat "Season" "sides", .noat "Season" "valley", .noat "Valley" "mills", .noat "Valley" "sluices", .mkr "Season", .mkr "Valley", .meth "Season" "__contains__"]
def clsN : Nat → Str
  | 0 => "SluiceError"
  | 1 => "BadSluice"
  | 2 => "BadNeed"
  | 3 => "BadLimit"
  | 4 => "BadSides"
  | 5 => "ValleysDiffer"
  | 20 => "NothingRuns"
  | 21 => "NotRunning"
  | 22 => "BadWalk"
  | 23 => "EndlessPlan"
  | 24 => "BadFollow"
  | 25 => "BadMove"
  | 26 => "NoHistory"
  | 27 => "HasLimits"
  | 28 => "NoSide"
  | 29 => "Jammed"
  | 30 => "WouldStop"
  | 31 => "NoWay"
  | 32 => "NothingToUndo"
  | 33 => "BadNote"
  | 6 => "Season"
  | 7 => "Valley"
  | _ => ""
def fldN : Nat → List Str
  | 0 => []
  | 1 => ["index"]
  | 2 => ["index"]
  | 3 => ["index"]
  | 4 => ["index"]
  | 5 => []
  | 20 => []
  | 21 => ["setting"]
  | 22 => ["index"]
  | 23 => []
  | 24 => ["index"]
  | 25 => ["index"]
  | 26 => []
  | 27 => ["mill"]
  | 28 => ["sluice"]
  | 29 => ["sluice"]
  | 30 => ["sluice"]
  | 31 => ["blocked"]
  | 32 => []
  | 33 => ["line"]
  | 6 => ["valley", "needs", "limits", "sides"]
  | 7 => ["mills", "sluices"]
  | _ => []
abbrev tab (K : PySem.W.Frag) : EV.Tab := ⟨⟨K, fun i => He.ga K (clsN i), fldN⟩, none⟩
def c_BOTH : D := .tup [.int 0, .int 1]
def c_LET_SIDES : D := .tup [.tup [.int 0, .int 1], .tup [.int 0], .tup [.int 1], .tup []]
abbrev owns : List Nat := []
abbrev xall : List Nat := [21, 22]
abbrev xs_SluiceError : List Nat := [21, 22]
abbrev ys_BadFollow : List Nat := []
abbrev ys_BadLimit : List Nat := []
abbrev ys_BadMove : List Nat := []
abbrev ys_BadNeed : List Nat := []
abbrev ys_BadNote : List Nat := []
abbrev ys_BadSides : List Nat := []
abbrev ys_BadSluice : List Nat := []
abbrev ys_BadWalk : List Nat := [22]
abbrev ys_EndlessPlan : List Nat := []
abbrev ys_HasLimits : List Nat := []
abbrev ys_Jammed : List Nat := []
abbrev ys_NoHistory : List Nat := []
abbrev ys_NoSide : List Nat := []
abbrev ys_NoWay : List Nat := []
abbrev ys_NotRunning : List Nat := [21]
abbrev ys_NothingRuns : List Nat := []
abbrev ys_NothingToUndo : List Nat := []
abbrev ys_ValleysDiffer : List Nat := []
abbrev ys_ValueError : List Nat := [21, 22]
abbrev ys_WouldStop : List Nat := []
def ckl (K : PySem.W.Frag) : List Bool := [(kC K "BOTH" c_BOTH), (kC K "LET_SIDES" c_LET_SIDES), (gt.all fun q => okA K (getAd K (He.ga K q.1) q.2.1) q.2.2 && propB K (He.ga K q.1) q.2.1), (oexB K (He.ga K "NotRunning")), (decide (PySem.W.findIn K (.ref (He.ga K "NotRunning")) "__init__" = some (some (.ref (He.fAd K d_NotRunning__init.at_)))) && decide (PySem.W.typeIn K (.ref (He.fAd K d_NotRunning__init.at_)) = some (.type "function"))), (decide (PySem.W.findIn K (.ref (He.ga K "NotRunning")) "setting" = some none)), (oexB K (He.ga K "BadWalk")), (decide (PySem.W.findIn K (.ref (He.ga K "BadWalk")) "__init__" = some (some (.ref (He.fAd K d_BadWalk__init.at_)))) && decide (PySem.W.typeIn K (.ref (He.fAd K d_BadWalk__init.at_)) = some (.type "function"))), (decide (PySem.W.findIn K (.ref (He.ga K "BadWalk")) "index" = some none)), (xall.all fun c => exkB K (He.ga K (clsN c))), (xs_SluiceError.all fun c => decide (PySem.W.exmOne K (.ref (He.ga K (clsN c))) (.ref (He.ga K "SluiceError")) = some true)), (xall.all fun c => decide (PySem.W.kitOne K (.ref (He.ga K (clsN c))) (.ref (He.ga K "BadFollow")) = some (ys_BadFollow.contains c))), (xall.all fun c => decide (PySem.W.kitOne K (.ref (He.ga K (clsN c))) (.ref (He.ga K "BadLimit")) = some (ys_BadLimit.contains c))), (xall.all fun c => decide (PySem.W.kitOne K (.ref (He.ga K (clsN c))) (.ref (He.ga K "BadMove")) = some (ys_BadMove.contains c))), (xall.all fun c => decide (PySem.W.kitOne K (.ref (He.ga K (clsN c))) (.ref (He.ga K "BadNeed")) = some (ys_BadNeed.contains c))), (xall.all fun c => decide (PySem.W.kitOne K (.ref (He.ga K (clsN c))) (.ref (He.ga K "BadNote")) = some (ys_BadNote.contains c))), (xall.all fun c => decide (PySem.W.kitOne K (.ref (He.ga K (clsN c))) (.ref (He.ga K "BadSides")) = some (ys_BadSides.contains c))), (xall.all fun c => decide (PySem.W.kitOne K (.ref (He.ga K (clsN c))) (.ref (He.ga K "BadSluice")) = some (ys_BadSluice.contains c))), (xall.all fun c => decide (PySem.W.kitOne K (.ref (He.ga K (clsN c))) (.ref (He.ga K "BadWalk")) = some (ys_BadWalk.contains c))), (xall.all fun c => decide (PySem.W.kitOne K (.ref (He.ga K (clsN c))) (.ref (He.ga K "EndlessPlan")) = some (ys_EndlessPlan.contains c))), (xall.all fun c => decide (PySem.W.kitOne K (.ref (He.ga K (clsN c))) (.ref (He.ga K "HasLimits")) = some (ys_HasLimits.contains c))), (xall.all fun c => decide (PySem.W.kitOne K (.ref (He.ga K (clsN c))) (.ref (He.ga K "Jammed")) = some (ys_Jammed.contains c))), (xall.all fun c => decide (PySem.W.kitOne K (.ref (He.ga K (clsN c))) (.ref (He.ga K "NoHistory")) = some (ys_NoHistory.contains c))), (xall.all fun c => decide (PySem.W.kitOne K (.ref (He.ga K (clsN c))) (.ref (He.ga K "NoSide")) = some (ys_NoSide.contains c))), (xall.all fun c => decide (PySem.W.kitOne K (.ref (He.ga K (clsN c))) (.ref (He.ga K "NoWay")) = some (ys_NoWay.contains c))), (xall.all fun c => decide (PySem.W.kitOne K (.ref (He.ga K (clsN c))) (.ref (He.ga K "NotRunning")) = some (ys_NotRunning.contains c))), (xall.all fun c => decide (PySem.W.kitOne K (.ref (He.ga K (clsN c))) (.ref (He.ga K "NothingRuns")) = some (ys_NothingRuns.contains c))), (xall.all fun c => decide (PySem.W.kitOne K (.ref (He.ga K (clsN c))) (.ref (He.ga K "NothingToUndo")) = some (ys_NothingToUndo.contains c))), (xall.all fun c => decide (PySem.W.kitOne K (.ref (He.ga K (clsN c))) (.ref (He.ga K "ValleysDiffer")) = some (ys_ValleysDiffer.contains c))), (xall.all fun c => decide (PySem.W.kitOne K (.ref (He.ga K (clsN c))) (.type "ValueError") = some (ys_ValueError.contains c))), (xall.all fun c => decide (PySem.W.kitOne K (.ref (He.ga K (clsN c))) (.ref (He.ga K "WouldStop")) = some (ys_WouldStop.contains c))), (([22] : List Nat).all fun c => decide (PySem.W.findIn K (.ref (He.ga K (clsN c))) "index" = some none) && (decide (fldN c = (["index"] : List Str)) && xall.contains c)), (([21] : List Nat).all fun c => decide (PySem.W.findIn K (.ref (He.ga K (clsN c))) "setting" = some none) && (decide (fldN c = (["setting"] : List Str)) && xall.contains c))]
def chk (K : PySem.W.Frag) : Bool := (ckl K).all id
structure Says (K : PySem.W.Frag) : Prop where
  d : He.SaysD fa fn K
  k : chk K = true
  g : (gt.map fun q => fnWA K (getAd K (He.ga K q.1) q.2.1)) = gt.map fun q => q.2.2.val
theorem Says.ck {K : PySem.W.Frag} (c : Says K) (i : Nat) {b : Bool} (h : (ckl K)[i]? = some b) : b = true := List.all_eq_true.mp c.k b (List.mem_of_getElem? h)
theorem Says.fn {K : PySem.W.Frag} (c : Says K) (i : Nat) {d : He.DefD} (h : LW.fn[i]? = some d := by rfl) : ∃ fd, FunD K d.name d.qual d.params d.body d.scope (d.dvs K) (d.kws K) (He.fAd K d.at_) fd := c.d.def_ i h
theorem Says.gta {K : PySem.W.Frag} (c : Says K) : ∀ q ∈ LW.gt, (okA K (getAd K (He.ga K q.1) q.2.1) q.2.2 && propB K (He.ga K q.1) q.2.1) = true := List.all_eq_true.mp (c.ck 2 rfl)
theorem Says.gt {K : PySem.W.Frag} (c : Says K) (i : Nat) {q : Str × Str × He.DefD} (h : LW.gt[i]? = some q := by rfl) : ∃ fd, FunD K q.2.2.name q.2.2.qual q.2.2.params q.2.2.body q.2.2.scope (q.2.2.dvs K) (q.2.2.kws K) (getAd K (He.ga K q.1) q.2.1) fd := by
  have e : (LW.gt.map fun q => fnWA K (getAd K (He.ga K q.1) q.2.1))[i]? = (LW.gt.map fun q => q.2.2.val)[i]? := by rw [c.g]
  rw [List.getElem?_map, List.getElem?_map, h] at e
  exact funA (Option.some.inj e) (He.ba (c.gta q (List.mem_of_getElem? h))).1
structure Hyp (K : PySem.W.Frag) (mg : Str → Option Value) : Prop where
  says : Says K
  ns : ∃ h : Heap, K.In h ∧ h.Ns mainGlobals mg
section
variable {K : PySem.W.Frag} {mg : Str → Option Value}
theorem glo__law_digits (hy : Hyp K mg) : mg "_law_digits" = some (.ref (He.ga K "_law_digits")) := let ⟨_, X, G⟩ := hy.ns; He.glo_ok X G (hy.says.d.fact 0 (f := .glo "_law_digits") rfl)
theorem glo_frozen (hy : Hyp K mg) : mg "frozen" = some (.ref (He.ga K "frozen")) := let ⟨_, X, G⟩ := hy.ns; He.glo_ok X G (hy.says.d.fact 1 (f := .glo "frozen") rfl)
theorem glo_bad_index (hy : Hyp K mg) : mg "bad_index" = some (.ref (He.ga K "bad_index")) := let ⟨_, X, G⟩ := hy.ns; He.glo_ok X G (hy.says.d.fact 2 (f := .glo "bad_index") rfl)
theorem glo_check_needs (hy : Hyp K mg) : mg "check_needs" = some (.ref (He.ga K "check_needs")) := let ⟨_, X, G⟩ := hy.ns; He.glo_ok X G (hy.says.d.fact 3 (f := .glo "check_needs") rfl)
theorem glo_check_limits (hy : Hyp K mg) : mg "check_limits" = some (.ref (He.ga K "check_limits")) := let ⟨_, X, G⟩ := hy.ns; He.glo_ok X G (hy.says.d.fact 4 (f := .glo "check_limits") rfl)
theorem glo_check_sides (hy : Hyp K mg) : mg "check_sides" = some (.ref (He.ga K "check_sides")) := let ⟨_, X, G⟩ := hy.ns; He.glo_ok X G (hy.says.d.fact 5 (f := .glo "check_sides") rfl)
theorem glo_check_pairs (hy : Hyp K mg) : mg "check_pairs" = some (.ref (He.ga K "check_pairs")) := let ⟨_, X, G⟩ := hy.ns; He.glo_ok X G (hy.says.d.fact 6 (f := .glo "check_pairs") rfl)
theorem glo__law_season (hy : Hyp K mg) : mg "_law_season" = some (.ref (He.ga K "_law_season")) := let ⟨_, X, G⟩ := hy.ns; He.glo_ok X G (hy.says.d.fact 7 (f := .glo "_law_season") rfl)
theorem glo__law_turn (hy : Hyp K mg) : mg "_law_turn" = some (.ref (He.ga K "_law_turn")) := let ⟨_, X, G⟩ := hy.ns; He.glo_ok X G (hy.says.d.fact 8 (f := .glo "_law_turn") rfl)
theorem glo__law_fed (hy : Hyp K mg) : mg "_law_fed" = some (.ref (He.ga K "_law_fed")) := let ⟨_, X, G⟩ := hy.ns; He.glo_ok X G (hy.says.d.fact 9 (f := .glo "_law_fed") rfl)
theorem glo__law_runs (hy : Hyp K mg) : mg "_law_runs" = some (.ref (He.ga K "_law_runs")) := let ⟨_, X, G⟩ := hy.ns; He.glo_ok X G (hy.says.d.fact 10 (f := .glo "_law_runs") rfl)
theorem glo__law_drawn_turns (hy : Hyp K mg) : mg "_law_drawn_turns" = some (.ref (He.ga K "_law_drawn_turns")) := let ⟨_, X, G⟩ := hy.ns; He.glo_ok X G (hy.says.d.fact 11 (f := .glo "_law_drawn_turns") rfl)
theorem glo__law_visited (hy : Hyp K mg) : mg "_law_visited" = some (.ref (He.ga K "_law_visited")) := let ⟨_, X, G⟩ := hy.ns; He.glo_ok X G (hy.says.d.fact 12 (f := .glo "_law_visited") rfl)
theorem glo__law_form (hy : Hyp K mg) : mg "_law_form" = some (.ref (He.ga K "_law_form")) := let ⟨_, X, G⟩ := hy.ns; He.glo_ok X G (hy.says.d.fact 13 (f := .glo "_law_form") rfl)
theorem glo__law_truth (hy : Hyp K mg) : mg "_law_truth" = some (.ref (He.ga K "_law_truth")) := let ⟨_, X, G⟩ := hy.ns; He.glo_ok X G (hy.says.d.fact 14 (f := .glo "_law_truth") rfl)
theorem glo__law_whole (hy : Hyp K mg) : mg "_law_whole" = some (.ref (He.ga K "_law_whole")) := let ⟨_, X, G⟩ := hy.ns; He.glo_ok X G (hy.says.d.fact 15 (f := .glo "_law_whole") rfl)
theorem glo__law_same (hy : Hyp K mg) : mg "_law_same" = some (.ref (He.ga K "_law_same")) := let ⟨_, X, G⟩ := hy.ns; He.glo_ok X G (hy.says.d.fact 16 (f := .glo "_law_same") rfl)
theorem glo_require_running (hy : Hyp K mg) : mg "require_running" = some (.ref (He.ga K "require_running")) := let ⟨_, X, G⟩ := hy.ns; He.glo_ok X G (hy.says.d.fact 17 (f := .glo "require_running") rfl)
theorem glo_flipped (hy : Hyp K mg) : mg "flipped" = some (.ref (He.ga K "flipped")) := let ⟨_, X, G⟩ := hy.ns; He.glo_ok X G (hy.says.d.fact 18 (f := .glo "flipped") rfl)
theorem glo_follow (hy : Hyp K mg) : mg "follow" = some (.ref (He.ga K "follow")) := let ⟨_, X, G⟩ := hy.ns; He.glo_ok X G (hy.says.d.fact 19 (f := .glo "follow") rfl)
theorem glo__law_same_rows (hy : Hyp K mg) : mg "_law_same_rows" = some (.ref (He.ga K "_law_same_rows")) := let ⟨_, X, G⟩ := hy.ns; He.glo_ok X G (hy.says.d.fact 20 (f := .glo "_law_same_rows") rfl)
theorem glo__law_followed (hy : Hyp K mg) : mg "_law_followed" = some (.ref (He.ga K "_law_followed")) := let ⟨_, X, G⟩ := hy.ns; He.glo_ok X G (hy.says.d.fact 21 (f := .glo "_law_followed") rfl)
theorem glo_turnable (hy : Hyp K mg) : mg "turnable" = some (.ref (He.ga K "turnable")) := let ⟨_, X, G⟩ := hy.ns; He.glo_ok X G (hy.says.d.fact 22 (f := .glo "turnable") rfl)
theorem glo__law_turnable (hy : Hyp K mg) : mg "_law_turnable" = some (.ref (He.ga K "_law_turnable")) := let ⟨_, X, G⟩ := hy.ns; He.glo_ok X G (hy.says.d.fact 23 (f := .glo "_law_turnable") rfl)
theorem glo_is_walk (hy : Hyp K mg) : mg "is_walk" = some (.ref (He.ga K "is_walk")) := let ⟨_, X, G⟩ := hy.ns; He.glo_ok X G (hy.says.d.fact 24 (f := .glo "is_walk") rfl)
theorem glo__law_asked (hy : Hyp K mg) : mg "_law_asked" = some (.ref (He.ga K "_law_asked")) := let ⟨_, X, G⟩ := hy.ns; He.glo_ok X G (hy.says.d.fact 25 (f := .glo "_law_asked") rfl)
theorem glo__law_cell (hy : Hyp K mg) : mg "_law_cell" = some (.ref (He.ga K "_law_cell")) := let ⟨_, X, G⟩ := hy.ns; He.glo_ok X G (hy.says.d.fact 26 (f := .glo "_law_cell") rfl)
theorem glo__law_far (hy : Hyp K mg) : mg "_law_far" = some (.ref (He.ga K "_law_far")) := let ⟨_, X, G⟩ := hy.ns; He.glo_ok X G (hy.says.d.fact 27 (f := .glo "_law_far") rfl)
theorem glo__law_valley (hy : Hyp K mg) : mg "_law_valley" = some (.ref (He.ga K "_law_valley")) := let ⟨_, X, G⟩ := hy.ns; He.glo_ok X G (hy.says.d.fact 28 (f := .glo "_law_valley") rfl)
theorem glo__law_world (hy : Hyp K mg) : mg "_law_world" = some (.ref (He.ga K "_law_world")) := let ⟨_, X, G⟩ := hy.ns; He.glo_ok X G (hy.says.d.fact 29 (f := .glo "_law_world") rfl)
theorem glo__law_drawn (hy : Hyp K mg) : mg "_law_drawn" = some (.ref (He.ga K "_law_drawn")) := let ⟨_, X, G⟩ := hy.ns; He.glo_ok X G (hy.says.d.fact 30 (f := .glo "_law_drawn") rfl)
theorem glo__law_mirrored (hy : Hyp K mg) : mg "_law_mirrored" = some (.ref (He.ga K "_law_mirrored")) := let ⟨_, X, G⟩ := hy.ns; He.glo_ok X G (hy.says.d.fact 31 (f := .glo "_law_mirrored") rfl)
theorem glo__law_either (hy : Hyp K mg) : mg "_law_either" = some (.ref (He.ga K "_law_either")) := let ⟨_, X, G⟩ := hy.ns; He.glo_ok X G (hy.says.d.fact 32 (f := .glo "_law_either") rfl)
theorem glo__law_settings (hy : Hyp K mg) : mg "_law_settings" = some (.ref (He.ga K "_law_settings")) := let ⟨_, X, G⟩ := hy.ns; He.glo_ok X G (hy.says.d.fact 33 (f := .glo "_law_settings") rfl)
theorem glo__law_running (hy : Hyp K mg) : mg "_law_running" = some (.ref (He.ga K "_law_running")) := let ⟨_, X, G⟩ := hy.ns; He.glo_ok X G (hy.says.d.fact 34 (f := .glo "_law_running") rfl)
theorem glo__law_lively (hy : Hyp K mg) : mg "_law_lively" = some (.ref (He.ga K "_law_lively")) := let ⟨_, X, G⟩ := hy.ns; He.glo_ok X G (hy.says.d.fact 35 (f := .glo "_law_lively") rfl)
theorem glo__law_barred (hy : Hyp K mg) : mg "_law_barred" = some (.ref (He.ga K "_law_barred")) := let ⟨_, X, G⟩ := hy.ns; He.glo_ok X G (hy.says.d.fact 36 (f := .glo "_law_barred") rfl)
theorem glo__law_loosened (hy : Hyp K mg) : mg "_law_loosened" = some (.ref (He.ga K "_law_loosened")) := let ⟨_, X, G⟩ := hy.ns; He.glo_ok X G (hy.says.d.fact 37 (f := .glo "_law_loosened") rfl)
theorem glo__law_sibling (hy : Hyp K mg) : mg "_law_sibling" = some (.ref (He.ga K "_law_sibling")) := let ⟨_, X, G⟩ := hy.ns; He.glo_ok X G (hy.says.d.fact 38 (f := .glo "_law_sibling") rfl)
theorem glo_law (hy : Hyp K mg) : mg "law" = some (.ref (He.ga K "law")) := let ⟨_, X, G⟩ := hy.ns; He.glo_ok X G (hy.says.d.fact 39 (f := .glo "law") rfl)
theorem glo_Season (hy : Hyp K mg) : mg "Season" = some (.ref (He.ga K "Season")) := let ⟨_, X, G⟩ := hy.ns; He.glo_ok X G (hy.says.d.fact 40 (f := .glo "Season") rfl)
theorem glo_Valley (hy : Hyp K mg) : mg "Valley" = some (.ref (He.ga K "Valley")) := let ⟨_, X, G⟩ := hy.ns; He.glo_ok X G (hy.says.d.fact 41 (f := .glo "Valley") rfl)
theorem glo_BadFollow (hy : Hyp K mg) : mg "BadFollow" = some (.ref (He.ga K "BadFollow")) := let ⟨_, X, G⟩ := hy.ns; He.glo_ok X G (hy.says.d.fact 42 (f := .glo "BadFollow") rfl)
theorem glo_BadLimit (hy : Hyp K mg) : mg "BadLimit" = some (.ref (He.ga K "BadLimit")) := let ⟨_, X, G⟩ := hy.ns; He.glo_ok X G (hy.says.d.fact 43 (f := .glo "BadLimit") rfl)
theorem glo_BadMove (hy : Hyp K mg) : mg "BadMove" = some (.ref (He.ga K "BadMove")) := let ⟨_, X, G⟩ := hy.ns; He.glo_ok X G (hy.says.d.fact 44 (f := .glo "BadMove") rfl)
theorem glo_BadNeed (hy : Hyp K mg) : mg "BadNeed" = some (.ref (He.ga K "BadNeed")) := let ⟨_, X, G⟩ := hy.ns; He.glo_ok X G (hy.says.d.fact 45 (f := .glo "BadNeed") rfl)
theorem glo_BadNote (hy : Hyp K mg) : mg "BadNote" = some (.ref (He.ga K "BadNote")) := let ⟨_, X, G⟩ := hy.ns; He.glo_ok X G (hy.says.d.fact 46 (f := .glo "BadNote") rfl)
theorem glo_BadSides (hy : Hyp K mg) : mg "BadSides" = some (.ref (He.ga K "BadSides")) := let ⟨_, X, G⟩ := hy.ns; He.glo_ok X G (hy.says.d.fact 47 (f := .glo "BadSides") rfl)
theorem glo_BadSluice (hy : Hyp K mg) : mg "BadSluice" = some (.ref (He.ga K "BadSluice")) := let ⟨_, X, G⟩ := hy.ns; He.glo_ok X G (hy.says.d.fact 48 (f := .glo "BadSluice") rfl)
theorem glo_BadWalk (hy : Hyp K mg) : mg "BadWalk" = some (.ref (He.ga K "BadWalk")) := let ⟨_, X, G⟩ := hy.ns; He.glo_ok X G (hy.says.d.fact 49 (f := .glo "BadWalk") rfl)
theorem glo_EndlessPlan (hy : Hyp K mg) : mg "EndlessPlan" = some (.ref (He.ga K "EndlessPlan")) := let ⟨_, X, G⟩ := hy.ns; He.glo_ok X G (hy.says.d.fact 50 (f := .glo "EndlessPlan") rfl)
theorem glo_HasLimits (hy : Hyp K mg) : mg "HasLimits" = some (.ref (He.ga K "HasLimits")) := let ⟨_, X, G⟩ := hy.ns; He.glo_ok X G (hy.says.d.fact 51 (f := .glo "HasLimits") rfl)
theorem glo_Jammed (hy : Hyp K mg) : mg "Jammed" = some (.ref (He.ga K "Jammed")) := let ⟨_, X, G⟩ := hy.ns; He.glo_ok X G (hy.says.d.fact 52 (f := .glo "Jammed") rfl)
theorem glo_NoHistory (hy : Hyp K mg) : mg "NoHistory" = some (.ref (He.ga K "NoHistory")) := let ⟨_, X, G⟩ := hy.ns; He.glo_ok X G (hy.says.d.fact 53 (f := .glo "NoHistory") rfl)
theorem glo_NoSide (hy : Hyp K mg) : mg "NoSide" = some (.ref (He.ga K "NoSide")) := let ⟨_, X, G⟩ := hy.ns; He.glo_ok X G (hy.says.d.fact 54 (f := .glo "NoSide") rfl)
theorem glo_NoWay (hy : Hyp K mg) : mg "NoWay" = some (.ref (He.ga K "NoWay")) := let ⟨_, X, G⟩ := hy.ns; He.glo_ok X G (hy.says.d.fact 55 (f := .glo "NoWay") rfl)
theorem glo_NotRunning (hy : Hyp K mg) : mg "NotRunning" = some (.ref (He.ga K "NotRunning")) := let ⟨_, X, G⟩ := hy.ns; He.glo_ok X G (hy.says.d.fact 56 (f := .glo "NotRunning") rfl)
theorem glo_NothingRuns (hy : Hyp K mg) : mg "NothingRuns" = some (.ref (He.ga K "NothingRuns")) := let ⟨_, X, G⟩ := hy.ns; He.glo_ok X G (hy.says.d.fact 57 (f := .glo "NothingRuns") rfl)
theorem glo_NothingToUndo (hy : Hyp K mg) : mg "NothingToUndo" = some (.ref (He.ga K "NothingToUndo")) := let ⟨_, X, G⟩ := hy.ns; He.glo_ok X G (hy.says.d.fact 58 (f := .glo "NothingToUndo") rfl)
theorem glo_SluiceError (hy : Hyp K mg) : mg "SluiceError" = some (.ref (He.ga K "SluiceError")) := let ⟨_, X, G⟩ := hy.ns; He.glo_ok X G (hy.says.d.fact 59 (f := .glo "SluiceError") rfl)
theorem glo_ValleysDiffer (hy : Hyp K mg) : mg "ValleysDiffer" = some (.ref (He.ga K "ValleysDiffer")) := let ⟨_, X, G⟩ := hy.ns; He.glo_ok X G (hy.says.d.fact 60 (f := .glo "ValleysDiffer") rfl)
theorem glo_WouldStop (hy : Hyp K mg) : mg "WouldStop" = some (.ref (He.ga K "WouldStop")) := let ⟨_, X, G⟩ := hy.ns; He.glo_ok X G (hy.says.d.fact 61 (f := .glo "WouldStop") rfl)
theorem free_ValueError (hy : Hyp K mg) : mg "ValueError" = none := let ⟨_, X, G⟩ := hy.ns; He.free_ok X G (hy.says.d.fact 62 (f := .free "ValueError") rfl)
theorem free_bool (hy : Hyp K mg) : mg "bool" = none := let ⟨_, X, G⟩ := hy.ns; He.free_ok X G (hy.says.d.fact 63 (f := .free "bool") rfl)
theorem free_enumerate (hy : Hyp K mg) : mg "enumerate" = none := let ⟨_, X, G⟩ := hy.ns; He.free_ok X G (hy.says.d.fact 64 (f := .free "enumerate") rfl)
theorem free_int (hy : Hyp K mg) : mg "int" = none := let ⟨_, X, G⟩ := hy.ns; He.free_ok X G (hy.says.d.fact 65 (f := .free "int") rfl)
theorem free_isinstance (hy : Hyp K mg) : mg "isinstance" = none := let ⟨_, X, G⟩ := hy.ns; He.free_ok X G (hy.says.d.fact 66 (f := .free "isinstance") rfl)
theorem free_len (hy : Hyp K mg) : mg "len" = none := let ⟨_, X, G⟩ := hy.ns; He.free_ok X G (hy.says.d.fact 67 (f := .free "len") rfl)
theorem free_list (hy : Hyp K mg) : mg "list" = none := let ⟨_, X, G⟩ := hy.ns; He.free_ok X G (hy.says.d.fact 68 (f := .free "list") rfl)
theorem free_max (hy : Hyp K mg) : mg "max" = none := let ⟨_, X, G⟩ := hy.ns; He.free_ok X G (hy.says.d.fact 69 (f := .free "max") rfl)
theorem free_min (hy : Hyp K mg) : mg "min" = none := let ⟨_, X, G⟩ := hy.ns; He.free_ok X G (hy.says.d.fact 70 (f := .free "min") rfl)
theorem free_range (hy : Hyp K mg) : mg "range" = none := let ⟨_, X, G⟩ := hy.ns; He.free_ok X G (hy.says.d.fact 71 (f := .free "range") rfl)
theorem free_tuple (hy : Hyp K mg) : mg "tuple" = none := let ⟨_, X, G⟩ := hy.ns; He.free_ok X G (hy.says.d.fact 72 (f := .free "tuple") rfl)
theorem free_zip (hy : Hyp K mg) : mg "zip" = none := let ⟨_, X, G⟩ := hy.ns; He.free_ok X G (hy.says.d.fact 73 (f := .free "zip") rfl)
theorem cls_Season (hy : Hyp K mg) : Cls K (He.ga K "Season") := He.cls_ok (hy.says.d.fact 74 (f := .cls "Season") rfl)
theorem cls_Valley (hy : Hyp K mg) : Cls K (He.ga K "Valley") := He.cls_ok (hy.says.d.fact 75 (f := .cls "Valley") rfl)
theorem noat_Season_limits (hy : Hyp K mg) : NoAttr K (He.ga K "Season") "limits" := He.noat_ok (hy.says.d.fact 76 (f := .noat "Season" "limits") rfl)
theorem fld_Season_limits (hy : Hyp K mg) : Fld (tab K) 6 2 "limits" := ⟨cls_Season hy, noat_Season_limits hy, rfl, (show ¬ ("limits" : Str) ∈ List.take 2 (fldN 6) by decide), (show (fldN 6).length ≤ 900 by decide)⟩
theorem noat_Season_needs (hy : Hyp K mg) : NoAttr K (He.ga K "Season") "needs" := He.noat_ok (hy.says.d.fact 77 (f := .noat "Season" "needs") rfl)
theorem fld_Season_needs (hy : Hyp K mg) : Fld (tab K) 6 1 "needs" := ⟨cls_Season hy, noat_Season_needs hy, rfl, (show ¬ ("needs" : Str) ∈ List.take 1 (fldN 6) by decide), (show (fldN 6).length ≤ 900 by decide)⟩
theorem noat_Season_sides (hy : Hyp K mg) : NoAttr K (He.ga K "Season") "sides" := He.noat_ok (hy.says.d.fact 78 (f := .noat "Season" "sides") rfl)
theorem fld_Season_sides (hy : Hyp K mg) : Fld (tab K) 6 3 "sides" := ⟨cls_Season hy, noat_Season_sides hy, rfl, (show ¬ ("sides" : Str) ∈ List.take 3 (fldN 6) by decide), (show (fldN 6).length ≤ 900 by decide)⟩
theorem noat_Season_valley (hy : Hyp K mg) : NoAttr K (He.ga K "Season") "valley" := He.noat_ok (hy.says.d.fact 79 (f := .noat "Season" "valley") rfl)
theorem fld_Season_valley (hy : Hyp K mg) : Fld (tab K) 6 0 "valley" := ⟨cls_Season hy, noat_Season_valley hy, rfl, (show ¬ ("valley" : Str) ∈ List.take 0 (fldN 6) by decide), (show (fldN 6).length ≤ 900 by decide)⟩
theorem noat_Valley_mills (hy : Hyp K mg) : NoAttr K (He.ga K "Valley") "mills" := He.noat_ok (hy.says.d.fact 80 (f := .noat "Valley" "mills") rfl)
theorem fld_Valley_mills (hy : Hyp K mg) : Fld (tab K) 7 0 "mills" := ⟨cls_Valley hy, noat_Valley_mills hy, rfl, (show ¬ ("mills" : Str) ∈ List.take 0 (fldN 7) by decide), (show (fldN 7).length ≤ 900 by decide)⟩
theorem noat_Valley_sluices (hy : Hyp K mg) : NoAttr K (He.ga K "Valley") "sluices" := He.noat_ok (hy.says.d.fact 81 (f := .noat "Valley" "sluices") rfl)
theorem fld_Valley_sluices (hy : Hyp K mg) : Fld (tab K) 7 1 "sluices" := ⟨cls_Valley hy, noat_Valley_sluices hy, rfl, (show ¬ ("sluices" : Str) ∈ List.take 1 (fldN 7) by decide), (show (fldN 7).length ≤ 900 by decide)⟩
theorem mk_Season (hy : Hyp K mg) : Mk K (He.ga K "Season") (He.ma K (He.ga K "Season") "__init__") := He.mkr_ok (hy.says.d.fact 82 (f := .mkr "Season") rfl)
theorem mk_Valley (hy : Hyp K mg) : Mk K (He.ga K "Valley") (He.ma K (He.ga K "Valley") "__init__") := He.mkr_ok (hy.says.d.fact 83 (f := .mkr "Valley") rfl)
theorem meth_Season__contains (hy : Hyp K mg) : Meth K (He.ga K "Season") "__contains__" (He.ma K (He.ga K "Season") "__contains__") := He.meth_ok (hy.says.d.fact 84 (f := .meth "Season" "__contains__") rfl)
theorem mi_Season__contains (hy : Hyp K mg) : MethI (tab K) 6 "__contains__" (He.ma K (He.ga K "Season") "__contains__") := ⟨cls_Season hy, meth_Season__contains hy, (show ¬ ("__contains__" : Str) ∈ fldN 6 by decide)⟩
theorem con_BOTH (hy : Hyp K mg) : ∃ u v, mg "BOTH" = some u ∧ RelV v u ∧ ∀ H, Is (tab K) H v c_BOTH := let ⟨_, X, G⟩ := hy.ns; kC_ok (T := tab K) X G (hy.says.ck 0 rfl)
theorem con_LET_SIDES (hy : Hyp K mg) : ∃ u v, mg "LET_SIDES" = some u ∧ RelV v u ∧ ∀ H, Is (tab K) H v c_LET_SIDES := let ⟨_, X, G⟩ := hy.ns; kC_ok (T := tab K) X G (hy.says.ck 1 rfl)
theorem oex_NotRunning (hy : Hyp K mg) : OexC K (He.ga K "NotRunning") := oexB_ok (hy.says.ck 3 rfl)
theorem xin_NotRunning (hy : Hyp K mg) : PySem.W.findIn K (.ref (He.ga K "NotRunning")) "__init__" = some (some (.ref (He.fAd K d_NotRunning__init.at_))) ∧ PySem.W.typeIn K (.ref (He.fAd K d_NotRunning__init.at_)) = some (.type "function") := let z := He.ba (hy.says.ck 4 rfl); ⟨of_decide_eq_true z.1, of_decide_eq_true z.2⟩
theorem xno_NotRunning (hy : Hyp K mg) : PySem.W.findIn K (.ref (He.ga K "NotRunning")) "setting" = some none := of_decide_eq_true (hy.says.ck 5 rfl)
theorem oex_BadWalk (hy : Hyp K mg) : OexC K (He.ga K "BadWalk") := oexB_ok (hy.says.ck 6 rfl)
theorem xin_BadWalk (hy : Hyp K mg) : PySem.W.findIn K (.ref (He.ga K "BadWalk")) "__init__" = some (some (.ref (He.fAd K d_BadWalk__init.at_))) ∧ PySem.W.typeIn K (.ref (He.fAd K d_BadWalk__init.at_)) = some (.type "function") := let z := He.ba (hy.says.ck 7 rfl); ⟨of_decide_eq_true z.1, of_decide_eq_true z.2⟩
theorem xno_BadWalk (hy : Hyp K mg) : PySem.W.findIn K (.ref (He.ga K "BadWalk")) "index" = some none := of_decide_eq_true (hy.says.ck 8 rfl)
theorem exk_ok (hy : Hyp K mg) : ∀ c ∈ xall, ExK (tab K).K ((tab K).cls c) := fun c hc => exkB_ok (List.all_eq_true.mp (hy.says.ck 9 rfl) c hc)
theorem exm_SluiceError (hy : Hyp K mg) : ∀ c ∈ xs_SluiceError, PySem.W.exmOne (tab K).K (.ref ((tab K).cls c)) (.ref (He.ga K "SluiceError")) = some true := fun c hc => of_decide_eq_true (List.all_eq_true.mp (hy.says.ck 10 rfl) c hc)
theorem kx_BadFollow (hy : Hyp K mg) : ∀ c ∈ xall, ExK (tab K).K ((tab K).cls c) ∧ PySem.W.kitOne (tab K).K (.ref ((tab K).cls c)) (.ref (He.ga K "BadFollow")) = some (ys_BadFollow.contains c) := fun c hc => ⟨exk_ok hy c hc, of_decide_eq_true (List.all_eq_true.mp (hy.says.ck 11 rfl) c hc)⟩
theorem kx_BadLimit (hy : Hyp K mg) : ∀ c ∈ xall, ExK (tab K).K ((tab K).cls c) ∧ PySem.W.kitOne (tab K).K (.ref ((tab K).cls c)) (.ref (He.ga K "BadLimit")) = some (ys_BadLimit.contains c) := fun c hc => ⟨exk_ok hy c hc, of_decide_eq_true (List.all_eq_true.mp (hy.says.ck 12 rfl) c hc)⟩
theorem kx_BadMove (hy : Hyp K mg) : ∀ c ∈ xall, ExK (tab K).K ((tab K).cls c) ∧ PySem.W.kitOne (tab K).K (.ref ((tab K).cls c)) (.ref (He.ga K "BadMove")) = some (ys_BadMove.contains c) := fun c hc => ⟨exk_ok hy c hc, of_decide_eq_true (List.all_eq_true.mp (hy.says.ck 13 rfl) c hc)⟩
theorem kx_BadNeed (hy : Hyp K mg) : ∀ c ∈ xall, ExK (tab K).K ((tab K).cls c) ∧ PySem.W.kitOne (tab K).K (.ref ((tab K).cls c)) (.ref (He.ga K "BadNeed")) = some (ys_BadNeed.contains c) := fun c hc => ⟨exk_ok hy c hc, of_decide_eq_true (List.all_eq_true.mp (hy.says.ck 14 rfl) c hc)⟩
theorem kx_BadNote (hy : Hyp K mg) : ∀ c ∈ xall, ExK (tab K).K ((tab K).cls c) ∧ PySem.W.kitOne (tab K).K (.ref ((tab K).cls c)) (.ref (He.ga K "BadNote")) = some (ys_BadNote.contains c) := fun c hc => ⟨exk_ok hy c hc, of_decide_eq_true (List.all_eq_true.mp (hy.says.ck 15 rfl) c hc)⟩
theorem kx_BadSides (hy : Hyp K mg) : ∀ c ∈ xall, ExK (tab K).K ((tab K).cls c) ∧ PySem.W.kitOne (tab K).K (.ref ((tab K).cls c)) (.ref (He.ga K "BadSides")) = some (ys_BadSides.contains c) := fun c hc => ⟨exk_ok hy c hc, of_decide_eq_true (List.all_eq_true.mp (hy.says.ck 16 rfl) c hc)⟩
theorem kx_BadSluice (hy : Hyp K mg) : ∀ c ∈ xall, ExK (tab K).K ((tab K).cls c) ∧ PySem.W.kitOne (tab K).K (.ref ((tab K).cls c)) (.ref (He.ga K "BadSluice")) = some (ys_BadSluice.contains c) := fun c hc => ⟨exk_ok hy c hc, of_decide_eq_true (List.all_eq_true.mp (hy.says.ck 17 rfl) c hc)⟩
theorem kx_BadWalk (hy : Hyp K mg) : ∀ c ∈ xall, ExK (tab K).K ((tab K).cls c) ∧ PySem.W.kitOne (tab K).K (.ref ((tab K).cls c)) (.ref (He.ga K "BadWalk")) = some (ys_BadWalk.contains c) := fun c hc => ⟨exk_ok hy c hc, of_decide_eq_true (List.all_eq_true.mp (hy.says.ck 18 rfl) c hc)⟩
theorem kx_EndlessPlan (hy : Hyp K mg) : ∀ c ∈ xall, ExK (tab K).K ((tab K).cls c) ∧ PySem.W.kitOne (tab K).K (.ref ((tab K).cls c)) (.ref (He.ga K "EndlessPlan")) = some (ys_EndlessPlan.contains c) := fun c hc => ⟨exk_ok hy c hc, of_decide_eq_true (List.all_eq_true.mp (hy.says.ck 19 rfl) c hc)⟩
theorem kx_HasLimits (hy : Hyp K mg) : ∀ c ∈ xall, ExK (tab K).K ((tab K).cls c) ∧ PySem.W.kitOne (tab K).K (.ref ((tab K).cls c)) (.ref (He.ga K "HasLimits")) = some (ys_HasLimits.contains c) := fun c hc => ⟨exk_ok hy c hc, of_decide_eq_true (List.all_eq_true.mp (hy.says.ck 20 rfl) c hc)⟩
theorem kx_Jammed (hy : Hyp K mg) : ∀ c ∈ xall, ExK (tab K).K ((tab K).cls c) ∧ PySem.W.kitOne (tab K).K (.ref ((tab K).cls c)) (.ref (He.ga K "Jammed")) = some (ys_Jammed.contains c) := fun c hc => ⟨exk_ok hy c hc, of_decide_eq_true (List.all_eq_true.mp (hy.says.ck 21 rfl) c hc)⟩
theorem kx_NoHistory (hy : Hyp K mg) : ∀ c ∈ xall, ExK (tab K).K ((tab K).cls c) ∧ PySem.W.kitOne (tab K).K (.ref ((tab K).cls c)) (.ref (He.ga K "NoHistory")) = some (ys_NoHistory.contains c) := fun c hc => ⟨exk_ok hy c hc, of_decide_eq_true (List.all_eq_true.mp (hy.says.ck 22 rfl) c hc)⟩
theorem kx_NoSide (hy : Hyp K mg) : ∀ c ∈ xall, ExK (tab K).K ((tab K).cls c) ∧ PySem.W.kitOne (tab K).K (.ref ((tab K).cls c)) (.ref (He.ga K "NoSide")) = some (ys_NoSide.contains c) := fun c hc => ⟨exk_ok hy c hc, of_decide_eq_true (List.all_eq_true.mp (hy.says.ck 23 rfl) c hc)⟩
theorem kx_NoWay (hy : Hyp K mg) : ∀ c ∈ xall, ExK (tab K).K ((tab K).cls c) ∧ PySem.W.kitOne (tab K).K (.ref ((tab K).cls c)) (.ref (He.ga K "NoWay")) = some (ys_NoWay.contains c) := fun c hc => ⟨exk_ok hy c hc, of_decide_eq_true (List.all_eq_true.mp (hy.says.ck 24 rfl) c hc)⟩
theorem kx_NotRunning (hy : Hyp K mg) : ∀ c ∈ xall, ExK (tab K).K ((tab K).cls c) ∧ PySem.W.kitOne (tab K).K (.ref ((tab K).cls c)) (.ref (He.ga K "NotRunning")) = some (ys_NotRunning.contains c) := fun c hc => ⟨exk_ok hy c hc, of_decide_eq_true (List.all_eq_true.mp (hy.says.ck 25 rfl) c hc)⟩
theorem kx_NothingRuns (hy : Hyp K mg) : ∀ c ∈ xall, ExK (tab K).K ((tab K).cls c) ∧ PySem.W.kitOne (tab K).K (.ref ((tab K).cls c)) (.ref (He.ga K "NothingRuns")) = some (ys_NothingRuns.contains c) := fun c hc => ⟨exk_ok hy c hc, of_decide_eq_true (List.all_eq_true.mp (hy.says.ck 26 rfl) c hc)⟩
theorem kx_NothingToUndo (hy : Hyp K mg) : ∀ c ∈ xall, ExK (tab K).K ((tab K).cls c) ∧ PySem.W.kitOne (tab K).K (.ref ((tab K).cls c)) (.ref (He.ga K "NothingToUndo")) = some (ys_NothingToUndo.contains c) := fun c hc => ⟨exk_ok hy c hc, of_decide_eq_true (List.all_eq_true.mp (hy.says.ck 27 rfl) c hc)⟩
theorem kx_ValleysDiffer (hy : Hyp K mg) : ∀ c ∈ xall, ExK (tab K).K ((tab K).cls c) ∧ PySem.W.kitOne (tab K).K (.ref ((tab K).cls c)) (.ref (He.ga K "ValleysDiffer")) = some (ys_ValleysDiffer.contains c) := fun c hc => ⟨exk_ok hy c hc, of_decide_eq_true (List.all_eq_true.mp (hy.says.ck 28 rfl) c hc)⟩
theorem kx_ValueError (hy : Hyp K mg) : ∀ c ∈ xall, ExK (tab K).K ((tab K).cls c) ∧ PySem.W.kitOne (tab K).K (.ref ((tab K).cls c)) (.type "ValueError") = some (ys_ValueError.contains c) := fun c hc => ⟨exk_ok hy c hc, of_decide_eq_true (List.all_eq_true.mp (hy.says.ck 29 rfl) c hc)⟩
theorem kx_WouldStop (hy : Hyp K mg) : ∀ c ∈ xall, ExK (tab K).K ((tab K).cls c) ∧ PySem.W.kitOne (tab K).K (.ref ((tab K).cls c)) (.ref (He.ga K "WouldStop")) = some (ys_WouldStop.contains c) := fun c hc => ⟨exk_ok hy c hc, of_decide_eq_true (List.all_eq_true.mp (hy.says.ck 30 rfl) c hc)⟩
theorem xf_index (hy : Hyp K mg) : ∀ c ∈ ([22] : List Nat), ExK (tab K).K ((tab K).cls c) ∧ PySem.W.findIn (tab K).K (.ref ((tab K).cls c)) "index" = some none ∧ (tab K).flds c = (["index"] : List Str) := fun c hc => let z := He.ba (List.all_eq_true.mp (hy.says.ck 31 rfl) c hc); let z2 := He.ba z.2; ⟨exk_ok hy c (List.contains_iff_mem.mp z2.2), of_decide_eq_true z.1, of_decide_eq_true z2.1⟩
theorem xf_setting (hy : Hyp K mg) : ∀ c ∈ ([21] : List Nat), ExK (tab K).K ((tab K).cls c) ∧ PySem.W.findIn (tab K).K (.ref ((tab K).cls c)) "setting" = some none ∧ (tab K).flds c = (["setting"] : List Str) := fun c hc => let z := He.ba (List.all_eq_true.mp (hy.says.ck 32 rfl) c hc); let z2 := He.ba z.2; ⟨exk_ok hy c (List.contains_iff_mem.mp z2.2), of_decide_eq_true z.1, of_decide_eq_true z2.1⟩
end
end LW
end

section
set_option maxHeartbeats 4000000
namespace LW
open PySem L2 EV
open PySem.Spec PyProof.Rows
def loose0 : List Str := ["_wall", "SluiceError", "BadSluice", "BadNeed", "BadLimit", "BadSides", "ValleysDiffer", "NothingRuns", "NotRunning", "BadWalk", "EndlessPlan", "BadFollow", "BadMove", "NoHistory", "HasLimits", "NoSide", "Jammed", "WouldStop", "NoWay", "NothingToUndo", "BadNote", "flipped", "frozen", "BOTH", "LET_SIDES", "bad_index", "check_needs", "check_limits", "check_sides", "smaller_limit"]
def loose1 : List Str := ["larger_limit", "common_sides", "joint_sides", "require_valley", "require_running", "Season", "follow", "is_walk", "turnable", "check_pairs", "Valley", "_law_whole", "_law_cell", "_law_digits", "_law_valley", "_law_fed", "_law_turn", "_law_runs", "_law_settings", "_law_world", "_law_running", "_law_same", "_law_season", "_law_drawn", "_law_mirrored", "_law_either", "_law_loosened", "_law_barred", "_law_sibling", "_law_lively"]
def loose2 : List Str := ["_law_form", "_law_truth", "_law_same_rows", "_law_far", "_law_drawn_turns", "_law_visited", "_law_followed", "_law_turnable", "_law_asked"]
def loose : List Str := loose0 ++ loose1 ++ loose2
abbrev RowL : PySem.W.OpenRow := PySem.W.OpenLaw.row PySem.Challenge.rw_millsluices_k13_walks_followed
abbrev AlG : Type := (He.AlD × Bool) × List He.FnW
def obA (K : PySem.W.Frag) : AlG := ((He.obsD fa fn K, chk K), gt.map fun q => fnWA K (getAd K (He.ga K q.1) q.2.1))
def nxtN (g : Addr → Option Obj) (a : Addr) : List Addr := match g a with
  | some o => (match o.data with
    | .seq its _ => its.toList.flatMap He.refV
    | .dict es _ => es.toList.flatMap fun e => He.refV e.val
    | .func fd => He.refV fd.code ++ (He.refV fd.defaults ++ He.refV fd.kwdefaults)
    | .cls cd => [cd.ns]
    | .fields vs => vs.toList.flatMap He.refV
    | _ => [])
  | none => []
def goN (g : Addr → Option Obj) : Nat → List Addr → List Addr
  | 0, l => l
  | n + 1, l => l ++ goN g n (l.flatMap (nxtN g))
def obG (n : Nat) (g : Addr → Option Obj) : AlG := obA (He.frG g (goN g n [mainGlobals]))
def valA : AlG := ((He.valD fn, true), gt.map fun q => q.2.2.val)
theorem of_A {K : PySem.W.Frag} (e : obA K = valA) : Says K := ⟨congrArg (fun z : AlG => z.1.1) e, congrArg (fun z : AlG => z.1.2) e, congrArg (fun z : AlG => z.2) e⟩
def hk : PySem.W.Hook where
  α := AlG
  obs := fun s => obG 5 s.heap.get?
  val := fun _ => valA
  says := fun _ h => ∃ K : PySem.W.Frag, K.In h ∧ Says K
  of := fun _ _ e => ⟨_, He.frG_in, of_A e⟩
  keeps := fun _ _ _ ⟨K, hK, c⟩ k => ⟨K, PySem.W.Frag.In.keeps hK k, c⟩
def ob (s : PySem.W.SharedT) : AlG := obG 5 (HandSHeadRun.getT s)
theorem ob_eq (s : PySem.W.SharedT) : ob s = hk.obs s.abs := by
  have e : HandSHeadRun.getT s = s.abs.heap.get? := funext fun a => HandSHeadRun.getT_eq s a
  show obG 5 (HandSHeadRun.getT s) = obG 5 s.abs.heap.get?
  rw [e]
theorem run (w : World) : HandSHeadRun.RunEq RowL (PySem.W.view RowL.prog [76]) hk ob 9000 loose w := by
  intro os
  kernel_rfl
end LW
end

section
set_option maxHeartbeats 4000000
/-! EV13: the end: a law's def whose promise may lean on the World. -/
namespace EV
open PySem PySem.Spec PyProof.Rows L2
theorem walk_end {l : PySem.W.OpenLaw} {n k : Nat} {q : Program} {loose : List Str} {XP : (Str → Option Value) → Heap → Prop} {YP : World → Heap → Prop} {d : DefRec} {x : Str} (C : World → CXT)
    (h1 : l.most = some n) (h2 : n ≤ sizeLine) (h3 : d.params.defaults = []) (h4 : Room k callerA)
    (F : ∀ (w : World) (mg : Str → Option Value) (fa : Addr) (h : Heap), YP w h → h.Ns mainGlobals mg → mg d.name = some (.ref fa) →
      ∃ (K : PySem.W.Frag) (fd : FuncData) (sp : Sp), K.In h ∧ (∀ (s : Shared) (u : Value), BindsTo s fd ⟨[u], []⟩ [(x, u)]) ∧
        (∀ (H : Hp) (a : Addr) (ms : List Int), ms.length ≤ n → SqL K H a (ms.map V.int) → sp [.ref a] H (fun v _ => v = .bl true) fun _ _ _ => False) ∧
        ∀ g : Heap, K.In g → g.Ns mainGlobals mg → FnOk l.prog w K mg g (C w) k fa fd [x] sp)
    (hC : ∀ (w : World) (H : Hp) (s : Shared) (e : Value) (s' : Shared), C w [] H s (fun _ _ _ => False) e s' → False) : PySem.W.WalkO q loose XP YP l.row.toRowW d [] (fun f vs => PySem.call f vs) := by
  refine Att.attach_call h1 h3 fun w sa sb mg mb fa o pm cd doc a vs ms G Y ho hd hcd hmg hobj hints hlen hg => ?_
  obtain ⟨K, fd, sp, KX, hb, hsp, hF⟩ := F w mg fa _ Y G.T.g hmg
  refine law_call KX G.T.g G.T.b G.T.builtins G.T.nolimit hg hobj hints (Nat.le_trans hlen h2) h4 hF hb ?_ ?_
  · exact fun H _ hS => hsp H a ms hlen hS
  · exact fun H e s' => hC w H sb e s'
end EV
end

section
set_option maxHeartbeats 4000000
namespace LW
open PySem L2 EV
theorem sc_law_digits : FnScope ["_law_cell_here", "_law_sizes", "_law_row", "_law_rest", "_law_size", "_law_seed", "_law_k", "_law_twice"] ["_law_cell_here", "_law_sizes"] (defScope st_law_digits) := ⟨rfl, rfl, rfl, by decide +kernel, rfl, by decide +kernel, by decide +kernel⟩
def g_law_digits : FS := gSeq (gOwn 2 (lenOk (aNil))) (gSeq (gSet 3 (vCall intD (aCons (vVar 0) (aNil)))) (gSeq (gIf (v2 geD (vVar 3) (v2 powD (vC (.int 10)) (vC (.int 18)))) (gSeq (gSet 3 (v2 subD (vVar 3) (v2 powD (vC (.int 10)) (vC (.int 18))))) (gSeq (gFor (iSeq (vVar 1)) (nmG 4) (gSeq (gAppO 2 (gApp 2 (v2 modD (vCall intD (aCons (vVar 3) (aNil))) (vVar 4)))) (gSet 3 (v2 fdivD (vCall intD (aCons (vVar 3) (aNil))) (vVar 4))))) (gRel 2 (gRet (vVar 2))))) (gNext)) (gSeq (gSet 5 (v2 modD (vCall intD (aCons (vVar 3) (aNil))) (vC (.int 2147483629)))) (gSeq (gFor (iRange1 (vCall lenD (aCons (vVar 1) (aNil)))) (nmG 6) (gSeq (gSet 5 (v2 modD (vCall intD (aCons (v2 addD (v2 addD (v2 mulD (vVar 5) (vC (.int 48271))) (v2 mulD (vC (.int 974711)) (vVar 6))) (vC (.int 12345))) (aNil))) (vC (.int 2147483647)))) (gSeq (gSet 7 (v2 modD (vCall intD (aCons (v2 mulD (vVar 5) (v2 addD (v2 fdivD (vVar 5) (vC (.int 65537))) (vC (.int 3)))) (aNil))) (vC (.int 2147483629)))) (gAppO 2 (gApp 2 (v2 modD (vCall intD (aCons (v2 fdivD (vVar 7) (vC (.int 19))) (aNil))) (v2 ixD (vVar 1) (vVar 6)))))))) (gRel 2 (gRet (vVar 2)))))))
def sem_law_digits : List D → Option R := semF 8 g_law_digits
theorem ok_law_digits {P : Program} {w : World} {K : PySem.W.Frag} {mg : Str → Option Value} {base : Heap} (hy : Hyp K mg) : ∃ fd, FunD K d_law_digits.name d_law_digits.qual d_law_digits.params d_law_digits.body d_law_digits.scope (d_law_digits.dvs K) (d_law_digits.kws K) (He.fAd K d_law_digits.at_) fd ∧ FnOk P w K mg base (L2N.CX P w) 1 (He.fAd K d_law_digits.at_) fd ["_law_cell_here", "_law_sizes"] (spF (tab K) 2 (sem_law_digits)) := by
  obtain ⟨fd, F⟩ := hy.says.fn (0) (d := d_law_digits) rfl
  exact ⟨fd, F, fn_ev F sc_law_digits fun cdv A outer s H E hr => (ss_cons (ss_own 2 (hN := sc_law_digits.nd) (he := en_lst (ea_nil))) (ss_cons (ss_set 3 (hN := sc_law_digits.nd) (he := ee_callT (hc := call_int1) (h := o_int) (hm := (free_int hy)) (hv := by decide +kernel) (ha := ea_cons (ee_var 0) (ea_nil)))) (ss_cons (ss_if (eb_ge (ha := ee_var 3) (hb := ee_pow (ha := ee_int) (hb := ee_int))) (ss_cons (ss_set 3 (hN := sc_law_digits.nd) (he := ee_sub (ha := ee_var 3) (hb := ee_pow (ha := ee_int) (hb := ee_int)))) (ss_cons (ss_for (hp := (passes_of rfl)) (hc := rfl) (hi := ei_seq (he := ee_var 1)) (hg := eg_name 4 sc_law_digits.nd) (hb := ss_cons (ss_app 2 (he := ee_mod (ha := ee_callT (hc := call_int1) (h := o_int) (hm := (free_int hy)) (hv := by decide +kernel) (ha := ea_cons (ee_var 3) (ea_nil))) (hb := ee_var 4))) (ss_one (ss_set 3 (hN := sc_law_digits.nd) (he := ee_fdiv (ha := ee_callT (hc := call_int1) (h := o_int) (hm := (free_int hy)) (hv := by decide +kernel) (ha := ea_cons (ee_var 3) (ea_nil))) (hb := ee_var 4)))))) (ss_one (ss_rel 2 (ss_ret (ee_var 2)))))) (ss_nil)) (ss_cons (ss_set 5 (hN := sc_law_digits.nd) (he := ee_mod (ha := ee_callT (hc := call_int1) (h := o_int) (hm := (free_int hy)) (hv := by decide +kernel) (ha := ea_cons (ee_var 3) (ea_nil))) (hb := ee_int))) (ss_cons (ss_for (hp := (passes_of rfl)) (hc := rfl) (hi := ei_range1 (hm := (free_range hy)) (ha := ee_callB (hc := call_len_seq) (h := (o_len rfl)) (hm := (free_len hy)) (hv := by decide +kernel) (ha := ea_cons (ee_var 1) (ea_nil)))) (hg := eg_name 6 sc_law_digits.nd) (hb := ss_cons (ss_set 5 (hN := sc_law_digits.nd) (he := ee_mod (ha := ee_callT (hc := call_int1) (h := o_int) (hm := (free_int hy)) (hv := by decide +kernel) (ha := ea_cons (ee_add (ha := ee_add (ha := ee_mul (ha := ee_var 5) (hb := ee_int)) (hb := ee_mul (ha := ee_int) (hb := ee_var 6))) (hb := ee_int)) (ea_nil))) (hb := ee_int))) (ss_cons (ss_set 7 (hN := sc_law_digits.nd) (he := ee_mod (ha := ee_callT (hc := call_int1) (h := o_int) (hm := (free_int hy)) (hv := by decide +kernel) (ha := ea_cons (ee_mul (ha := ee_var 5) (hb := ee_add (ha := ee_fdiv (ha := ee_var 5) (hb := ee_int)) (hb := ee_int))) (ea_nil))) (hb := ee_int))) (ss_one (ss_app 2 (he := ee_mod (ha := ee_callT (hc := call_int1) (h := o_int) (hm := (free_int hy)) (hv := by decide +kernel) (ha := ea_cons (ee_fdiv (ha := ee_var 7) (hb := ee_int)) (ea_nil))) (hb := ee_ix (ha := ee_var 1) (hb := ee_var 6)))))))) (ss_one (ss_rel 2 (ss_ret (ee_var 2)))))))))⟩
end LW
end

section
set_option maxHeartbeats 4000000
namespace LW
open PySem L2 EV
theorem sc_frozen : FnScope ["value", "item"] ["value"] (defScope st_frozen) := ⟨rfl, rfl, rfl, by decide +kernel, rfl, by decide +kernel, by decide +kernel⟩
def g_frozen (sm_frozen : List D → Option R) : FS := gSeq (gIf (v1 (isD [.lst, .tup]) (vVar 0)) (gRet (vCall tupleD (aCons (vL (nLc (iSeq (vVar 0)) (nmG 1) (vYes) (vCallP 1 0 [0] sm_frozen [] (aCons (vVar 1) (aNil)) (aNil)) [1])) (aNil)))) (gNext)) (gRet (vVar 0))
def sem_frozen_0 : List D → Option R := fun _ => none
def sem_frozen_1 : List D → Option R := semF 2 (g_frozen sem_frozen_0)
def sem_frozen_2 : List D → Option R := semF 2 (g_frozen sem_frozen_1)
def sem_frozen_3 : List D → Option R := semF 2 (g_frozen sem_frozen_2)
abbrev sem_frozen : List D → Option R := sem_frozen_3
theorem ok_frozen_0 {P : Program} {w : World} {K : PySem.W.Frag} {mg : Str → Option Value} {base : Heap} (hy : Hyp K mg) : ∃ fd, FunD K d_frozen.name d_frozen.qual d_frozen.params d_frozen.body d_frozen.scope (d_frozen.dvs K) (d_frozen.kws K) (He.fAd K d_frozen.at_) fd ∧ FnOk P w K mg base (L2N.CX P w) 0 (He.fAd K d_frozen.at_) fd ["value"] (spF (tab K) 1 (sem_frozen_0)) := by
  obtain ⟨fd, F⟩ := hy.says.fn (1) (d := d_frozen) rfl
  exact ⟨fd, F, fn_none⟩
theorem ok_frozen_1 {P : Program} {w : World} {K : PySem.W.Frag} {mg : Str → Option Value} {base : Heap} (hy : Hyp K mg) : ∃ fd, FunD K d_frozen.name d_frozen.qual d_frozen.params d_frozen.body d_frozen.scope (d_frozen.dvs K) (d_frozen.kws K) (He.fAd K d_frozen.at_) fd ∧ FnOk P w K mg base (L2N.CX P w) 1 (He.fAd K d_frozen.at_) fd ["value"] (spF (tab K) 1 (sem_frozen_1)) := by
  obtain ⟨fd_frozen, F_frozen, G_frozen⟩ := ok_frozen_0 (P := P) (w := w) (base := base) hy
  have ab_frozen_1_ : ArgB K fd_frozen ["value"] 1 [] [] [0] := ArgB.given F_frozen (fun kV doc pm an cdv ct us ws l1 l2 => match us, l1, ws, l2 with | [_], _, [], _ => rfl)
  exact ⟨fd_frozen, F_frozen, fn_ev F_frozen sc_frozen fun cdv A outer s H E hr => (ss_cons (ss_if (eb_val (ee_isiT [.lst, .tup] (h := (.cons (free_list hy) (by decide +kernel) (.cons (free_tuple hy) (by decide +kernel) .nil))) (hl := by decide) (hm := (free_isinstance hy)) (ha := ee_var 0))) (ss_one (ss_ret (ee_callT (hc := call_tuple_of) (h := (o_tuple rfl)) (hm := (free_tuple hy)) (hv := by decide +kernel) (ha := ea_cons (en_ee (en_lc (own := [("item", 1)]) (hc := rfl) (hN := sc_frozen.nd) (ok := blkOk_by (show blkC ["value", "item"] (defScope st_frozen) _ [("item", 1)] = true by decide +kernel)) (hsub := by decide) (hi := ei_seq (he := ee_var 0)) (hg := fun _ _ _ _ _ => eg_name 1 sc_frozen.nd) (ht := fun _ _ _ _ _ => et_nil) (he := fun _ _ _ _ _ => ee_callP (F := G_frozen) (hr := hr.mono (by decide)) (hm := glo_frozen hy) (hk := F_frozen.kp) (hb := ab_frozen_1_) (tk := takesN) (hp := rfl) (hmx := by decide) (hdd := fun _ => .nil) (ha := ea_cons (ee_var 1) (ea_nil)) (hkw := ek_nil)))) (ea_nil))))) (ss_nil)) (ss_one (ss_ret (ee_var 0))))⟩
theorem ok_frozen_2 {P : Program} {w : World} {K : PySem.W.Frag} {mg : Str → Option Value} {base : Heap} (hy : Hyp K mg) : ∃ fd, FunD K d_frozen.name d_frozen.qual d_frozen.params d_frozen.body d_frozen.scope (d_frozen.dvs K) (d_frozen.kws K) (He.fAd K d_frozen.at_) fd ∧ FnOk P w K mg base (L2N.CX P w) 2 (He.fAd K d_frozen.at_) fd ["value"] (spF (tab K) 1 (sem_frozen_2)) := by
  obtain ⟨fd_frozen, F_frozen, G_frozen⟩ := ok_frozen_1 (P := P) (w := w) (base := base) hy
  have ab_frozen_1_ : ArgB K fd_frozen ["value"] 1 [] [] [0] := ArgB.given F_frozen (fun kV doc pm an cdv ct us ws l1 l2 => match us, l1, ws, l2 with | [_], _, [], _ => rfl)
  exact ⟨fd_frozen, F_frozen, fn_ev F_frozen sc_frozen fun cdv A outer s H E hr => (ss_cons (ss_if (eb_val (ee_isiT [.lst, .tup] (h := (.cons (free_list hy) (by decide +kernel) (.cons (free_tuple hy) (by decide +kernel) .nil))) (hl := by decide) (hm := (free_isinstance hy)) (ha := ee_var 0))) (ss_one (ss_ret (ee_callT (hc := call_tuple_of) (h := (o_tuple rfl)) (hm := (free_tuple hy)) (hv := by decide +kernel) (ha := ea_cons (en_ee (en_lc (own := [("item", 1)]) (hc := rfl) (hN := sc_frozen.nd) (ok := blkOk_by (show blkC ["value", "item"] (defScope st_frozen) _ [("item", 1)] = true by decide +kernel)) (hsub := by decide) (hi := ei_seq (he := ee_var 0)) (hg := fun _ _ _ _ _ => eg_name 1 sc_frozen.nd) (ht := fun _ _ _ _ _ => et_nil) (he := fun _ _ _ _ _ => ee_callP (F := G_frozen) (hr := hr.mono (by decide)) (hm := glo_frozen hy) (hk := F_frozen.kp) (hb := ab_frozen_1_) (tk := takesN) (hp := rfl) (hmx := by decide) (hdd := fun _ => .nil) (ha := ea_cons (ee_var 1) (ea_nil)) (hkw := ek_nil)))) (ea_nil))))) (ss_nil)) (ss_one (ss_ret (ee_var 0))))⟩
theorem ok_frozen_3 {P : Program} {w : World} {K : PySem.W.Frag} {mg : Str → Option Value} {base : Heap} (hy : Hyp K mg) : ∃ fd, FunD K d_frozen.name d_frozen.qual d_frozen.params d_frozen.body d_frozen.scope (d_frozen.dvs K) (d_frozen.kws K) (He.fAd K d_frozen.at_) fd ∧ FnOk P w K mg base (L2N.CX P w) 3 (He.fAd K d_frozen.at_) fd ["value"] (spF (tab K) 1 (sem_frozen_3)) := by
  obtain ⟨fd_frozen, F_frozen, G_frozen⟩ := ok_frozen_2 (P := P) (w := w) (base := base) hy
  have ab_frozen_1_ : ArgB K fd_frozen ["value"] 1 [] [] [0] := ArgB.given F_frozen (fun kV doc pm an cdv ct us ws l1 l2 => match us, l1, ws, l2 with | [_], _, [], _ => rfl)
  exact ⟨fd_frozen, F_frozen, fn_ev F_frozen sc_frozen fun cdv A outer s H E hr => (ss_cons (ss_if (eb_val (ee_isiT [.lst, .tup] (h := (.cons (free_list hy) (by decide +kernel) (.cons (free_tuple hy) (by decide +kernel) .nil))) (hl := by decide) (hm := (free_isinstance hy)) (ha := ee_var 0))) (ss_one (ss_ret (ee_callT (hc := call_tuple_of) (h := (o_tuple rfl)) (hm := (free_tuple hy)) (hv := by decide +kernel) (ha := ea_cons (en_ee (en_lc (own := [("item", 1)]) (hc := rfl) (hN := sc_frozen.nd) (ok := blkOk_by (show blkC ["value", "item"] (defScope st_frozen) _ [("item", 1)] = true by decide +kernel)) (hsub := by decide) (hi := ei_seq (he := ee_var 0)) (hg := fun _ _ _ _ _ => eg_name 1 sc_frozen.nd) (ht := fun _ _ _ _ _ => et_nil) (he := fun _ _ _ _ _ => ee_callP (F := G_frozen) (hr := hr.mono (by decide)) (hm := glo_frozen hy) (hk := F_frozen.kp) (hb := ab_frozen_1_) (tk := takesN) (hp := rfl) (hmx := by decide) (hdd := fun _ => .nil) (ha := ea_cons (ee_var 1) (ea_nil)) (hkw := ek_nil)))) (ea_nil))))) (ss_nil)) (ss_one (ss_ret (ee_var 0))))⟩
theorem ok_frozen {P : Program} {w : World} {K : PySem.W.Frag} {mg : Str → Option Value} {base : Heap} (hy : Hyp K mg) : ∃ fd, FunD K d_frozen.name d_frozen.qual d_frozen.params d_frozen.body d_frozen.scope (d_frozen.dvs K) (d_frozen.kws K) (He.fAd K d_frozen.at_) fd ∧ FnOk P w K mg base (L2N.CX P w) 3 (He.fAd K d_frozen.at_) fd ["value"] (spF (tab K) 1 (sem_frozen)) := by
  exact ok_frozen_3 hy
end LW
end

section
set_option maxHeartbeats 4000000
namespace LW
open PySem L2 EV
theorem sc_bad_index : FnScope ["good", "many", "index", "is_good"] ["good", "many"] (defScope st_bad_index) := ⟨rfl, rfl, rfl, by decide +kernel, rfl, by decide +kernel, by decide +kernel⟩
def g_bad_index : FS := gSeq (gFor (iEnum (vVar 0)) (tupG (lenG 2 (consG (nmG 2) (consG (nmG 3) (nilG))))) (gIf (vOr (v2 geD (vVar 2) (vVar 1)) (v1 notD (vVar 3))) (gRet (vVar 2)) (gNext))) (gSeq (gIf (v2 ltD (vCall lenD (aCons (vVar 0) (aNil))) (vVar 1)) (gRet (vCall lenD (aCons (vVar 0) (aNil)))) (gNext)) (gRet (vC .non)))
def sem_bad_index : List D → Option R := semF 4 g_bad_index
theorem ok_bad_index {P : Program} {w : World} {K : PySem.W.Frag} {mg : Str → Option Value} {base : Heap} (hy : Hyp K mg) : ∃ fd, FunD K d_bad_index.name d_bad_index.qual d_bad_index.params d_bad_index.body d_bad_index.scope (d_bad_index.dvs K) (d_bad_index.kws K) (He.fAd K d_bad_index.at_) fd ∧ FnOk P w K mg base (L2N.CX P w) 1 (He.fAd K d_bad_index.at_) fd ["good", "many"] (spF (tab K) 2 (sem_bad_index)) := by
  obtain ⟨fd, F⟩ := hy.says.fn (2) (d := d_bad_index) rfl
  exact ⟨fd, F, fn_ev F sc_bad_index fun cdv A outer s H E hr => (ss_cons (ss_for (hp := (passes_of rfl)) (hc := rfl) (hi := ei_enum (hm := (free_enumerate hy)) (ha := ee_var 0)) (hg := eg_tup (hc := rfl) (h := egs_cons (eg_name 2 sc_bad_index.nd) (egs_cons (eg_name 3 sc_bad_index.nd) (egs_nil)))) (hb := ss_one (ss_if (eb_w (ew_or (eb_ge (ha := ee_var 2) (hb := ee_var 1)) (ew_or1 (eb_not (eb_val (ee_var 3)))))) (ss_one (ss_ret (ee_var 2))) (ss_nil)))) (ss_cons (ss_if (eb_lt (ha := ee_callB (hc := call_len_seq) (h := (o_len rfl)) (hm := (free_len hy)) (hv := by decide +kernel) (ha := ea_cons (ee_var 0) (ea_nil))) (hb := ee_var 1)) (ss_one (ss_ret (ee_callB (hc := call_len_seq) (h := (o_len rfl)) (hm := (free_len hy)) (hv := by decide +kernel) (ha := ea_cons (ee_var 0) (ea_nil))))) (ss_nil)) (ss_one (ss_ret (ee_non)))))⟩
end LW
end

section
set_option maxHeartbeats 4000000
namespace LW
open PySem L2 EV
theorem sc_check_needs : FnScope ["valley", "needs", "index", "need"] ["valley", "needs"] (defScope st_check_needs) := ⟨rfl, rfl, rfl, by decide +kernel, rfl, by decide +kernel, by decide +kernel⟩
def g_check_needs : FS := gSeq (gSet 2 (vCallP 2 0 [0, 1] sem_bad_index [] (aCons (vL (nLc (iSeq (vVar 1)) (nmG 3) (vYes) (vAnd (v2 notNonD (vVar 3) (vC .non)) (v2 geD (vVar 3) (vC (.int 0)))) [3])) (aCons (v1 (fldD 7 0) (vVar 0)) (aNil))) (aNil))) (gIf (v2 notNonD (vVar 2) (vC .non)) (gNever) (gNext))
def sem_check_needs : List D → Option R := semF 4 g_check_needs
theorem ok_check_needs {P : Program} {w : World} {K : PySem.W.Frag} {mg : Str → Option Value} {base : Heap} (hy : Hyp K mg) : ∃ fd, FunD K d_check_needs.name d_check_needs.qual d_check_needs.params d_check_needs.body d_check_needs.scope (d_check_needs.dvs K) (d_check_needs.kws K) (He.fAd K d_check_needs.at_) fd ∧ FnOk P w K mg base (L2N.CX P w) 2 (He.fAd K d_check_needs.at_) fd ["valley", "needs"] (spF (tab K) 2 (sem_check_needs)) := by
  obtain ⟨fd_bad_index, F_bad_index, G_bad_index⟩ := ok_bad_index (P := P) (w := w) (base := base) hy
  have ab_bad_index_2_ : ArgB K fd_bad_index ["good", "many"] 2 [] [] [0, 1] := ArgB.given F_bad_index (fun kV doc pm an cdv ct us ws l1 l2 => match us, l1, ws, l2 with | [_, _], _, [], _ => rfl)
  obtain ⟨fd, F⟩ := hy.says.fn (3) (d := d_check_needs) rfl
  exact ⟨fd, F, fn_ev F sc_check_needs fun cdv A outer s H E hr => (ss_cons (ss_set 2 (hN := sc_check_needs.nd) (he := ee_callP (F := G_bad_index) (hr := hr.mono (by decide)) (hm := glo_bad_index hy) (hk := F_bad_index.kp) (hb := ab_bad_index_2_) (tk := (L2N.takes_of rfl rfl rfl rfl)) (hp := rfl) (hmx := by decide) (hdd := fun _ => .nil) (ha := ea_cons (en_ee (en_lc (own := [("need", 3)]) (hc := rfl) (hN := sc_check_needs.nd) (ok := blkOk_by (show blkC ["valley", "needs", "index", "need"] (defScope st_check_needs) _ [("need", 3)] = true by decide +kernel)) (hsub := by decide) (hi := ei_seq (he := ee_var 1)) (hg := fun _ _ _ _ _ => eg_name 3 sc_check_needs.nd) (ht := fun _ _ _ _ _ => et_nil) (he := fun _ _ _ _ _ => ee_and (ee_notN (ha := ee_var 3) (hb := ee_non)) (ee_one (ee_ge (ha := ee_var 3) (hb := ee_int)))))) (ea_cons (ee_fld (F := fld_Valley_mills hy) (ha := ee_var 0)) (ea_nil))) (hkw := ek_nil))) (ss_one (ss_if (eb_notN (ha := ee_var 2) (hb := ee_non)) (ss_one (ss_never)) (ss_nil))))⟩
end LW
end

section
set_option maxHeartbeats 4000000
namespace LW
open PySem L2 EV
theorem sc_check_limits : FnScope ["valley", "limits", "index", "limit"] ["valley", "limits"] (defScope st_check_limits) := ⟨rfl, rfl, rfl, by decide +kernel, rfl, by decide +kernel, by decide +kernel⟩
def g_check_limits : FS := gSeq (gSet 2 (vCallP 2 0 [0, 1] sem_bad_index [] (aCons (vL (nLc (iSeq (vVar 1)) (nmG 3) (vYes) (vOr (v2 isNonD (vVar 3) (vC .non)) (v2 geD (vVar 3) (vC (.int 0)))) [3])) (aCons (v1 (fldD 7 0) (vVar 0)) (aNil))) (aNil))) (gIf (v2 notNonD (vVar 2) (vC .non)) (gNever) (gNext))
def sem_check_limits : List D → Option R := semF 4 g_check_limits
theorem ok_check_limits {P : Program} {w : World} {K : PySem.W.Frag} {mg : Str → Option Value} {base : Heap} (hy : Hyp K mg) : ∃ fd, FunD K d_check_limits.name d_check_limits.qual d_check_limits.params d_check_limits.body d_check_limits.scope (d_check_limits.dvs K) (d_check_limits.kws K) (He.fAd K d_check_limits.at_) fd ∧ FnOk P w K mg base (L2N.CX P w) 2 (He.fAd K d_check_limits.at_) fd ["valley", "limits"] (spF (tab K) 2 (sem_check_limits)) := by
  obtain ⟨fd_bad_index, F_bad_index, G_bad_index⟩ := ok_bad_index (P := P) (w := w) (base := base) hy
  have ab_bad_index_2_ : ArgB K fd_bad_index ["good", "many"] 2 [] [] [0, 1] := ArgB.given F_bad_index (fun kV doc pm an cdv ct us ws l1 l2 => match us, l1, ws, l2 with | [_, _], _, [], _ => rfl)
  obtain ⟨fd, F⟩ := hy.says.fn (4) (d := d_check_limits) rfl
  exact ⟨fd, F, fn_ev F sc_check_limits fun cdv A outer s H E hr => (ss_cons (ss_set 2 (hN := sc_check_limits.nd) (he := ee_callP (F := G_bad_index) (hr := hr.mono (by decide)) (hm := glo_bad_index hy) (hk := F_bad_index.kp) (hb := ab_bad_index_2_) (tk := (L2N.takes_of rfl rfl rfl rfl)) (hp := rfl) (hmx := by decide) (hdd := fun _ => .nil) (ha := ea_cons (en_ee (en_lc (own := [("limit", 3)]) (hc := rfl) (hN := sc_check_limits.nd) (ok := blkOk_by (show blkC ["valley", "limits", "index", "limit"] (defScope st_check_limits) _ [("limit", 3)] = true by decide +kernel)) (hsub := by decide) (hi := ei_seq (he := ee_var 1)) (hg := fun _ _ _ _ _ => eg_name 3 sc_check_limits.nd) (ht := fun _ _ _ _ _ => et_nil) (he := fun _ _ _ _ _ => ee_or (ee_isN (ha := ee_var 3) (hb := ee_non)) (ee_one (ee_ge (ha := ee_var 3) (hb := ee_int)))))) (ea_cons (ee_fld (F := fld_Valley_mills hy) (ha := ee_var 0)) (ea_nil))) (hkw := ek_nil))) (ss_one (ss_if (eb_notN (ha := ee_var 2) (hb := ee_non)) (ss_one (ss_never)) (ss_nil))))⟩
end LW
end

section
set_option maxHeartbeats 4000000
namespace LW
open PySem L2 EV
theorem sc_check_sides : FnScope ["valley", "sides", "index", "let"] ["valley", "sides"] (defScope st_check_sides) := ⟨rfl, rfl, rfl, by decide +kernel, rfl, by decide +kernel, by decide +kernel⟩
def g_check_sides : FS := gSeq (gSet 2 (vCallP 2 0 [0, 1] sem_bad_index [] (aCons (vL (nLc (iSeq (vVar 1)) (nmG 3) (vYes) (v2 inD (vVar 3) (vC c_LET_SIDES)) [3])) (aCons (vCall lenD (aCons (v1 (fldD 7 1) (vVar 0)) (aNil))) (aNil))) (aNil))) (gIf (v2 notNonD (vVar 2) (vC .non)) (gNever) (gNext))
def sem_check_sides : List D → Option R := semF 4 g_check_sides
theorem ok_check_sides {P : Program} {w : World} {K : PySem.W.Frag} {mg : Str → Option Value} {base : Heap} (hy : Hyp K mg) : ∃ fd, FunD K d_check_sides.name d_check_sides.qual d_check_sides.params d_check_sides.body d_check_sides.scope (d_check_sides.dvs K) (d_check_sides.kws K) (He.fAd K d_check_sides.at_) fd ∧ FnOk P w K mg base (L2N.CX P w) 2 (He.fAd K d_check_sides.at_) fd ["valley", "sides"] (spF (tab K) 2 (sem_check_sides)) := by
  obtain ⟨fd_bad_index, F_bad_index, G_bad_index⟩ := ok_bad_index (P := P) (w := w) (base := base) hy
  have ab_bad_index_2_ : ArgB K fd_bad_index ["good", "many"] 2 [] [] [0, 1] := ArgB.given F_bad_index (fun kV doc pm an cdv ct us ws l1 l2 => match us, l1, ws, l2 with | [_, _], _, [], _ => rfl)
  obtain ⟨fd, F⟩ := hy.says.fn (5) (d := d_check_sides) rfl
  exact ⟨fd, F, fn_ev F sc_check_sides fun cdv A outer s H E hr => (ss_cons (ss_set 2 (hN := sc_check_sides.nd) (he := ee_callP (F := G_bad_index) (hr := hr.mono (by decide)) (hm := glo_bad_index hy) (hk := F_bad_index.kp) (hb := ab_bad_index_2_) (tk := (L2N.takes_of rfl rfl rfl rfl)) (hp := rfl) (hmx := by decide) (hdd := fun _ => .nil) (ha := ea_cons (en_ee (en_lc (own := [("let", 3)]) (hc := rfl) (hN := sc_check_sides.nd) (ok := blkOk_by (show blkC ["valley", "sides", "index", "let"] (defScope st_check_sides) _ [("let", 3)] = true by decide +kernel)) (hsub := by decide) (hi := ei_seq (he := ee_var 1)) (hg := fun _ _ _ _ _ => eg_name 3 sc_check_sides.nd) (ht := fun _ _ _ _ _ => et_nil) (he := fun _ _ _ _ _ => ee_in (hr := hr) (hm := by rfl) (ha := ee_var 3) (hb := ee_globC (con_LET_SIDES hy))))) (ea_cons (ee_callB (hc := call_len_seq) (h := (o_len rfl)) (hm := (free_len hy)) (hv := by decide +kernel) (ha := ea_cons (ee_fld (F := fld_Valley_sluices hy) (ha := ee_var 0)) (ea_nil))) (ea_nil))) (hkw := ek_nil))) (ss_one (ss_if (eb_notN (ha := ee_var 2) (hb := ee_non)) (ss_one (ss_never)) (ss_nil))))⟩
end LW
end

section
set_option maxHeartbeats 4000000
namespace LW
open PySem L2 EV
theorem sc_Season__init : FnScope ["self", "valley", "needs", "limits", "sides", "_"] ["self", "valley", "needs", "limits", "sides"] (defScope st_Season__init) := ⟨rfl, rfl, rfl, by decide +kernel, rfl, by decide +kernel, by decide +kernel⟩
def g_Season__init : FS := gSeq (gIf (v2 isNonD (vVar 2) (vC .non)) (gSet 2 (vL (nLc (iRange1 (v1 (fldD 7 0) (vVar 1))) (nmG 5) (vYes) (vC (.int 0)) [5]))) (gNext)) (gSeq (gIf (v2 isNonD (vVar 3) (vC .non)) (gSet 3 (vL (nLc (iRange1 (v1 (fldD 7 0) (vVar 1))) (nmG 5) (vYes) (vC .non) [5]))) (gNext)) (gSeq (gIf (v2 isNonD (vVar 4) (vC .non)) (gSet 4 (vL (nLc (iRange1 (vCall lenD (aCons (v1 (fldD 7 1) (vVar 1)) (aNil)))) (nmG 5) (vYes) (vC c_BOTH) [5]))) (gNext)) (gSeq (gFld 0 6 0 (vVar 1)) (gSeq (gFld 0 6 1 (vCallP 1 0 [0] sem_frozen [] (aCons (vVar 2) (aNil)) (aNil))) (gSeq (gFld 0 6 2 (vCallP 1 0 [0] sem_frozen [] (aCons (vVar 3) (aNil)) (aNil))) (gSeq (gFld 0 6 3 (vCallP 1 0 [0] sem_frozen [] (aCons (vVar 4) (aNil)) (aNil))) (gSeq (gDropA (vCallP 2 0 [0, 1] sem_check_needs [] (aCons (vVar 1) (aCons (v1 (fldD 6 1) (vVar 0)) (aNil))) (aNil))) (gSeq (gDropA (vCallP 2 0 [0, 1] sem_check_limits [] (aCons (vVar 1) (aCons (v1 (fldD 6 2) (vVar 0)) (aNil))) (aNil))) (gDropA (vCallP 2 0 [0, 1] sem_check_sides [] (aCons (vVar 1) (aCons (v1 (fldD 6 3) (vVar 0)) (aNil))) (aNil)))))))))))
def sem_Season__init : List D → Option R := semI 6 6 g_Season__init
theorem ok_Season__init {P : Program} {w : World} {K : PySem.W.Frag} {mg : Str → Option Value} {base : Heap} (hy : Hyp K mg) : ∃ fd, FunD K d_Season__init.name d_Season__init.qual d_Season__init.params d_Season__init.body d_Season__init.scope (d_Season__init.dvs K) (d_Season__init.kws K) (He.fAd K d_Season__init.at_) fd ∧ FnOk P w K mg base (L2N.CX P w) 4 (He.fAd K d_Season__init.at_) fd ["self", "valley", "needs", "limits", "sides"] (spI (tab K) 6 5 (sem_Season__init)) := by
  obtain ⟨fd_frozen, F_frozen, G_frozen⟩ := ok_frozen (P := P) (w := w) (base := base) hy
  obtain ⟨fd_check_needs, F_check_needs, G_check_needs⟩ := ok_check_needs (P := P) (w := w) (base := base) hy
  obtain ⟨fd_check_limits, F_check_limits, G_check_limits⟩ := ok_check_limits (P := P) (w := w) (base := base) hy
  obtain ⟨fd_check_sides, F_check_sides, G_check_sides⟩ := ok_check_sides (P := P) (w := w) (base := base) hy
  have ab_frozen_1_ : ArgB K fd_frozen ["value"] 1 [] [] [0] := ArgB.given F_frozen (fun kV doc pm an cdv ct us ws l1 l2 => match us, l1, ws, l2 with | [_], _, [], _ => rfl)
  have ab_check_needs_2_ : ArgB K fd_check_needs ["valley", "needs"] 2 [] [] [0, 1] := ArgB.given F_check_needs (fun kV doc pm an cdv ct us ws l1 l2 => match us, l1, ws, l2 with | [_, _], _, [], _ => rfl)
  have ab_check_limits_2_ : ArgB K fd_check_limits ["valley", "limits"] 2 [] [] [0, 1] := ArgB.given F_check_limits (fun kV doc pm an cdv ct us ws l1 l2 => match us, l1, ws, l2 with | [_, _], _, [], _ => rfl)
  have ab_check_sides_2_ : ArgB K fd_check_sides ["valley", "sides"] 2 [] [] [0, 1] := ArgB.given F_check_sides (fun kV doc pm an cdv ct us ws l1 l2 => match us, l1, ws, l2 with | [_, _], _, [], _ => rfl)
  obtain ⟨fd, F⟩ := hy.says.fn (6) (d := d_Season__init) rfl
  exact ⟨fd, F, fn_evI 6 F sc_Season__init (by decide) fun cdv A outer s H E hr => (ss_cons (ss_if (eb_isN (ha := ee_var 2) (hb := ee_non)) (ss_one (ss_lc_v (ps_lcs (i := 2) (hy := rfl) (hyl := rfl) (hsw := sw_true rfl rfl rfl (by decide +kernel)) (own := [("_", 5)]) (hc := rfl) (hN := sc_Season__init.nd) (ok := blkOk_by (show blkC ["self", "valley", "needs", "limits", "sides", "_"] (defScope st_Season__init) _ [("_", 5)] = true by decide +kernel)) (hi := ei_range1 (hm := (free_range hy)) (ha := ee_fld (F := fld_Valley_mills hy) (ha := ee_var 1))) (hg := fun _ _ _ _ _ => eg_name 5 sc_Season__init.nd) (ht := fun _ _ _ _ _ => et_nil) (he := fun _ _ _ _ _ => ee_int)) (w_lc (by decide)))) (ss_nil)) (ss_cons (ss_if (eb_isN (ha := ee_var 3) (hb := ee_non)) (ss_one (ss_lc_v (ps_lcs (i := 3) (hy := rfl) (hyl := rfl) (hsw := sw_true rfl rfl rfl (by decide +kernel)) (own := [("_", 5)]) (hc := rfl) (hN := sc_Season__init.nd) (ok := blkOk_by (show blkC ["self", "valley", "needs", "limits", "sides", "_"] (defScope st_Season__init) _ [("_", 5)] = true by decide +kernel)) (hi := ei_range1 (hm := (free_range hy)) (ha := ee_fld (F := fld_Valley_mills hy) (ha := ee_var 1))) (hg := fun _ _ _ _ _ => eg_name 5 sc_Season__init.nd) (ht := fun _ _ _ _ _ => et_nil) (he := fun _ _ _ _ _ => ee_non)) (w_lc (by decide)))) (ss_nil)) (ss_cons (ss_if (eb_isN (ha := ee_var 4) (hb := ee_non)) (ss_one (ss_lc_v (ps_lcs (i := 4) (hy := rfl) (hyl := rfl) (hsw := sw_true rfl rfl rfl (by decide +kernel)) (own := [("_", 5)]) (hc := rfl) (hN := sc_Season__init.nd) (ok := blkOk_by (show blkC ["self", "valley", "needs", "limits", "sides", "_"] (defScope st_Season__init) _ [("_", 5)] = true by decide +kernel)) (hi := ei_range1 (hm := (free_range hy)) (ha := ee_callB (hc := call_len_seq) (h := (o_len rfl)) (hm := (free_len hy)) (hv := by decide +kernel) (ha := ea_cons (ee_fld (F := fld_Valley_sluices hy) (ha := ee_var 1)) (ea_nil)))) (hg := fun _ _ _ _ _ => eg_name 5 sc_Season__init.nd) (ht := fun _ _ _ _ _ => et_nil) (he := fun _ _ _ _ _ => ee_globC (con_BOTH hy))) (w_lc (by decide)))) (ss_nil)) (ss_cons (ss_fld 0 (F := fld_Season_valley hy) (he := ee_var 1)) (ss_cons (ss_fld 0 (F := fld_Season_needs hy) (he := ee_callP (F := G_frozen) (hr := hr.mono (by decide)) (hm := glo_frozen hy) (hk := F_frozen.kp) (hb := ab_frozen_1_) (tk := (L2N.takes_of rfl rfl rfl rfl)) (hp := rfl) (hmx := by decide) (hdd := fun _ => .nil) (ha := ea_cons (ee_var 2) (ea_nil)) (hkw := ek_nil))) (ss_cons (ss_fld 0 (F := fld_Season_limits hy) (he := ee_callP (F := G_frozen) (hr := hr.mono (by decide)) (hm := glo_frozen hy) (hk := F_frozen.kp) (hb := ab_frozen_1_) (tk := (L2N.takes_of rfl rfl rfl rfl)) (hp := rfl) (hmx := by decide) (hdd := fun _ => .nil) (ha := ea_cons (ee_var 3) (ea_nil)) (hkw := ek_nil))) (ss_cons (ss_fld 0 (F := fld_Season_sides hy) (he := ee_callP (F := G_frozen) (hr := hr.mono (by decide)) (hm := glo_frozen hy) (hk := F_frozen.kp) (hb := ab_frozen_1_) (tk := (L2N.takes_of rfl rfl rfl rfl)) (hp := rfl) (hmx := by decide) (hdd := fun _ => .nil) (ha := ea_cons (ee_var 4) (ea_nil)) (hkw := ek_nil))) (ss_cons (ss_exprA (ee_callP (F := G_check_needs) (hr := hr.mono (by decide)) (hm := glo_check_needs hy) (hk := F_check_needs.kp) (hb := ab_check_needs_2_) (tk := (L2N.takes_of rfl rfl rfl rfl)) (hp := rfl) (hmx := by decide) (hdd := fun _ => .nil) (ha := ea_cons (ee_var 1) (ea_cons (ee_fld (F := fld_Season_needs hy) (ha := ee_var 0)) (ea_nil))) (hkw := ek_nil))) (ss_cons (ss_exprA (ee_callP (F := G_check_limits) (hr := hr.mono (by decide)) (hm := glo_check_limits hy) (hk := F_check_limits.kp) (hb := ab_check_limits_2_) (tk := (L2N.takes_of rfl rfl rfl rfl)) (hp := rfl) (hmx := by decide) (hdd := fun _ => .nil) (ha := ea_cons (ee_var 1) (ea_cons (ee_fld (F := fld_Season_limits hy) (ha := ee_var 0)) (ea_nil))) (hkw := ek_nil))) (ss_one (ss_exprA (ee_callP (F := G_check_sides) (hr := hr.mono (by decide)) (hm := glo_check_sides hy) (hk := F_check_sides.kp) (hb := ab_check_sides_2_) (tk := (L2N.takes_of rfl rfl rfl rfl)) (hp := rfl) (hmx := by decide) (hdd := fun _ => .nil) (ha := ea_cons (ee_var 1) (ea_cons (ee_fld (F := fld_Season_sides hy) (ha := ee_var 0)) (ea_nil))) (hkw := ek_nil)))))))))))))⟩
end LW
end

section
set_option maxHeartbeats 4000000
namespace LW
open PySem L2 EV
theorem sc_check_pairs : FnScope ["mills", "pairs", "index", "first", "second"] ["mills", "pairs"] (defScope st_check_pairs) := ⟨rfl, rfl, rfl, by decide +kernel, rfl, by decide +kernel, by decide +kernel⟩
def g_check_pairs : FS := gFor (iEnum (vVar 1)) (tupG (lenG 2 (consG (nmG 2) (consG (tupG (lenG 2 (consG (nmG 3) (consG (nmG 4) (nilG))))) (nilG))))) (gIf (vOr (v2 ltD (vVar 3) (vC (.int 0))) (vOr (v2 geD (vVar 3) (vVar 0)) (vOr (v2 ltD (vVar 4) (vC (.int 0))) (vOr (v2 geD (vVar 4) (vVar 0)) (v2 eqD (vVar 3) (vVar 4)))))) (gNever) (gNext))
def sem_check_pairs : List D → Option R := semF 5 g_check_pairs
theorem ok_check_pairs {P : Program} {w : World} {K : PySem.W.Frag} {mg : Str → Option Value} {base : Heap} (hy : Hyp K mg) : ∃ fd, FunD K d_check_pairs.name d_check_pairs.qual d_check_pairs.params d_check_pairs.body d_check_pairs.scope (d_check_pairs.dvs K) (d_check_pairs.kws K) (He.fAd K d_check_pairs.at_) fd ∧ FnOk P w K mg base (L2N.CX P w) 1 (He.fAd K d_check_pairs.at_) fd ["mills", "pairs"] (spF (tab K) 2 (sem_check_pairs)) := by
  obtain ⟨fd, F⟩ := hy.says.fn (7) (d := d_check_pairs) rfl
  exact ⟨fd, F, fn_ev F sc_check_pairs fun cdv A outer s H E hr => (ss_one (ss_for (hp := (passes_of rfl)) (hc := rfl) (hi := ei_enum (hm := (free_enumerate hy)) (ha := ee_var 1)) (hg := eg_tup (hc := rfl) (h := egs_cons (eg_name 2 sc_check_pairs.nd) (egs_cons (eg_tup (hc := rfl) (h := egs_cons (eg_name 3 sc_check_pairs.nd) (egs_cons (eg_name 4 sc_check_pairs.nd) (egs_nil)))) (egs_nil)))) (hb := ss_one (ss_if (eb_w (ew_or (eb_lt (ha := ee_var 3) (hb := ee_int)) (ew_or (eb_ge (ha := ee_var 3) (hb := ee_var 0)) (ew_or (eb_lt (ha := ee_var 4) (hb := ee_int)) (ew_or (eb_ge (ha := ee_var 4) (hb := ee_var 0)) (ew_or1 (eb_eq (hr := hr) (ha := ee_var 3) (hb := ee_var 4)))))))) (ss_one (ss_never)) (ss_nil)))))⟩
end LW
end

section
set_option maxHeartbeats 4000000
namespace LW
open PySem L2 EV
theorem sc_Valley__init : FnScope ["self", "mills", "sluices", "pairs"] ["self", "mills", "sluices"] (defScope st_Valley__init) := ⟨rfl, rfl, rfl, by decide +kernel, rfl, by decide +kernel, by decide +kernel⟩
def g_Valley__init : FS := gSeq (gSet 3 (vCallP 1 0 [0] sem_frozen [] (aCons (vVar 2) (aNil)) (aNil))) (gSeq (gDrop (vCallP 2 0 [0, 1] sem_check_pairs [] (aCons (vVar 1) (aCons (vVar 3) (aNil))) (aNil))) (gSeq (gFld 0 7 0 (vVar 1)) (gFld 0 7 1 (vVar 3))))
def sem_Valley__init : List D → Option R := semI 7 4 g_Valley__init
theorem ok_Valley__init {P : Program} {w : World} {K : PySem.W.Frag} {mg : Str → Option Value} {base : Heap} (hy : Hyp K mg) : ∃ fd, FunD K d_Valley__init.name d_Valley__init.qual d_Valley__init.params d_Valley__init.body d_Valley__init.scope (d_Valley__init.dvs K) (d_Valley__init.kws K) (He.fAd K d_Valley__init.at_) fd ∧ FnOk P w K mg base (L2N.CX P w) 4 (He.fAd K d_Valley__init.at_) fd ["self", "mills", "sluices"] (spI (tab K) 7 3 (sem_Valley__init)) := by
  obtain ⟨fd_frozen, F_frozen, G_frozen⟩ := ok_frozen (P := P) (w := w) (base := base) hy
  obtain ⟨fd_check_pairs, F_check_pairs, G_check_pairs⟩ := ok_check_pairs (P := P) (w := w) (base := base) hy
  have ab_frozen_1_ : ArgB K fd_frozen ["value"] 1 [] [] [0] := ArgB.given F_frozen (fun kV doc pm an cdv ct us ws l1 l2 => match us, l1, ws, l2 with | [_], _, [], _ => rfl)
  have ab_check_pairs_2_ : ArgB K fd_check_pairs ["mills", "pairs"] 2 [] [] [0, 1] := ArgB.given F_check_pairs (fun kV doc pm an cdv ct us ws l1 l2 => match us, l1, ws, l2 with | [_, _], _, [], _ => rfl)
  obtain ⟨fd, F⟩ := hy.says.fn (8) (d := d_Valley__init) rfl
  exact ⟨fd, F, fn_evI 7 F sc_Valley__init (by decide) fun cdv A outer s H E hr => (ss_cons (ss_set 3 (hN := sc_Valley__init.nd) (he := ee_callP (F := G_frozen) (hr := hr.mono (by decide)) (hm := glo_frozen hy) (hk := F_frozen.kp) (hb := ab_frozen_1_) (tk := (L2N.takes_of rfl rfl rfl rfl)) (hp := rfl) (hmx := by decide) (hdd := fun _ => .nil) (ha := ea_cons (ee_var 2) (ea_nil)) (hkw := ek_nil))) (ss_cons (ss_expr (ee_callP (F := G_check_pairs) (hr := hr.mono (by decide)) (hm := glo_check_pairs hy) (hk := F_check_pairs.kp) (hb := ab_check_pairs_2_) (tk := (L2N.takes_of rfl rfl rfl rfl)) (hp := rfl) (hmx := by decide) (hdd := fun _ => .nil) (ha := ea_cons (ee_var 1) (ea_cons (ee_var 3) (ea_nil))) (hkw := ek_nil))) (ss_cons (ss_fld 0 (F := fld_Valley_mills hy) (he := ee_var 1)) (ss_one (ss_fld 0 (F := fld_Valley_sluices hy) (he := ee_var 3))))))⟩
end LW
end

section
set_option maxHeartbeats 4000000
namespace LW
open PySem L2 EV
theorem sc_law_season : FnScope ["_law_world_here"] ["_law_world_here"] (defScope st_law_season) := ⟨rfl, rfl, rfl, by decide +kernel, rfl, by decide +kernel, by decide +kernel⟩
def g_law_season : FS := gRet (vCallP 1 3 [0, 1, 2, 3] sem_Season__init [] (aCons (vCallP 2 0 [0, 1] sem_Valley__init [] (aCons (v2 ixD (vVar 0) (vC (.int 0))) (aCons (vL (nCall listD (aCons (v2 ixD (vVar 0) (vC (.int 1))) (aNil)))) (aNil))) (aNil)) (aNil)) (aCons (vL (nCall listD (aCons (v2 ixD (vVar 0) (vC (.int 2))) (aNil)))) (aCons (vL (nCall listD (aCons (v2 ixD (vVar 0) (vC (.int 3))) (aNil)))) (aCons (vL (nCall listD (aCons (v2 ixD (vVar 0) (vC (.int 4))) (aNil)))) (aNil)))))
def sem_law_season : List D → Option R := semF 1 g_law_season
theorem ok_law_season {P : Program} {w : World} {K : PySem.W.Frag} {mg : Str → Option Value} {base : Heap} (hy : Hyp K mg) : ∃ fd, FunD K d_law_season.name d_law_season.qual d_law_season.params d_law_season.body d_law_season.scope (d_law_season.dvs K) (d_law_season.kws K) (He.fAd K d_law_season.at_) fd ∧ FnOk P w K mg base (L2N.CX P w) 6 (He.fAd K d_law_season.at_) fd ["_law_world_here"] (spF (tab K) 1 (sem_law_season)) := by
  obtain ⟨fd_Season__init, F_Season__init, G_Season__init⟩ := ok_Season__init (P := P) (w := w) (base := base) hy
  obtain ⟨fd_Valley__init, F_Valley__init, G_Valley__init⟩ := ok_Valley__init (P := P) (w := w) (base := base) hy
  have ab_Season__init_1_needs_limits_sides : ArgB K fd_Season__init ["self", "valley", "needs", "limits", "sides"] 2 ["needs", "limits", "sides"] [] [0, 1, 2, 3, 4] := ArgB.given F_Season__init (fun kV doc pm an cdv ct us ws l1 l2 => match us, l1, ws, l2 with | [_, _], _, [_, _, _], _ => rfl)
  have ab_Valley__init_2_ : ArgB K fd_Valley__init ["self", "mills", "sluices"] 3 [] [] [0, 1, 2] := ArgB.unused F_Valley__init (List.cons_ne_nil _ _) (fun T kV doc pm an cdv ct us its ws l1 l3 l2 => match us, l1, its, l3, ws, l2 with | [_, _, _], _, [_], _, [], _ => ⟨_, rfl, rfl⟩)
  obtain ⟨fd, F⟩ := hy.says.fn (9) (d := d_law_season) rfl
  exact ⟨fd, F, fn_ev F sc_law_season fun cdv A outer s H E hr => (ss_one (ss_ret (ee_makeP (hs := semI_obj) (M := mk_Season hy) (F := G_Season__init) (hr := hr.mono (by decide)) (hm := glo_Season hy) (hb := ab_Season__init_1_needs_limits_sides) (tk := (L2N.takes_of rfl rfl rfl rfl)) (hp := rfl) (hmx := by decide) (hdd := fun _ => .nil) (ha := ea_cons (ee_makeP (hs := semI_obj) (M := mk_Valley hy) (F := G_Valley__init) (hr := hr.mono (by decide)) (hm := glo_Valley hy) (hb := ab_Valley__init_2_) (tk := (L2N.takes_of rfl rfl rfl rfl)) (hp := rfl) (hmx := by decide) (hdd := fun _ => .nil) (ha := ea_cons (ee_ix (ha := ee_var 0) (hb := ee_int)) (ea_cons (en_ee (en_callT (hc := call_list_of) (h := (o_list rfl)) (hm := (free_list hy)) (hv := by decide +kernel) (ha := ea_cons (ee_ix (ha := ee_var 0) (hb := ee_int)) (ea_nil)))) (ea_nil))) (hkw := ek_nil)) (ea_nil)) (hkw := ek_cons (en_ee (en_callT (hc := call_list_of) (h := (o_list rfl)) (hm := (free_list hy)) (hv := by decide +kernel) (ha := ea_cons (ee_ix (ha := ee_var 0) (hb := ee_int)) (ea_nil)))) (ek_cons (en_ee (en_callT (hc := call_list_of) (h := (o_list rfl)) (hm := (free_list hy)) (hv := by decide +kernel) (ha := ea_cons (ee_ix (ha := ee_var 0) (hb := ee_int)) (ea_nil)))) (ek_cons (en_ee (en_callT (hc := call_list_of) (h := (o_list rfl)) (hm := (free_list hy)) (hv := by decide +kernel) (ha := ea_cons (ee_ix (ha := ee_var 0) (hb := ee_int)) (ea_nil)))) (ek_nil)))))))⟩
end LW
end

section
set_option maxHeartbeats 4000000
namespace LW
open PySem L2 EV
theorem sc_law_turn : FnScope ["_law_state", "_law_sluice"] ["_law_state", "_law_sluice"] (defScope st_law_turn) := ⟨rfl, rfl, rfl, by decide +kernel, rfl, by decide +kernel, by decide +kernel⟩
def g_law_turn : FS := gRet (v2 addD (v2 addD (vSlice (vVar 0) (oNone) (oSome (vVar 1))) (vTup (aCons (v2 subD (vC (.int 1)) (v2 ixD (vVar 0) (vVar 1))) (aNil)))) (vSlice (vVar 0) (oSome (v2 addD (vVar 1) (vC (.int 1)))) (oNone)))
def sem_law_turn : List D → Option R := semF 2 g_law_turn
theorem ok_law_turn {P : Program} {w : World} {K : PySem.W.Frag} {mg : Str → Option Value} {base : Heap} (hy : Hyp K mg) : ∃ fd, FunD K d_law_turn.name d_law_turn.qual d_law_turn.params d_law_turn.body d_law_turn.scope (d_law_turn.dvs K) (d_law_turn.kws K) (He.fAd K d_law_turn.at_) fd ∧ FnOk P w K mg base (L2N.CX P w) 1 (He.fAd K d_law_turn.at_) fd ["_law_state", "_law_sluice"] (spF (tab K) 2 (sem_law_turn)) := by
  obtain ⟨fd, F⟩ := hy.says.fn (10) (d := d_law_turn) rfl
  exact ⟨fd, F, fn_ev F sc_law_turn fun cdv A outer s H E hr => (ss_one (ss_ret (ee_add (ha := ee_add (ha := ee_slice (ha := ee_var 0) (hl := eo_none) (hu := (eo_some (ee_var 1)))) (hb := ee_tup (ea_cons (ee_sub (ha := ee_int) (hb := ee_ix (ha := ee_var 0) (hb := ee_var 1))) (ea_nil)))) (hb := ee_slice (ha := ee_var 0) (hl := (eo_some (ee_add (ha := ee_var 1) (hb := ee_int)))) (hu := eo_none)))))⟩
end LW
end

section
set_option maxHeartbeats 4000000
namespace LW
open PySem L2 EV
theorem sc_law_fed : FnScope ["_law_mills", "_law_pairs", "_law_state", "_law_count", "_law_k", "_law_mill"] ["_law_mills", "_law_pairs", "_law_state"] (defScope st_law_fed) := ⟨rfl, rfl, rfl, by decide +kernel, rfl, by decide +kernel, by decide +kernel⟩
def g_law_fed : FS := gSeq (gOwn 3 (nLc (iRange1 (vVar 0)) (nmG 5) (vYes) (vC (.int 0)) [5])) (gSeq (gFor (iRange1 (vCall lenD (aCons (vVar 1) (aNil)))) (nmG 4) (gSeq (gSet 5 (v2 ixD (v2 ixD (vVar 1) (vVar 4)) (v2 ixD (vVar 2) (vVar 4)))) (gSetIxA 3 (vVar 5) (v2 addD (v2 ixD (vVar 3) (vVar 5)) (vC (.int 1)))))) (gRel 3 (gRet (vVar 3))))
def sem_law_fed : List D → Option R := semF 6 g_law_fed
theorem ok_law_fed {P : Program} {w : World} {K : PySem.W.Frag} {mg : Str → Option Value} {base : Heap} (hy : Hyp K mg) : ∃ fd, FunD K d_law_fed.name d_law_fed.qual d_law_fed.params d_law_fed.body d_law_fed.scope (d_law_fed.dvs K) (d_law_fed.kws K) (He.fAd K d_law_fed.at_) fd ∧ FnOk P w K mg base (L2N.CX P w) 1 (He.fAd K d_law_fed.at_) fd ["_law_mills", "_law_pairs", "_law_state"] (spF (tab K) 3 (sem_law_fed)) := by
  obtain ⟨fd, F⟩ := hy.says.fn (11) (d := d_law_fed) rfl
  exact ⟨fd, F, fn_ev F sc_law_fed fun cdv A outer s H E hr => (ss_cons (ss_lc_o (ps_lcs (i := 3) (hy := rfl) (hyl := rfl) (hsw := sw_true rfl rfl rfl (by decide +kernel)) (own := [("_law_mill", 5)]) (hc := rfl) (hN := sc_law_fed.nd) (ok := blkOk_by (show blkC ["_law_mills", "_law_pairs", "_law_state", "_law_count", "_law_k", "_law_mill"] (defScope st_law_fed) _ [("_law_mill", 5)] = true by decide +kernel)) (hi := ei_range1 (hm := (free_range hy)) (ha := ee_var 0)) (hg := fun _ _ _ _ _ => eg_name 5 sc_law_fed.nd) (ht := fun _ _ _ _ _ => et_nil) (he := fun _ _ _ _ _ => ee_int)) (w_lc (by decide))) (ss_cons (ss_for (hp := (passes_of rfl)) (hc := rfl) (hi := ei_range1 (hm := (free_range hy)) (ha := ee_callB (hc := call_len_seq) (h := (o_len rfl)) (hm := (free_len hy)) (hv := by decide +kernel) (ha := ea_cons (ee_var 1) (ea_nil)))) (hg := eg_name 4 sc_law_fed.nd) (hb := ss_cons (ss_set 5 (hN := sc_law_fed.nd) (he := ee_ix (ha := ee_ix (ha := ee_var 1) (hb := ee_var 4)) (hb := ee_ix (ha := ee_var 2) (hb := ee_var 4)))) (ss_one (ss_setIxA 3 (hg := fun h => pg_sub (pv 3) h set_list) (hk := ee_var 5) (he := ee_add (ha := ee_ix (ha := ee_var 3) (hb := ee_var 5)) (hb := ee_int)))))) (ss_one (ss_rel 3 (ss_ret (ee_var 3))))))⟩
end LW
end

section
set_option maxHeartbeats 4000000
namespace LW
open PySem L2 EV
theorem sc_law_runs : FnScope ["_law_world_here", "_law_state", "_law_k", "_law_count", "_law_mill"] ["_law_world_here", "_law_state"] (defScope st_law_runs) := ⟨rfl, rfl, rfl, by decide +kernel, rfl, by decide +kernel, by decide +kernel⟩
def g_law_runs : FS := gSeq (gFor (iRange1 (vCall lenD (aCons (v2 ixD (vVar 0) (vC (.int 1))) (aNil)))) (nmG 2) (gIf (v2 ninD (v2 ixD (vVar 1) (vVar 2)) (v2 ixD (v2 ixD (vVar 0) (vC (.int 4))) (vVar 2))) (gRet (vC (.bl false))) (gNext))) (gSeq (gSet 3 (vCallP 3 0 [0, 1, 2] sem_law_fed [] (aCons (v2 ixD (vVar 0) (vC (.int 0))) (aCons (v2 ixD (vVar 0) (vC (.int 1))) (aCons (vVar 1) (aNil)))) (aNil))) (gSeq (gFor (iRange1 (v2 ixD (vVar 0) (vC (.int 0)))) (nmG 4) (gSeq (gIf (v2 ltD (v2 ixD (vVar 3) (vVar 4)) (v2 ixD (v2 ixD (vVar 0) (vC (.int 2))) (vVar 4))) (gRet (vC (.bl false))) (gNext)) (gIf (vAnd (v2 notNonD (v2 ixD (v2 ixD (vVar 0) (vC (.int 3))) (vVar 4)) (vC .non)) (v2 gtD (v2 ixD (vVar 3) (vVar 4)) (v2 ixD (v2 ixD (vVar 0) (vC (.int 3))) (vVar 4)))) (gRet (vC (.bl false))) (gNext)))) (gRet (vC (.bl true)))))
def sem_law_runs : List D → Option R := semF 5 g_law_runs
theorem ok_law_runs {P : Program} {w : World} {K : PySem.W.Frag} {mg : Str → Option Value} {base : Heap} (hy : Hyp K mg) : ∃ fd, FunD K d_law_runs.name d_law_runs.qual d_law_runs.params d_law_runs.body d_law_runs.scope (d_law_runs.dvs K) (d_law_runs.kws K) (He.fAd K d_law_runs.at_) fd ∧ FnOk P w K mg base (L2N.CX P w) 2 (He.fAd K d_law_runs.at_) fd ["_law_world_here", "_law_state"] (spF (tab K) 2 (sem_law_runs)) := by
  obtain ⟨fd_law_fed, F_law_fed, G_law_fed⟩ := ok_law_fed (P := P) (w := w) (base := base) hy
  have ab_law_fed_3_ : ArgB K fd_law_fed ["_law_mills", "_law_pairs", "_law_state"] 3 [] [] [0, 1, 2] := ArgB.given F_law_fed (fun kV doc pm an cdv ct us ws l1 l2 => match us, l1, ws, l2 with | [_, _, _], _, [], _ => rfl)
  obtain ⟨fd, F⟩ := hy.says.fn (12) (d := d_law_runs) rfl
  exact ⟨fd, F, fn_ev F sc_law_runs fun cdv A outer s H E hr => (ss_cons (ss_for (hp := (passes_of rfl)) (hc := rfl) (hi := ei_range1 (hm := (free_range hy)) (ha := ee_callB (hc := call_len_seq) (h := (o_len rfl)) (hm := (free_len hy)) (hv := by decide +kernel) (ha := ea_cons (ee_ix (ha := ee_var 0) (hb := ee_int)) (ea_nil)))) (hg := eg_name 2 sc_law_runs.nd) (hb := ss_one (ss_if (eb_nin (hr := hr) (hm := by rfl) (ha := ee_ix (ha := ee_var 1) (hb := ee_var 2)) (hb := ee_ix (ha := ee_ix (ha := ee_var 0) (hb := ee_int)) (hb := ee_var 2))) (ss_one (ss_ret (ee_bl))) (ss_nil)))) (ss_cons (ss_set 3 (hN := sc_law_runs.nd) (he := ee_callP (F := G_law_fed) (hr := hr.mono (by decide)) (hm := glo__law_fed hy) (hk := F_law_fed.kp) (hb := ab_law_fed_3_) (tk := (L2N.takes_of rfl rfl rfl rfl)) (hp := rfl) (hmx := by decide) (hdd := fun _ => .nil) (ha := ea_cons (ee_ix (ha := ee_var 0) (hb := ee_int)) (ea_cons (ee_ix (ha := ee_var 0) (hb := ee_int)) (ea_cons (ee_var 1) (ea_nil)))) (hkw := ek_nil))) (ss_cons (ss_for (hp := (passes_of rfl)) (hc := rfl) (hi := ei_range1 (hm := (free_range hy)) (ha := ee_ix (ha := ee_var 0) (hb := ee_int))) (hg := eg_name 4 sc_law_runs.nd) (hb := ss_cons (ss_if (eb_lt (ha := ee_ix (ha := ee_var 3) (hb := ee_var 4)) (hb := ee_ix (ha := ee_ix (ha := ee_var 0) (hb := ee_int)) (hb := ee_var 4))) (ss_one (ss_ret (ee_bl))) (ss_nil)) (ss_one (ss_if (eb_w (ew_and (eb_notN (ha := ee_ix (ha := ee_ix (ha := ee_var 0) (hb := ee_int)) (hb := ee_var 4)) (hb := ee_non)) (ew_and1 (eb_gt (ha := ee_ix (ha := ee_var 3) (hb := ee_var 4)) (hb := ee_ix (ha := ee_ix (ha := ee_var 0) (hb := ee_int)) (hb := ee_var 4)))))) (ss_one (ss_ret (ee_bl))) (ss_nil))))) (ss_one (ss_ret (ee_bl))))))⟩
end LW
end

section
set_option maxHeartbeats 4000000
namespace LW
open PySem L2 EV
theorem sc_law_drawn_turns : FnScope ["_law_world_here", "_law_state", "_law_digits_here", "_law_row", "_law_present", "_law_many", "_law_digit", "_law_chosen", "_law_step"] ["_law_world_here", "_law_state", "_law_digits_here"] (defScope st_law_drawn_turns) := ⟨rfl, rfl, rfl, by decide +kernel, rfl, by decide +kernel, by decide +kernel⟩
def g_law_drawn_turns : FS := gSeq (gOwn 3 (lenOk (aNil))) (gSeq (gSet 4 (vVar 1)) (gSeq (gSet 5 (vCall lenD (aCons (vVar 1) (aNil)))) (gSeq (gFor (iSeq (vVar 2)) (nmG 6) (gSeq (gIf (v2 eqD (vVar 5) (vC (.int 0))) (gBrk) (gNext)) (gSeq (gSet 7 (v2 modD (vCall intD (aCons (v2 fdivD (vCall intD (aCons (vVar 6) (aNil))) (vC (.int 9))) (aNil))) (vVar 5))) (gSeq (gIf (v2 ltD (v2 modD (vCall intD (aCons (vVar 6) (aNil))) (vC (.int 9))) (vC (.int 8))) (gFor (iRange1 (vVar 5)) (nmG 8) (gIf (vCallP 2 0 [0, 1] sem_law_runs [] (aCons (vVar 0) (aCons (vCallP 2 0 [0, 1] sem_law_turn [] (aCons (vVar 4) (aCons (v2 modD (vCall intD (aCons (v2 addD (v2 fdivD (vCall intD (aCons (vVar 6) (aNil))) (vC (.int 9))) (vVar 8)) (aNil))) (vVar 5)) (aNil))) (aNil)) (aNil))) (aNil)) (gSeq (gSet 7 (v2 modD (vCall intD (aCons (v2 addD (v2 fdivD (vCall intD (aCons (vVar 6) (aNil))) (vC (.int 9))) (vVar 8)) (aNil))) (vVar 5))) (gBrk)) (gNext))) (gNext)) (gSeq (gAppO 3 (gApp 3 (vVar 7))) (gSet 4 (vCallP 2 0 [0, 1] sem_law_turn [] (aCons (vVar 4) (aCons (vVar 7) (aNil))) (aNil)))))))) (gRel 3 (gRet (vVar 3))))))
def sem_law_drawn_turns : List D → Option R := semF 9 g_law_drawn_turns
theorem ok_law_drawn_turns {P : Program} {w : World} {K : PySem.W.Frag} {mg : Str → Option Value} {base : Heap} (hy : Hyp K mg) : ∃ fd, FunD K d_law_drawn_turns.name d_law_drawn_turns.qual d_law_drawn_turns.params d_law_drawn_turns.body d_law_drawn_turns.scope (d_law_drawn_turns.dvs K) (d_law_drawn_turns.kws K) (He.fAd K d_law_drawn_turns.at_) fd ∧ FnOk P w K mg base (L2N.CX P w) 3 (He.fAd K d_law_drawn_turns.at_) fd ["_law_world_here", "_law_state", "_law_digits_here"] (spF (tab K) 3 (sem_law_drawn_turns)) := by
  obtain ⟨fd_law_runs, F_law_runs, G_law_runs⟩ := ok_law_runs (P := P) (w := w) (base := base) hy
  obtain ⟨fd_law_turn, F_law_turn, G_law_turn⟩ := ok_law_turn (P := P) (w := w) (base := base) hy
  have ab_law_runs_2_ : ArgB K fd_law_runs ["_law_world_here", "_law_state"] 2 [] [] [0, 1] := ArgB.given F_law_runs (fun kV doc pm an cdv ct us ws l1 l2 => match us, l1, ws, l2 with | [_, _], _, [], _ => rfl)
  have ab_law_turn_2_ : ArgB K fd_law_turn ["_law_state", "_law_sluice"] 2 [] [] [0, 1] := ArgB.given F_law_turn (fun kV doc pm an cdv ct us ws l1 l2 => match us, l1, ws, l2 with | [_, _], _, [], _ => rfl)
  obtain ⟨fd, F⟩ := hy.says.fn (13) (d := d_law_drawn_turns) rfl
  exact ⟨fd, F, fn_ev F sc_law_drawn_turns fun cdv A outer s H E hr => (ss_cons (ss_own 3 (hN := sc_law_drawn_turns.nd) (he := en_lst (ea_nil))) (ss_cons (ss_set 4 (hN := sc_law_drawn_turns.nd) (he := ee_var 1)) (ss_cons (ss_set 5 (hN := sc_law_drawn_turns.nd) (he := ee_callB (hc := call_len_seq) (h := (o_len rfl)) (hm := (free_len hy)) (hv := by decide +kernel) (ha := ea_cons (ee_var 1) (ea_nil)))) (ss_cons (ss_for (hp := (passes_of rfl)) (hc := rfl) (hi := ei_seq (he := ee_var 2)) (hg := eg_name 6 sc_law_drawn_turns.nd) (hb := ss_cons (ss_if (eb_eq (hr := hr) (ha := ee_var 5) (hb := ee_int)) (ss_one (ss_brk)) (ss_nil)) (ss_cons (ss_set 7 (hN := sc_law_drawn_turns.nd) (he := ee_mod (ha := ee_callT (hc := call_int1) (h := o_int) (hm := (free_int hy)) (hv := by decide +kernel) (ha := ea_cons (ee_fdiv (ha := ee_callT (hc := call_int1) (h := o_int) (hm := (free_int hy)) (hv := by decide +kernel) (ha := ea_cons (ee_var 6) (ea_nil))) (hb := ee_int)) (ea_nil))) (hb := ee_var 5))) (ss_cons (ss_if (eb_lt (ha := ee_mod (ha := ee_callT (hc := call_int1) (h := o_int) (hm := (free_int hy)) (hv := by decide +kernel) (ha := ea_cons (ee_var 6) (ea_nil))) (hb := ee_int)) (hb := ee_int)) (ss_one (ss_for (hp := (passes_of rfl)) (hc := rfl) (hi := ei_range1 (hm := (free_range hy)) (ha := ee_var 5)) (hg := eg_name 8 sc_law_drawn_turns.nd) (hb := ss_one (ss_if (eb_val (ee_callP (F := G_law_runs) (hr := hr.mono (by decide)) (hm := glo__law_runs hy) (hk := F_law_runs.kp) (hb := ab_law_runs_2_) (tk := (L2N.takes_of rfl rfl rfl rfl)) (hp := rfl) (hmx := by decide) (hdd := fun _ => .nil) (ha := ea_cons (ee_var 0) (ea_cons (ee_callP (F := G_law_turn) (hr := hr.mono (by decide)) (hm := glo__law_turn hy) (hk := F_law_turn.kp) (hb := ab_law_turn_2_) (tk := (L2N.takes_of rfl rfl rfl rfl)) (hp := rfl) (hmx := by decide) (hdd := fun _ => .nil) (ha := ea_cons (ee_var 4) (ea_cons (ee_mod (ha := ee_callT (hc := call_int1) (h := o_int) (hm := (free_int hy)) (hv := by decide +kernel) (ha := ea_cons (ee_add (ha := ee_fdiv (ha := ee_callT (hc := call_int1) (h := o_int) (hm := (free_int hy)) (hv := by decide +kernel) (ha := ea_cons (ee_var 6) (ea_nil))) (hb := ee_int)) (hb := ee_var 8)) (ea_nil))) (hb := ee_var 5)) (ea_nil))) (hkw := ek_nil)) (ea_nil))) (hkw := ek_nil))) (ss_cons (ss_set 7 (hN := sc_law_drawn_turns.nd) (he := ee_mod (ha := ee_callT (hc := call_int1) (h := o_int) (hm := (free_int hy)) (hv := by decide +kernel) (ha := ea_cons (ee_add (ha := ee_fdiv (ha := ee_callT (hc := call_int1) (h := o_int) (hm := (free_int hy)) (hv := by decide +kernel) (ha := ea_cons (ee_var 6) (ea_nil))) (hb := ee_int)) (hb := ee_var 8)) (ea_nil))) (hb := ee_var 5))) (ss_one (ss_brk))) (ss_nil))))) (ss_nil)) (ss_cons (ss_app 3 (he := ee_var 7)) (ss_one (ss_set 4 (hN := sc_law_drawn_turns.nd) (he := ee_callP (F := G_law_turn) (hr := hr.mono (by decide)) (hm := glo__law_turn hy) (hk := F_law_turn.kp) (hb := ab_law_turn_2_) (tk := (L2N.takes_of rfl rfl rfl rfl)) (hp := rfl) (hmx := by decide) (hdd := fun _ => .nil) (ha := ea_cons (ee_var 4) (ea_cons (ee_var 7) (ea_nil))) (hkw := ek_nil))))))))) (ss_one (ss_rel 3 (ss_ret (ee_var 3))))))))⟩
end LW
end

section
set_option maxHeartbeats 4000000
namespace LW
open PySem L2 EV
theorem sc_law_visited : FnScope ["_law_world_here", "_law_state", "_law_row", "_law_visited_here", "_law_k", "_law_after"] ["_law_world_here", "_law_state", "_law_row"] (defScope st_law_visited) := ⟨rfl, rfl, rfl, by decide +kernel, rfl, by decide +kernel, by decide +kernel⟩
def g_law_visited : FS := gSeq (gIf (v1 notD (vCallP 2 0 [0, 1] sem_law_runs [] (aCons (vVar 0) (aCons (vVar 1) (aNil))) (aNil))) (gRet (vL (lenOk (aCons (vL (lenOk (aNil))) (aCons (v1 negD (vC (.int 1))) (aNil)))))) (gNext)) (gSeq (gOwn 3 (lenOk (aCons (vVar 1) (aNil)))) (gSeq (gFor (iRange1 (vCall lenD (aCons (vVar 2) (aNil)))) (nmG 4) (gSeq (gSetA 5 (vCallP 2 0 [0, 1] sem_law_turn [] (aCons (v2 ixD (vVar 3) (vVar 4)) (aCons (v2 ixD (vVar 2) (vVar 4)) (aNil))) (aNil))) (gSeq (gIf (v1 notD (vCallP 2 0 [0, 1] sem_law_runs [] (aCons (vVar 0) (aCons (vVar 5) (aNil))) (aNil))) (gRel 3 (gRet (vL (lenOk (aCons (vVar 3) (aCons (vVar 4) (aNil))))))) (gNext)) (gAppO 3 (gApp 3 (vVar 5)))))) (gRel 3 (gRet (vL (lenOk (aCons (vVar 3) (aCons (vC .non) (aNil)))))))))
def sem_law_visited : List D → Option R := semF 6 g_law_visited
theorem ok_law_visited {P : Program} {w : World} {K : PySem.W.Frag} {mg : Str → Option Value} {base : Heap} (hy : Hyp K mg) : ∃ fd, FunD K d_law_visited.name d_law_visited.qual d_law_visited.params d_law_visited.body d_law_visited.scope (d_law_visited.dvs K) (d_law_visited.kws K) (He.fAd K d_law_visited.at_) fd ∧ FnOk P w K mg base (L2N.CX P w) 3 (He.fAd K d_law_visited.at_) fd ["_law_world_here", "_law_state", "_law_row"] (spF (tab K) 3 (sem_law_visited)) := by
  obtain ⟨fd_law_runs, F_law_runs, G_law_runs⟩ := ok_law_runs (P := P) (w := w) (base := base) hy
  obtain ⟨fd_law_turn, F_law_turn, G_law_turn⟩ := ok_law_turn (P := P) (w := w) (base := base) hy
  have ab_law_runs_2_ : ArgB K fd_law_runs ["_law_world_here", "_law_state"] 2 [] [] [0, 1] := ArgB.given F_law_runs (fun kV doc pm an cdv ct us ws l1 l2 => match us, l1, ws, l2 with | [_, _], _, [], _ => rfl)
  have ab_law_turn_2_ : ArgB K fd_law_turn ["_law_state", "_law_sluice"] 2 [] [] [0, 1] := ArgB.given F_law_turn (fun kV doc pm an cdv ct us ws l1 l2 => match us, l1, ws, l2 with | [_, _], _, [], _ => rfl)
  obtain ⟨fd, F⟩ := hy.says.fn (14) (d := d_law_visited) rfl
  exact ⟨fd, F, fn_ev F sc_law_visited fun cdv A outer s H E hr => (ss_cons (ss_if (eb_not (eb_val (ee_callP (F := G_law_runs) (hr := hr.mono (by decide)) (hm := glo__law_runs hy) (hk := F_law_runs.kp) (hb := ab_law_runs_2_) (tk := (L2N.takes_of rfl rfl rfl rfl)) (hp := rfl) (hmx := by decide) (hdd := fun _ => .nil) (ha := ea_cons (ee_var 0) (ea_cons (ee_var 1) (ea_nil))) (hkw := ek_nil)))) (ss_one (ss_ret (en_ee (en_lst (ea_cons (en_ee (en_lst (ea_nil))) (ea_cons (ee_neg (ee_int)) (ea_nil))))))) (ss_nil)) (ss_cons (ss_own 3 (hN := sc_law_visited.nd) (he := en_lst (ea_cons (ee_var 1) (ea_nil)))) (ss_cons (ss_for (hp := (passes_of rfl)) (hc := rfl) (hi := ei_range1 (hm := (free_range hy)) (ha := ee_callB (hc := call_len_seq) (h := (o_len rfl)) (hm := (free_len hy)) (hv := by decide +kernel) (ha := ea_cons (ee_var 2) (ea_nil)))) (hg := eg_name 4 sc_law_visited.nd) (hb := ss_cons (ss_setA 5 (hN := sc_law_visited.nd) (he := ee_callP (F := G_law_turn) (hr := hr.mono (by decide)) (hm := glo__law_turn hy) (hk := F_law_turn.kp) (hb := ab_law_turn_2_) (tk := (L2N.takes_of rfl rfl rfl rfl)) (hp := rfl) (hmx := by decide) (hdd := fun _ => .nil) (ha := ea_cons (ee_ix (ha := ee_var 3) (hb := ee_var 4)) (ea_cons (ee_ix (ha := ee_var 2) (hb := ee_var 4)) (ea_nil))) (hkw := ek_nil))) (ss_cons (ss_if (eb_not (eb_val (ee_callP (F := G_law_runs) (hr := hr.mono (by decide)) (hm := glo__law_runs hy) (hk := F_law_runs.kp) (hb := ab_law_runs_2_) (tk := (L2N.takes_of rfl rfl rfl rfl)) (hp := rfl) (hmx := by decide) (hdd := fun _ => .nil) (ha := ea_cons (ee_var 0) (ea_cons (ee_var 5) (ea_nil))) (hkw := ek_nil)))) (ss_one (ss_rel 3 (ss_ret (en_ee (en_lst (ea_cons (ee_var 3) (ea_cons (ee_var 4) (ea_nil)))))))) (ss_nil)) (ss_one (ss_app 3 (he := ee_var 5)))))) (ss_one (ss_rel 3 (ss_ret (en_ee (en_lst (ea_cons (ee_var 3) (ea_cons (ee_non) (ea_nil)))))))))))⟩
end LW
end

section
set_option maxHeartbeats 4000000
namespace LW
open PySem L2 EV
theorem sc_law_form : FnScope ["_law_row", "_law_kind"] ["_law_row", "_law_kind"] (defScope st_law_form) := ⟨rfl, rfl, rfl, by decide +kernel, rfl, by decide +kernel, by decide +kernel⟩
def g_law_form : FS := gSeq (gIf (v2 eqD (v2 modD (vCall intD (aCons (vVar 1) (aNil))) (vC (.int 2))) (vC (.int 1))) (gRet (vL (nCall listD (aCons (vVar 0) (aNil))))) (gNext)) (gRet (vCall tupleD (aCons (vVar 0) (aNil))))
def sem_law_form : List D → Option R := semF 2 g_law_form
theorem ok_law_form {P : Program} {w : World} {K : PySem.W.Frag} {mg : Str → Option Value} {base : Heap} (hy : Hyp K mg) : ∃ fd, FunD K d_law_form.name d_law_form.qual d_law_form.params d_law_form.body d_law_form.scope (d_law_form.dvs K) (d_law_form.kws K) (He.fAd K d_law_form.at_) fd ∧ FnOk P w K mg base (L2N.CX P w) 1 (He.fAd K d_law_form.at_) fd ["_law_row", "_law_kind"] (spF (tab K) 2 (sem_law_form)) := by
  obtain ⟨fd, F⟩ := hy.says.fn (15) (d := d_law_form) rfl
  exact ⟨fd, F, fn_ev F sc_law_form fun cdv A outer s H E hr => (ss_cons (ss_if (eb_eq (hr := hr) (ha := ee_mod (ha := ee_callT (hc := call_int1) (h := o_int) (hm := (free_int hy)) (hv := by decide +kernel) (ha := ea_cons (ee_var 1) (ea_nil))) (hb := ee_int)) (hb := ee_int)) (ss_one (ss_ret (en_ee (en_callT (hc := call_list_of) (h := (o_list rfl)) (hm := (free_list hy)) (hv := by decide +kernel) (ha := ea_cons (ee_var 0) (ea_nil)))))) (ss_nil)) (ss_one (ss_ret (ee_callT (hc := call_tuple_of) (h := (o_tuple rfl)) (hm := (free_tuple hy)) (hv := by decide +kernel) (ha := ea_cons (ee_var 0) (ea_nil))))))⟩
end LW
end

section
set_option maxHeartbeats 4000000
namespace LW
open PySem L2 EV
theorem sc_law_truth : FnScope ["_law_answer", "_law_due"] ["_law_answer", "_law_due"] (defScope st_law_truth) := ⟨rfl, rfl, rfl, by decide +kernel, rfl, by decide +kernel, by decide +kernel⟩
def g_law_truth : FS := gSeq (gIf (vVar 1) (gRet (v2 isBlD (vVar 0) (vC (.bl true)))) (gNext)) (gRet (v2 isBlD (vVar 0) (vC (.bl false))))
def sem_law_truth : List D → Option R := semF 2 g_law_truth
theorem ok_law_truth {P : Program} {w : World} {K : PySem.W.Frag} {mg : Str → Option Value} {base : Heap} (hy : Hyp K mg) : ∃ fd, FunD K d_law_truth.name d_law_truth.qual d_law_truth.params d_law_truth.body d_law_truth.scope (d_law_truth.dvs K) (d_law_truth.kws K) (He.fAd K d_law_truth.at_) fd ∧ FnOk P w K mg base (L2N.CX P w) 1 (He.fAd K d_law_truth.at_) fd ["_law_answer", "_law_due"] (spF (tab K) 2 (sem_law_truth)) := by
  obtain ⟨fd, F⟩ := hy.says.fn (16) (d := d_law_truth) rfl
  exact ⟨fd, F, fn_ev F sc_law_truth fun cdv A outer s H E hr => (ss_cons (ss_if (eb_val (ee_var 1)) (ss_one (ss_ret (ee_isB (ha := ee_var 0) (hb := ee_bl)))) (ss_nil)) (ss_one (ss_ret (ee_isB (ha := ee_var 0) (hb := ee_bl)))))⟩
end LW
end

section
set_option maxHeartbeats 4000000
namespace LW
open PySem L2 EV
theorem sc_law_whole : FnScope ["_law_value"] ["_law_value"] (defScope st_law_whole) := ⟨rfl, rfl, rfl, by decide +kernel, rfl, by decide +kernel, by decide +kernel⟩
def g_law_whole : FS := gRet (vAnd (v1 (isD [.int]) (vVar 0)) (v1 notD (v1 (isD [.bl]) (vVar 0))))
def sem_law_whole : List D → Option R := semF 1 g_law_whole
theorem ok_law_whole {P : Program} {w : World} {K : PySem.W.Frag} {mg : Str → Option Value} {base : Heap} (hy : Hyp K mg) : ∃ fd, FunD K d_law_whole.name d_law_whole.qual d_law_whole.params d_law_whole.body d_law_whole.scope (d_law_whole.dvs K) (d_law_whole.kws K) (He.fAd K d_law_whole.at_) fd ∧ FnOk P w K mg base (L2N.CX P w) 1 (He.fAd K d_law_whole.at_) fd ["_law_value"] (spF (tab K) 1 (sem_law_whole)) := by
  obtain ⟨fd, F⟩ := hy.says.fn (17) (d := d_law_whole) rfl
  exact ⟨fd, F, fn_ev F sc_law_whole fun cdv A outer s H E hr => (ss_one (ss_ret (ee_and (ee_isi .int (hm := (free_isinstance hy)) (hmy := (free_int hy)) (hvy := by decide +kernel) (ha := ee_var 0)) (ee_one (ee_not (ee_isi .bl (hm := (free_isinstance hy)) (hmy := (free_bool hy)) (hvy := by decide +kernel) (ha := ee_var 0)))))))⟩
theorem okH_law_whole {P : Program} {w : World} {K : PySem.W.Frag} {mg : Str → Option Value} {base : Heap} (hy : Hyp K mg) : ∃ fd, FunD K d_law_whole.name d_law_whole.qual d_law_whole.params d_law_whole.body d_law_whole.scope (d_law_whole.dvs K) (d_law_whole.kws K) (He.fAd K d_law_whole.at_) fd ∧ L2H.FnH P w K mg base (L2N.CX P w) 1 (He.fAd K d_law_whole.at_) fd ["_law_value"] (spF (tab K) 1 (sem_law_whole)) := by
  obtain ⟨fd, F⟩ := hy.says.fn (17) (d := d_law_whole) rfl
  exact ⟨fd, F, fn_evH F sc_law_whole fun cdv A outer s H E p hc hr => (ss_one (ss_ret (ee_and (ee_isi .int (hm := (free_isinstance hy)) (hmy := (free_int hy)) (hvy := by decide +kernel) (ha := ee_var 0)) (ee_one (ee_not (ee_isi .bl (hm := (free_isinstance hy)) (hmy := (free_bool hy)) (hvy := by decide +kernel) (ha := ee_var 0)))))))⟩
end LW
end

section
set_option maxHeartbeats 4000000
namespace LW
open PySem L2 EV
theorem sc_law_same : FnScope ["_law_value", "_law_expected", "_law_k"] ["_law_value", "_law_expected"] (defScope st_law_same) := ⟨rfl, rfl, rfl, by decide +kernel, rfl, by decide +kernel, by decide +kernel⟩
def g_law_same : FS := gSeq (gIf (vOr (v1 notD (v1 (isD [.tup]) (vVar 0))) (v2 neD (vCall lenD (aCons (vVar 0) (aNil))) (vCall lenD (aCons (vVar 1) (aNil))))) (gRet (vC (.bl false))) (gNext)) (gSeq (gFor (iRange1 (vCall lenD (aCons (vVar 1) (aNil)))) (nmG 2) (gIf (vOr (v1 notD (vCallP 1 0 [0] sem_law_whole [] (aCons (v2 ixD (vVar 0) (vVar 2)) (aNil)) (aNil))) (v2 neD (v2 ixD (vVar 0) (vVar 2)) (v2 ixD (vVar 1) (vVar 2)))) (gRet (vC (.bl false))) (gNext))) (gRet (vC (.bl true))))
def sem_law_same : List D → Option R := semF 3 g_law_same
theorem ok_law_same {P : Program} {w : World} {K : PySem.W.Frag} {mg : Str → Option Value} {base : Heap} (hy : Hyp K mg) : ∃ fd, FunD K d_law_same.name d_law_same.qual d_law_same.params d_law_same.body d_law_same.scope (d_law_same.dvs K) (d_law_same.kws K) (He.fAd K d_law_same.at_) fd ∧ FnOk P w K mg base (L2N.CX P w) 2 (He.fAd K d_law_same.at_) fd ["_law_value", "_law_expected"] (spF (tab K) 2 (sem_law_same)) := by
  obtain ⟨fd_law_whole, F_law_whole, G_law_whole⟩ := ok_law_whole (P := P) (w := w) (base := base) hy
  have ab_law_whole_1_ : ArgB K fd_law_whole ["_law_value"] 1 [] [] [0] := ArgB.given F_law_whole (fun kV doc pm an cdv ct us ws l1 l2 => match us, l1, ws, l2 with | [_], _, [], _ => rfl)
  obtain ⟨fd, F⟩ := hy.says.fn (18) (d := d_law_same) rfl
  exact ⟨fd, F, fn_ev F sc_law_same fun cdv A outer s H E hr => (ss_cons (ss_if (eb_w (ew_or (eb_not (eb_val (ee_isi .tup (hm := (free_isinstance hy)) (hmy := (free_tuple hy)) (hvy := by decide +kernel) (ha := ee_var 0)))) (ew_or1 (eb_ne (hr := hr) (ha := ee_callB (hc := call_len_seq) (h := (o_len rfl)) (hm := (free_len hy)) (hv := by decide +kernel) (ha := ea_cons (ee_var 0) (ea_nil))) (hb := ee_callB (hc := call_len_seq) (h := (o_len rfl)) (hm := (free_len hy)) (hv := by decide +kernel) (ha := ea_cons (ee_var 1) (ea_nil))))))) (ss_one (ss_ret (ee_bl))) (ss_nil)) (ss_cons (ss_for (hp := (passes_of rfl)) (hc := rfl) (hi := ei_range1 (hm := (free_range hy)) (ha := ee_callB (hc := call_len_seq) (h := (o_len rfl)) (hm := (free_len hy)) (hv := by decide +kernel) (ha := ea_cons (ee_var 1) (ea_nil)))) (hg := eg_name 2 sc_law_same.nd) (hb := ss_one (ss_if (eb_w (ew_or (eb_not (eb_val (ee_callP (F := G_law_whole) (hr := hr.mono (by decide)) (hm := glo__law_whole hy) (hk := F_law_whole.kp) (hb := ab_law_whole_1_) (tk := (L2N.takes_of rfl rfl rfl rfl)) (hp := rfl) (hmx := by decide) (hdd := fun _ => .nil) (ha := ea_cons (ee_ix (ha := ee_var 0) (hb := ee_var 2)) (ea_nil)) (hkw := ek_nil)))) (ew_or1 (eb_ne (hr := hr) (ha := ee_ix (ha := ee_var 0) (hb := ee_var 2)) (hb := ee_ix (ha := ee_var 1) (hb := ee_var 2)))))) (ss_one (ss_ret (ee_bl))) (ss_nil)))) (ss_one (ss_ret (ee_bl)))))⟩
theorem okH_law_same {P : Program} {w : World} {K : PySem.W.Frag} {mg : Str → Option Value} {base : Heap} (hy : Hyp K mg) : ∃ fd, FunD K d_law_same.name d_law_same.qual d_law_same.params d_law_same.body d_law_same.scope (d_law_same.dvs K) (d_law_same.kws K) (He.fAd K d_law_same.at_) fd ∧ L2H.FnH P w K mg base (L2N.CX P w) 2 (He.fAd K d_law_same.at_) fd ["_law_value", "_law_expected"] (spF (tab K) 2 (sem_law_same)) := by
  obtain ⟨fdH_law_whole, FH_law_whole, H_law_whole⟩ := okH_law_whole (P := P) (w := w) (base := base) hy
  have abH_law_whole : ArgB K fdH_law_whole ["_law_value"] 1 [] [] [0] := ArgB.given FH_law_whole (fun kV doc pm an cdv ct us ws l1 l2 => match us, l1, ws, l2 with | [_], _, [], _ => rfl)
  obtain ⟨fd, F⟩ := hy.says.fn (18) (d := d_law_same) rfl
  exact ⟨fd, F, fn_evH F sc_law_same fun cdv A outer s H E p hc hr => (ss_cons (ss_if (eb_w (ew_or (eb_not (eb_val (ee_isi .tup (hm := (free_isinstance hy)) (hmy := (free_tuple hy)) (hvy := by decide +kernel) (ha := ee_var 0)))) (ew_or1 (eb_neH (hr := hr) (ha := ee_callB (hc := call_len_seq) (h := (o_len rfl)) (hm := (free_len hy)) (hv := by decide +kernel) (ha := ea_cons (ee_var 0) (ea_nil))) (hb := ee_callB (hc := call_len_seq) (h := (o_len rfl)) (hm := (free_len hy)) (hv := by decide +kernel) (ha := ea_cons (ee_var 1) (ea_nil))))))) (ss_one (ss_ret (ee_bl))) (ss_nil)) (ss_cons (ss_forH (hp := passes_of rfl) (hc := hc) (hi := ei_range1H (hm := (free_range hy)) (ha := ee_callB (hc := call_len_seq) (h := (o_len rfl)) (hm := (free_len hy)) (hv := by decide +kernel) (ha := ea_cons (ee_var 1) (ea_nil)))) (hg := eg_name 2 sc_law_same.nd) (hb := ss_one (ss_if (eb_w (ew_or (eb_not (eb_val (ee_callH (F := H_law_whole) (hr := hr.mono (by decide)) (hc := hc) (hm := glo__law_whole hy) (hk := FH_law_whole.kp) (hb := abH_law_whole.binds rfl rfl) (tk := (L2N.takes_of rfl rfl rfl rfl)) (ha := ea_cons (ee_ix (ha := ee_var 0) (hb := ee_var 2)) (ea_nil)) (hl := rfl)))) (ew_or1 (eb_neH (hr := hr) (ha := ee_ix (ha := ee_var 0) (hb := ee_var 2)) (hb := ee_ix (ha := ee_var 1) (hb := ee_var 2)))))) (ss_one (ss_ret (ee_bl))) (ss_nil)))) (ss_one (ss_ret (ee_bl)))))⟩
end LW
end

section
set_option maxHeartbeats 4000000
namespace LW
open PySem L2 EV
theorem sc_Season__contains : FnScope ["self", "setting", "counts", "pair", "side", "let", "mill", "count", "need", "limit", "_"] ["self", "setting"] (defScope st_Season__contains) := ⟨rfl, rfl, rfl, by decide +kernel, rfl, by decide +kernel, by decide +kernel⟩
def g_Season__contains : FS := gSeq (gOwn 2 (nLc (iSeq (v1 (fldD 6 1) (vVar 0))) (nmG 10) (vYes) (vC (.int 0)) [10])) (gSeq (gFor (iZip3 (v1 (fldD 7 1) (v1 (fldD 6 0) (vVar 0))) (vVar 1) (v1 (fldD 6 3) (vVar 0))) (tupG (lenG 3 (consG (nmG 3) (consG (nmG 4) (consG (nmG 5) (nilG)))))) (gSeq (gIf (v2 ninD (vVar 4) (vVar 5)) (gRet (vC (.bl false))) (gNext)) (gSeq (gSet 6 (v2 ixD (vVar 3) (vVar 4))) (gSetIxA 2 (vVar 6) (v2 addD (v2 ixD (vVar 2) (vVar 6)) (vC (.int 1))))))) (gSeq (gRel 2 (gFor (iZip3 (vVar 2) (v1 (fldD 6 1) (vVar 0)) (v1 (fldD 6 2) (vVar 0))) (tupG (lenG 3 (consG (nmG 7) (consG (nmG 8) (consG (nmG 9) (nilG)))))) (gIf (vOr (v2 ltD (vVar 7) (vVar 8)) (vAnd (v2 notNonD (vVar 9) (vC .non)) (v2 gtD (vVar 7) (vVar 9)))) (gRet (vC (.bl false))) (gNext)))) (gRet (vC (.bl true)))))
def sem_Season__contains : List D → Option R := semF 11 g_Season__contains
theorem ok_Season__contains {P : Program} {w : World} {K : PySem.W.Frag} {mg : Str → Option Value} {base : Heap} (hy : Hyp K mg) : ∃ fd, FunD K d_Season__contains.name d_Season__contains.qual d_Season__contains.params d_Season__contains.body d_Season__contains.scope (d_Season__contains.dvs K) (d_Season__contains.kws K) (He.fAd K d_Season__contains.at_) fd ∧ FnOk P w K mg base (L2N.CX P w) 1 (He.fAd K d_Season__contains.at_) fd ["self", "setting"] (spF (tab K) 2 (sem_Season__contains)) := by
  obtain ⟨fd, F⟩ := hy.says.fn (19) (d := d_Season__contains) rfl
  exact ⟨fd, F, fn_ev F sc_Season__contains fun cdv A outer s H E hr => (ss_cons (ss_lc_o (ps_lcs (i := 2) (hy := rfl) (hyl := rfl) (hsw := sw_true rfl rfl rfl (by decide +kernel)) (own := [("_", 10)]) (hc := rfl) (hN := sc_Season__contains.nd) (ok := blkOk_by (show blkC ["self", "setting", "counts", "pair", "side", "let", "mill", "count", "need", "limit", "_"] (defScope st_Season__contains) _ [("_", 10)] = true by decide +kernel)) (hi := ei_seq (he := ee_fld (F := fld_Season_needs hy) (ha := ee_var 0))) (hg := fun _ _ _ _ _ => eg_name 10 sc_Season__contains.nd) (ht := fun _ _ _ _ _ => et_nil) (he := fun _ _ _ _ _ => ee_int)) (w_lc (by decide))) (ss_cons (ss_for (hp := (passes_of rfl)) (hc := rfl) (hi := ei_zip3 (hm := (free_zip hy)) (ha := ee_fld (F := fld_Valley_sluices hy) (ha := ee_fld (F := fld_Season_valley hy) (ha := ee_var 0))) (hb := ee_var 1) (hc := ee_fld (F := fld_Season_sides hy) (ha := ee_var 0))) (hg := eg_tup (hc := rfl) (h := egs_cons (eg_name 3 sc_Season__contains.nd) (egs_cons (eg_name 4 sc_Season__contains.nd) (egs_cons (eg_name 5 sc_Season__contains.nd) (egs_nil))))) (hb := ss_cons (ss_if (eb_nin (hr := hr) (hm := by rfl) (ha := ee_var 4) (hb := ee_var 5)) (ss_one (ss_ret (ee_bl))) (ss_nil)) (ss_cons (ss_set 6 (hN := sc_Season__contains.nd) (he := ee_ix (ha := ee_var 3) (hb := ee_var 4))) (ss_one (ss_setIxA 2 (hg := fun h => pg_sub (pv 2) h set_list) (hk := ee_var 6) (he := ee_add (ha := ee_ix (ha := ee_var 2) (hb := ee_var 6)) (hb := ee_int))))))) (ss_cons (ss_rel 2 (ss_for (hp := (passes_of rfl)) (hc := rfl) (hi := ei_zip3 (hm := (free_zip hy)) (ha := ee_var 2) (hb := ee_fld (F := fld_Season_needs hy) (ha := ee_var 0)) (hc := ee_fld (F := fld_Season_limits hy) (ha := ee_var 0))) (hg := eg_tup (hc := rfl) (h := egs_cons (eg_name 7 sc_Season__contains.nd) (egs_cons (eg_name 8 sc_Season__contains.nd) (egs_cons (eg_name 9 sc_Season__contains.nd) (egs_nil))))) (hb := ss_one (ss_if (eb_w (ew_or (eb_lt (ha := ee_var 7) (hb := ee_var 8)) (ew_or1 (eb_w (ew_and (eb_notN (ha := ee_var 9) (hb := ee_non)) (ew_and1 (eb_gt (ha := ee_var 7) (hb := ee_var 9)))))))) (ss_one (ss_ret (ee_bl))) (ss_nil))))) (ss_one (ss_ret (ee_bl))))))⟩
end LW
end

section
set_option maxHeartbeats 4000000
namespace LW
open PySem L2 EV
theorem sc_NotRunning__init : FnScope ["self", "setting"] ["self", "setting"] (defScope st_NotRunning__init) := ⟨rfl, rfl, rfl, by decide +kernel, rfl, by decide +kernel, by decide +kernel⟩
theorem ok_NotRunning__init {P : Program} {w : World} {K : PySem.W.Frag} {mg : Str → Option Value} {base : Heap} (hy : Hyp K mg) : ∃ fd, FunD K d_NotRunning__init.name d_NotRunning__init.qual d_NotRunning__init.params d_NotRunning__init.body d_NotRunning__init.scope (d_NotRunning__init.dvs K) (d_NotRunning__init.kws K) (He.fAd K d_NotRunning__init.at_) fd ∧ FnOk P w K mg base (L2N.CX P w) 1 (He.fAd K d_NotRunning__init.at_) fd ["self", "setting"] (spX (He.ga K "NotRunning") "setting") := by
  obtain ⟨fd, F⟩ := hy.says.fn (20) (d := d_NotRunning__init) rfl
  exact ⟨fd, F, fn_xinit F sc_NotRunning__init (oex_NotRunning hy) (xno_NotRunning hy)⟩
end LW
end

section
set_option maxHeartbeats 4000000
namespace LW
open PySem L2 EV
theorem sc_require_running : FnScope ["season", "setting", "kept"] ["season", "setting"] (defScope st_require_running) := ⟨rfl, rfl, rfl, by decide +kernel, rfl, by decide +kernel, by decide +kernel⟩
def g_require_running : FS := gSeq (gSet 2 (vCall tupleD (aCons (vVar 1) (aNil)))) (gSeq (gIf (v2 (ninOD 6 sem_Season__contains) (vVar 2) (vVar 0)) (gRaise 21 (vVar 2)) (gNext)) (gRet (vVar 2)))
def sem_require_running : List D → Option R := semF 3 g_require_running
theorem ok_require_running {P : Program} {w : World} {K : PySem.W.Frag} {mg : Str → Option Value} {base : Heap} (hy : Hyp K mg) : ∃ fd, FunD K d_require_running.name d_require_running.qual d_require_running.params d_require_running.body d_require_running.scope (d_require_running.dvs K) (d_require_running.kws K) (He.fAd K d_require_running.at_) fd ∧ FnOk P w K mg base (L2N.CX P w) 3 (He.fAd K d_require_running.at_) fd ["season", "setting"] (spF (tab K) 2 (sem_require_running)) := by
  obtain ⟨fd_Season__contains, F_Season__contains, G_Season__contains⟩ := ok_Season__contains (P := P) (w := w) (base := base) hy
  obtain ⟨fd_NotRunning__init, F_NotRunning__init, G_NotRunning__init⟩ := ok_NotRunning__init (P := P) (w := w) (base := base) hy
  have ab_Season__contains_2_ : ArgB K fd_Season__contains ["self", "setting"] 2 [] [] [0, 1] := ArgB.given F_Season__contains (fun kV doc pm an cdv ct us ws l1 l2 => match us, l1, ws, l2 with | [_, _], _, [], _ => rfl)
  have ab_NotRunning__init_1_ : ArgB K fd_NotRunning__init ["self", "setting"] 2 [] [] [0, 1] := ArgB.given F_NotRunning__init (fun kV doc pm an cdv ct us ws l1 l2 => match us, l1, ws, l2 with | [_, _], _, [], _ => rfl)
  obtain ⟨fd, F⟩ := hy.says.fn (21) (d := d_require_running) rfl
  exact ⟨fd, F, fn_ev F sc_require_running fun cdv A outer s H E hr => (ss_cons (ss_set 2 (hN := sc_require_running.nd) (he := ee_callT (hc := call_tuple_of) (h := (o_tuple rfl)) (hm := (free_tuple hy)) (hv := by decide +kernel) (ha := ea_cons (ee_var 1) (ea_nil)))) (ss_cons (ss_if (eb_ninO (M := meth_Season__contains hy) (hm := by rfl) (F := G_Season__contains) (hr := hr.mono (by decide)) (hb := ab_Season__contains_2_) (ha := ee_var 2) (hb' := ee_var 0)) (ss_one (ss_raise (hc := rfl) (tk := (L2N.takes_of rfl rfl rfl rfl)) (OC := oex_NotRunning hy) (iC := (xin_NotRunning hy).1) (tI := (xin_NotRunning hy).2) (F1 := G_NotRunning__init) (hr := hr.mono (by decide)) (hb := ab_NotRunning__init_1_.binds rfl rfl) (hf := rfl) (hm := glo_NotRunning hy) (ha := ee_var 2))) (ss_nil)) (ss_one (ss_ret (ee_var 2)))))⟩
end LW
end

section
set_option maxHeartbeats 4000000
namespace LW
open PySem L2 EV
theorem sc_flipped : FnScope ["setting", "sluice"] ["setting", "sluice"] (defScope st_flipped) := ⟨rfl, rfl, rfl, by decide +kernel, rfl, by decide +kernel, by decide +kernel⟩
def g_flipped : FS := gRet (v2 addD (v2 addD (vCall tupleD (aCons (vSlice (vVar 0) (oNone) (oSome (vVar 1))) (aNil))) (vTup (aCons (v2 subD (vC (.int 1)) (v2 ixD (vVar 0) (vVar 1))) (aNil)))) (vCall tupleD (aCons (vSlice (vVar 0) (oSome (v2 addD (vVar 1) (vC (.int 1)))) (oNone)) (aNil))))
def sem_flipped : List D → Option R := semF 2 g_flipped
theorem ok_flipped {P : Program} {w : World} {K : PySem.W.Frag} {mg : Str → Option Value} {base : Heap} (hy : Hyp K mg) : ∃ fd, FunD K d_flipped.name d_flipped.qual d_flipped.params d_flipped.body d_flipped.scope (d_flipped.dvs K) (d_flipped.kws K) (He.fAd K d_flipped.at_) fd ∧ FnOk P w K mg base (L2N.CX P w) 1 (He.fAd K d_flipped.at_) fd ["setting", "sluice"] (spF (tab K) 2 (sem_flipped)) := by
  obtain ⟨fd, F⟩ := hy.says.fn (22) (d := d_flipped) rfl
  exact ⟨fd, F, fn_ev F sc_flipped fun cdv A outer s H E hr => (ss_one (ss_ret (ee_add (ha := ee_add (ha := ee_callT (hc := call_tuple_of) (h := (o_tuple rfl)) (hm := (free_tuple hy)) (hv := by decide +kernel) (ha := ea_cons (ee_slice (ha := ee_var 0) (hl := eo_none) (hu := (eo_some (ee_var 1)))) (ea_nil))) (hb := ee_tup (ea_cons (ee_sub (ha := ee_int) (hb := ee_ix (ha := ee_var 0) (hb := ee_var 1))) (ea_nil)))) (hb := ee_callT (hc := call_tuple_of) (h := (o_tuple rfl)) (hm := (free_tuple hy)) (hv := by decide +kernel) (ha := ea_cons (ee_slice (ha := ee_var 0) (hl := (eo_some (ee_add (ha := ee_var 1) (hb := ee_int)))) (hu := eo_none)) (ea_nil))))))⟩
end LW
end

section
set_option maxHeartbeats 4000000
namespace LW
open PySem L2 EV
theorem sc_BadWalk__init : FnScope ["self", "index"] ["self", "index"] (defScope st_BadWalk__init) := ⟨rfl, rfl, rfl, by decide +kernel, rfl, by decide +kernel, by decide +kernel⟩
theorem ok_BadWalk__init {P : Program} {w : World} {K : PySem.W.Frag} {mg : Str → Option Value} {base : Heap} (hy : Hyp K mg) : ∃ fd, FunD K d_BadWalk__init.name d_BadWalk__init.qual d_BadWalk__init.params d_BadWalk__init.body d_BadWalk__init.scope (d_BadWalk__init.dvs K) (d_BadWalk__init.kws K) (He.fAd K d_BadWalk__init.at_) fd ∧ FnOk P w K mg base (L2N.CX P w) 1 (He.fAd K d_BadWalk__init.at_) fd ["self", "index"] (spX (He.ga K "BadWalk") "index") := by
  obtain ⟨fd, F⟩ := hy.says.fn (23) (d := d_BadWalk__init) rfl
  exact ⟨fd, F, fn_xinit F sc_BadWalk__init (oex_BadWalk hy) (xno_BadWalk hy)⟩
end LW
end

section
set_option maxHeartbeats 4000000
namespace LW
open PySem L2 EV
theorem sc_follow : FnScope ["season", "setting", "turns", "present", "visited", "index", "sluice"] ["season", "setting", "turns"] (defScope st_follow) := ⟨rfl, rfl, rfl, by decide +kernel, rfl, by decide +kernel, by decide +kernel⟩
def g_follow : FS := gSeq (gSet 3 (vCallP 2 0 [0, 1] sem_require_running [] (aCons (vVar 0) (aCons (vVar 1) (aNil))) (aNil))) (gSeq (gOwn 4 (lenOk (aCons (vVar 3) (aNil)))) (gSeq (gFor (iEnum (vVar 2)) (tupG (lenG 2 (consG (nmG 5) (consG (nmG 6) (nilG))))) (gSeq (gSet 3 (vCallP 2 0 [0, 1] sem_flipped [] (aCons (vVar 3) (aCons (vVar 6) (aNil))) (aNil))) (gSeq (gIf (v2 (ninOD 6 sem_Season__contains) (vVar 3) (vVar 0)) (gRaise 22 (vVar 5)) (gNext)) (gAppO 4 (gApp 4 (vVar 3)))))) (gRel 4 (gRet (vCall tupleD (aCons (vVar 4) (aNil)))))))
def sem_follow : List D → Option R := semF 7 g_follow
theorem ok_follow {P : Program} {w : World} {K : PySem.W.Frag} {mg : Str → Option Value} {base : Heap} (hy : Hyp K mg) : ∃ fd, FunD K d_follow.name d_follow.qual d_follow.params d_follow.body d_follow.scope (d_follow.dvs K) (d_follow.kws K) (He.fAd K d_follow.at_) fd ∧ FnOk P w K mg base (L2N.CX P w) 4 (He.fAd K d_follow.at_) fd ["season", "setting", "turns"] (spF (tab K) 3 (sem_follow)) := by
  obtain ⟨fd_require_running, F_require_running, G_require_running⟩ := ok_require_running (P := P) (w := w) (base := base) hy
  obtain ⟨fd_flipped, F_flipped, G_flipped⟩ := ok_flipped (P := P) (w := w) (base := base) hy
  obtain ⟨fd_Season__contains, F_Season__contains, G_Season__contains⟩ := ok_Season__contains (P := P) (w := w) (base := base) hy
  obtain ⟨fd_BadWalk__init, F_BadWalk__init, G_BadWalk__init⟩ := ok_BadWalk__init (P := P) (w := w) (base := base) hy
  have ab_require_running_2_ : ArgB K fd_require_running ["season", "setting"] 2 [] [] [0, 1] := ArgB.given F_require_running (fun kV doc pm an cdv ct us ws l1 l2 => match us, l1, ws, l2 with | [_, _], _, [], _ => rfl)
  have ab_flipped_2_ : ArgB K fd_flipped ["setting", "sluice"] 2 [] [] [0, 1] := ArgB.given F_flipped (fun kV doc pm an cdv ct us ws l1 l2 => match us, l1, ws, l2 with | [_, _], _, [], _ => rfl)
  have ab_Season__contains_2_ : ArgB K fd_Season__contains ["self", "setting"] 2 [] [] [0, 1] := ArgB.given F_Season__contains (fun kV doc pm an cdv ct us ws l1 l2 => match us, l1, ws, l2 with | [_, _], _, [], _ => rfl)
  have ab_BadWalk__init_1_ : ArgB K fd_BadWalk__init ["self", "index"] 2 [] [] [0, 1] := ArgB.given F_BadWalk__init (fun kV doc pm an cdv ct us ws l1 l2 => match us, l1, ws, l2 with | [_, _], _, [], _ => rfl)
  obtain ⟨fd, F⟩ := hy.says.fn (24) (d := d_follow) rfl
  exact ⟨fd, F, fn_ev F sc_follow fun cdv A outer s H E hr => (ss_cons (ss_set 3 (hN := sc_follow.nd) (he := ee_callP (F := G_require_running) (hr := hr.mono (by decide)) (hm := glo_require_running hy) (hk := F_require_running.kp) (hb := ab_require_running_2_) (tk := (L2N.takes_of rfl rfl rfl rfl)) (hp := rfl) (hmx := by decide) (hdd := fun _ => .nil) (ha := ea_cons (ee_var 0) (ea_cons (ee_var 1) (ea_nil))) (hkw := ek_nil))) (ss_cons (ss_own 4 (hN := sc_follow.nd) (he := en_lst (ea_cons (ee_var 3) (ea_nil)))) (ss_cons (ss_for (hp := (passes_of rfl)) (hc := rfl) (hi := ei_enum (hm := (free_enumerate hy)) (ha := ee_var 2)) (hg := eg_tup (hc := rfl) (h := egs_cons (eg_name 5 sc_follow.nd) (egs_cons (eg_name 6 sc_follow.nd) (egs_nil)))) (hb := ss_cons (ss_set 3 (hN := sc_follow.nd) (he := ee_callP (F := G_flipped) (hr := hr.mono (by decide)) (hm := glo_flipped hy) (hk := F_flipped.kp) (hb := ab_flipped_2_) (tk := (L2N.takes_of rfl rfl rfl rfl)) (hp := rfl) (hmx := by decide) (hdd := fun _ => .nil) (ha := ea_cons (ee_var 3) (ea_cons (ee_var 6) (ea_nil))) (hkw := ek_nil))) (ss_cons (ss_if (eb_ninO (M := meth_Season__contains hy) (hm := by rfl) (F := G_Season__contains) (hr := hr.mono (by decide)) (hb := ab_Season__contains_2_) (ha := ee_var 3) (hb' := ee_var 0)) (ss_one (ss_raise (hc := rfl) (tk := (L2N.takes_of rfl rfl rfl rfl)) (OC := oex_BadWalk hy) (iC := (xin_BadWalk hy).1) (tI := (xin_BadWalk hy).2) (F1 := G_BadWalk__init) (hr := hr.mono (by decide)) (hb := ab_BadWalk__init_1_.binds rfl rfl) (hf := rfl) (hm := glo_BadWalk hy) (ha := ee_var 5))) (ss_nil)) (ss_one (ss_app 4 (he := ee_var 3)))))) (ss_one (ss_rel 4 (ss_ret (ee_callT (hc := call_tuple_of) (h := (o_tuple rfl)) (hm := (free_tuple hy)) (hv := by decide +kernel) (ha := ea_cons (ee_var 4) (ea_nil)))))))))⟩
end LW
end

section
set_option maxHeartbeats 4000000
namespace LW
open PySem L2 EV
theorem sc_law_same_rows : FnScope ["_law_value", "_law_expected", "_law_k"] ["_law_value", "_law_expected"] (defScope st_law_same_rows) := ⟨rfl, rfl, rfl, by decide +kernel, rfl, by decide +kernel, by decide +kernel⟩
def g_law_same_rows : FS := gSeq (gIf (vOr (v1 notD (v1 (isD [.tup]) (vVar 0))) (v2 neD (vCall lenD (aCons (vVar 0) (aNil))) (vCall lenD (aCons (vVar 1) (aNil))))) (gRet (vC (.bl false))) (gNext)) (gSeq (gFor (iRange1 (vCall lenD (aCons (vVar 1) (aNil)))) (nmG 2) (gIf (v1 notD (vCallP 2 0 [0, 1] sem_law_same [] (aCons (v2 ixD (vVar 0) (vVar 2)) (aCons (v2 ixD (vVar 1) (vVar 2)) (aNil))) (aNil))) (gRet (vC (.bl false))) (gNext))) (gRet (vC (.bl true))))
def sem_law_same_rows : List D → Option R := semF 3 g_law_same_rows
theorem ok_law_same_rows {P : Program} {w : World} {K : PySem.W.Frag} {mg : Str → Option Value} {base : Heap} (hy : Hyp K mg) : ∃ fd, FunD K d_law_same_rows.name d_law_same_rows.qual d_law_same_rows.params d_law_same_rows.body d_law_same_rows.scope (d_law_same_rows.dvs K) (d_law_same_rows.kws K) (He.fAd K d_law_same_rows.at_) fd ∧ FnOk P w K mg base (L2N.CX P w) 3 (He.fAd K d_law_same_rows.at_) fd ["_law_value", "_law_expected"] (spF (tab K) 2 (sem_law_same_rows)) := by
  obtain ⟨fd_law_same, F_law_same, G_law_same⟩ := ok_law_same (P := P) (w := w) (base := base) hy
  have ab_law_same_2_ : ArgB K fd_law_same ["_law_value", "_law_expected"] 2 [] [] [0, 1] := ArgB.given F_law_same (fun kV doc pm an cdv ct us ws l1 l2 => match us, l1, ws, l2 with | [_, _], _, [], _ => rfl)
  obtain ⟨fd, F⟩ := hy.says.fn (25) (d := d_law_same_rows) rfl
  exact ⟨fd, F, fn_ev F sc_law_same_rows fun cdv A outer s H E hr => (ss_cons (ss_if (eb_w (ew_or (eb_not (eb_val (ee_isi .tup (hm := (free_isinstance hy)) (hmy := (free_tuple hy)) (hvy := by decide +kernel) (ha := ee_var 0)))) (ew_or1 (eb_ne (hr := hr) (ha := ee_callB (hc := call_len_seq) (h := (o_len rfl)) (hm := (free_len hy)) (hv := by decide +kernel) (ha := ea_cons (ee_var 0) (ea_nil))) (hb := ee_callB (hc := call_len_seq) (h := (o_len rfl)) (hm := (free_len hy)) (hv := by decide +kernel) (ha := ea_cons (ee_var 1) (ea_nil))))))) (ss_one (ss_ret (ee_bl))) (ss_nil)) (ss_cons (ss_for (hp := (passes_of rfl)) (hc := rfl) (hi := ei_range1 (hm := (free_range hy)) (ha := ee_callB (hc := call_len_seq) (h := (o_len rfl)) (hm := (free_len hy)) (hv := by decide +kernel) (ha := ea_cons (ee_var 1) (ea_nil)))) (hg := eg_name 2 sc_law_same_rows.nd) (hb := ss_one (ss_if (eb_not (eb_val (ee_callP (F := G_law_same) (hr := hr.mono (by decide)) (hm := glo__law_same hy) (hk := F_law_same.kp) (hb := ab_law_same_2_) (tk := (L2N.takes_of rfl rfl rfl rfl)) (hp := rfl) (hmx := by decide) (hdd := fun _ => .nil) (ha := ea_cons (ee_ix (ha := ee_var 0) (hb := ee_var 2)) (ea_cons (ee_ix (ha := ee_var 1) (hb := ee_var 2)) (ea_nil))) (hkw := ek_nil)))) (ss_one (ss_ret (ee_bl))) (ss_nil)))) (ss_one (ss_ret (ee_bl)))))⟩
end LW
end

section
set_option maxHeartbeats 4000000
namespace LW
open PySem L2 EV
theorem sc_law_followed : FnScope ["_law_rule", "_law_state", "_law_row", "_law_visited_here", "_law_bad", "_law_answer", "e"] ["_law_rule", "_law_state", "_law_row", "_law_visited_here", "_law_bad"] (defScope st_law_followed) := ⟨rfl, rfl, rfl, by decide +kernel, rfl, by decide +kernel, by decide +kernel⟩
def g_law_followed : FS := gSeq (gTryAs 6 xs_SluiceError (gSet 5 (vCallP 3 0 [0, 1, 2] sem_follow [] (aCons (vVar 0) (aCons (vVar 1) (aCons (vVar 2) (aNil)))) (aNil))) (gSeq (gIf (vOr (v2 isNonD (vVar 4) (vC .non)) (v1 notD (xIs 6 xall [ys_ValueError]))) (gRet (vC (.bl false))) (gNext)) (gSeq (gIf (xIs 6 xall [ys_BadSluice, ys_BadNeed, ys_BadLimit, ys_BadSides, ys_ValleysDiffer, ys_NothingRuns, ys_EndlessPlan, ys_BadFollow]) (gRet (vC (.bl false))) (gNext)) (gSeq (gIf (xIs 6 xall [ys_BadMove, ys_NoHistory, ys_HasLimits, ys_NoSide, ys_Jammed, ys_WouldStop, ys_NoWay, ys_NothingToUndo, ys_BadNote]) (gRet (vC (.bl false))) (gNext)) (gSeq (gIf (v2 eqD (vVar 4) (v1 negD (vC (.int 1)))) (gRet (vAnd (xIs 6 xall [ys_NotRunning]) (vAnd (v1 notD (xIs 6 xall [ys_BadWalk])) (vCallP 2 0 [0, 1] sem_law_same [] (aCons (xFld 6 [21]) (aCons (vCall tupleD (aCons (vVar 1) (aNil))) (aNil))) aNil)))) (gNext)) (gRet (vAnd (xIs 6 xall [ys_BadWalk]) (vAnd (v1 notD (xIs 6 xall [ys_NotRunning])) (vAnd (vCallP 1 0 [0] sem_law_whole [] (aCons (xFld 6 [22]) (aNil)) aNil) (v2 eqD (xFld 6 [22]) (vVar 4))))))))))) (gRet (vAnd (v2 isNonD (vVar 4) (vC .non)) (vCallP 2 0 [0, 1] sem_law_same_rows [] (aCons (vVar 5) (aCons (vVar 3) (aNil))) (aNil))))
def sem_law_followed : List D → Option R := semF 7 g_law_followed
theorem ok_law_followed {P : Program} {w : World} {K : PySem.W.Frag} {mg : Str → Option Value} {base : Heap} (hy : Hyp K mg) : ∃ fd, FunD K d_law_followed.name d_law_followed.qual d_law_followed.params d_law_followed.body d_law_followed.scope (d_law_followed.dvs K) (d_law_followed.kws K) (He.fAd K d_law_followed.at_) fd ∧ FnOk P w K mg base (L2N.CX P w) 5 (He.fAd K d_law_followed.at_) fd ["_law_rule", "_law_state", "_law_row", "_law_visited_here", "_law_bad"] (spF (tab K) 5 (sem_law_followed)) := by
  obtain ⟨fdH_law_same, FH_law_same, H_law_same⟩ := okH_law_same (P := P) (w := w) (base := base) hy
  have abH_law_same : ArgB K fdH_law_same ["_law_value", "_law_expected"] 2 [] [] [0, 1] := ArgB.given FH_law_same (fun kV doc pm an cdv ct us ws l1 l2 => match us, l1, ws, l2 with | [_, _], _, [], _ => rfl)
  obtain ⟨fdH_law_whole, FH_law_whole, H_law_whole⟩ := okH_law_whole (P := P) (w := w) (base := base) hy
  have abH_law_whole : ArgB K fdH_law_whole ["_law_value"] 1 [] [] [0] := ArgB.given FH_law_whole (fun kV doc pm an cdv ct us ws l1 l2 => match us, l1, ws, l2 with | [_], _, [], _ => rfl)
  obtain ⟨fd_follow, F_follow, G_follow⟩ := ok_follow (P := P) (w := w) (base := base) hy
  obtain ⟨fd_law_same_rows, F_law_same_rows, G_law_same_rows⟩ := ok_law_same_rows (P := P) (w := w) (base := base) hy
  have ab_follow_3_ : ArgB K fd_follow ["season", "setting", "turns"] 3 [] [] [0, 1, 2] := ArgB.given F_follow (fun kV doc pm an cdv ct us ws l1 l2 => match us, l1, ws, l2 with | [_, _, _], _, [], _ => rfl)
  have ab_law_same_rows_2_ : ArgB K fd_law_same_rows ["_law_value", "_law_expected"] 2 [] [] [0, 1] := ArgB.given F_law_same_rows (fun kV doc pm an cdv ct us ws l1 l2 => match us, l1, ws, l2 with | [_, _], _, [], _ => rfl)
  obtain ⟨fd, F⟩ := hy.says.fn (26) (d := d_law_followed) rfl
  exact ⟨fd, F, fn_ev F sc_law_followed fun cdv A outer s H E hr => (ss_cons (ss_tryAs 6 (hN := sc_law_followed.nd) (tk := (L2N.takes_of rfl rfl rfl rfl)) (hm := glo_SluiceError hy) (he := exm_SluiceError hy) (hb := fun W pn xe tkW po => ss_one (ss_set 5 (hN := sc_law_followed.nd) (he := ee_callP (F := G_follow) (hr := hr.mono (by decide)) (hm := glo_follow hy) (hk := F_follow.kp) (hb := ab_follow_3_) (tk := tkW) (hp := rfl) (hmx := by decide) (hdd := fun _ => .nil) (ha := ea_cons (ee_var 0) (ea_cons (ee_var 1) (ea_cons (ee_var 2) (ea_nil)))) (hkw := ek_nil)))) (hsu := fun a oe cls d pn hz hfs => ss_cons (ss_if (eb_w (ew_or (eb_isN (ha := ee_var 4) (hb := ee_non)) (ew_or1 (eb_not (eb_val (ee_isX (hz := hz) (hf := hfs) 6 (hm := (free_isinstance hy)) (hc := (.ty rfl (by decide) (by decide) (free_ValueError hy) (by decide +kernel) .nil rfl)) (hk := kx_ValueError hy))))))) (ss_one (ss_ret (ee_bl))) (ss_nil)) (ss_cons (ss_if (eb_val (ee_isXT (hz := hz) (hf := hfs) 6 (hm := (free_isinstance hy)) (hc := (.own rfl (by decide) (glo_BadSluice hy) (.own rfl (by decide) (glo_BadNeed hy) (.own rfl (by decide) (glo_BadLimit hy) (.own rfl (by decide) (glo_BadSides hy) (.own rfl (by decide) (glo_ValleysDiffer hy) (.own rfl (by decide) (glo_NothingRuns hy) (.own rfl (by decide) (glo_EndlessPlan hy) (.own rfl (by decide) (glo_BadFollow hy) .nil rfl) rfl) rfl) rfl) rfl) rfl) rfl) rfl)) (hl := Nat.le_of_ble_eq_true rfl) (hk := fun c hc => ⟨exk_ok hy c hc, (.cons (kx_BadSluice hy c hc).2 (.cons (kx_BadNeed hy c hc).2 (.cons (kx_BadLimit hy c hc).2 (.cons (kx_BadSides hy c hc).2 (.cons (kx_ValleysDiffer hy c hc).2 (.cons (kx_NothingRuns hy c hc).2 (.cons (kx_EndlessPlan hy c hc).2 (.cons (kx_BadFollow hy c hc).2 .nil))))))))⟩))) (ss_one (ss_ret (ee_bl))) (ss_nil)) (ss_cons (ss_if (eb_val (ee_isXT (hz := hz) (hf := hfs) 6 (hm := (free_isinstance hy)) (hc := (.own rfl (by decide) (glo_BadMove hy) (.own rfl (by decide) (glo_NoHistory hy) (.own rfl (by decide) (glo_HasLimits hy) (.own rfl (by decide) (glo_NoSide hy) (.own rfl (by decide) (glo_Jammed hy) (.own rfl (by decide) (glo_WouldStop hy) (.own rfl (by decide) (glo_NoWay hy) (.own rfl (by decide) (glo_NothingToUndo hy) (.own rfl (by decide) (glo_BadNote hy) .nil rfl) rfl) rfl) rfl) rfl) rfl) rfl) rfl) rfl)) (hl := Nat.le_of_ble_eq_true rfl) (hk := fun c hc => ⟨exk_ok hy c hc, (.cons (kx_BadMove hy c hc).2 (.cons (kx_NoHistory hy c hc).2 (.cons (kx_HasLimits hy c hc).2 (.cons (kx_NoSide hy c hc).2 (.cons (kx_Jammed hy c hc).2 (.cons (kx_WouldStop hy c hc).2 (.cons (kx_NoWay hy c hc).2 (.cons (kx_NothingToUndo hy c hc).2 (.cons (kx_BadNote hy c hc).2 .nil)))))))))⟩))) (ss_one (ss_ret (ee_bl))) (ss_nil)) (ss_cons (ss_if (eb_eqH (hr := (roomH_suite hr)) (ha := ee_var 4) (hb := ee_neg (ee_int))) (ss_one (ss_ret (ee_and (ee_isX (hz := hz) (hf := hfs) 6 (hm := (free_isinstance hy)) (hc := (.own rfl (by decide) (glo_NotRunning hy) .nil rfl)) (hk := kx_NotRunning hy)) (ee_and (ee_not (ee_isX (hz := hz) (hf := hfs) 6 (hm := (free_isinstance hy)) (hc := (.own rfl (by decide) (glo_BadWalk hy) .nil rfl)) (hk := kx_BadWalk hy))) (ee_one (ee_callH (F := H_law_same) (hr := (roomH_suite hr).mono (by decide)) (hc := (hot_suite hz hfs)) (hm := glo__law_same hy) (hk := FH_law_same.kp) (hb := abH_law_same.binds rfl rfl) (tk := takesN) (ha := ea_cons (ee_xf (hz := hz) (hf := hfs) 6 (hk := xf_setting hy)) (ea_cons (ee_callT (hc := call_tuple_of) (h := (o_tuple rfl)) (hm := (free_tuple hy)) (hv := by decide +kernel) (ha := ea_cons (ee_var 1) (ea_nil))) (ea_nil))) (hl := rfl))))))) (ss_nil)) (ss_one (ss_ret (ee_and (ee_isX (hz := hz) (hf := hfs) 6 (hm := (free_isinstance hy)) (hc := (.own rfl (by decide) (glo_BadWalk hy) .nil rfl)) (hk := kx_BadWalk hy)) (ee_and (ee_not (ee_isX (hz := hz) (hf := hfs) 6 (hm := (free_isinstance hy)) (hc := (.own rfl (by decide) (glo_NotRunning hy) .nil rfl)) (hk := kx_NotRunning hy))) (ee_and (ee_callH (F := H_law_whole) (hr := (roomH_suite hr).mono (by decide)) (hc := (hot_suite hz hfs)) (hm := glo__law_whole hy) (hk := FH_law_whole.kp) (hb := abH_law_whole.binds rfl rfl) (tk := takesN) (ha := ea_cons (ee_xf (hz := hz) (hf := hfs) 6 (hk := xf_index hy)) (ea_nil)) (hl := rfl)) (ee_one (ee_eqH (hr := (roomH_suite hr)) (ha := ee_xf (hz := hz) (hf := hfs) 6 (hk := xf_index hy)) (hb := ee_var 4))))))))))))) (ss_one (ss_ret (ee_and (ee_isN (ha := ee_var 4) (hb := ee_non)) (ee_one (ee_callP (F := G_law_same_rows) (hr := hr.mono (by decide)) (hm := glo__law_same_rows hy) (hk := F_law_same_rows.kp) (hb := ab_law_same_rows_2_) (tk := (L2N.takes_of rfl rfl rfl rfl)) (hp := rfl) (hmx := by decide) (hdd := fun _ => .nil) (ha := ea_cons (ee_var 5) (ea_cons (ee_var 3) (ea_nil))) (hkw := ek_nil)))))))⟩
end LW
end

section
set_option maxHeartbeats 4000000
namespace LW
open PySem L2 EV
theorem sc_turnable : FnScope ["season", "setting", "present", "sluice"] ["season", "setting"] (defScope st_turnable) := ⟨rfl, rfl, rfl, by decide +kernel, rfl, by decide +kernel, by decide +kernel⟩
def g_turnable : FS := gSeq (gSet 2 (vCallP 2 0 [0, 1] sem_require_running [] (aCons (vVar 0) (aCons (vVar 1) (aNil))) (aNil))) (gRet (vCall tupleD (aCons (vL (nLc (iRange1 (vCall lenD (aCons (vVar 2) (aNil)))) (nmG 3) (v2 (inOD 6 sem_Season__contains) (vCallP 2 0 [0, 1] sem_flipped [] (aCons (vVar 2) (aCons (vVar 3) (aNil))) (aNil)) (vVar 0)) (vVar 3) [3])) (aNil))))
def sem_turnable : List D → Option R := semF 4 g_turnable
theorem ok_turnable {P : Program} {w : World} {K : PySem.W.Frag} {mg : Str → Option Value} {base : Heap} (hy : Hyp K mg) : ∃ fd, FunD K d_turnable.name d_turnable.qual d_turnable.params d_turnable.body d_turnable.scope (d_turnable.dvs K) (d_turnable.kws K) (He.fAd K d_turnable.at_) fd ∧ FnOk P w K mg base (L2N.CX P w) 4 (He.fAd K d_turnable.at_) fd ["season", "setting"] (spF (tab K) 2 (sem_turnable)) := by
  obtain ⟨fd_require_running, F_require_running, G_require_running⟩ := ok_require_running (P := P) (w := w) (base := base) hy
  obtain ⟨fd_flipped, F_flipped, G_flipped⟩ := ok_flipped (P := P) (w := w) (base := base) hy
  obtain ⟨fd_Season__contains, F_Season__contains, G_Season__contains⟩ := ok_Season__contains (P := P) (w := w) (base := base) hy
  have ab_require_running_2_ : ArgB K fd_require_running ["season", "setting"] 2 [] [] [0, 1] := ArgB.given F_require_running (fun kV doc pm an cdv ct us ws l1 l2 => match us, l1, ws, l2 with | [_, _], _, [], _ => rfl)
  have ab_flipped_2_ : ArgB K fd_flipped ["setting", "sluice"] 2 [] [] [0, 1] := ArgB.given F_flipped (fun kV doc pm an cdv ct us ws l1 l2 => match us, l1, ws, l2 with | [_, _], _, [], _ => rfl)
  have ab_Season__contains_2_ : ArgB K fd_Season__contains ["self", "setting"] 2 [] [] [0, 1] := ArgB.given F_Season__contains (fun kV doc pm an cdv ct us ws l1 l2 => match us, l1, ws, l2 with | [_, _], _, [], _ => rfl)
  obtain ⟨fd, F⟩ := hy.says.fn (27) (d := d_turnable) rfl
  exact ⟨fd, F, fn_ev F sc_turnable fun cdv A outer s H E hr => (ss_cons (ss_set 2 (hN := sc_turnable.nd) (he := ee_callP (F := G_require_running) (hr := hr.mono (by decide)) (hm := glo_require_running hy) (hk := F_require_running.kp) (hb := ab_require_running_2_) (tk := (L2N.takes_of rfl rfl rfl rfl)) (hp := rfl) (hmx := by decide) (hdd := fun _ => .nil) (ha := ea_cons (ee_var 0) (ea_cons (ee_var 1) (ea_nil))) (hkw := ek_nil))) (ss_one (ss_ret (ee_callT (hc := call_tuple_of) (h := (o_tuple rfl)) (hm := (free_tuple hy)) (hv := by decide +kernel) (ha := ea_cons (en_ee (en_lc (own := [("sluice", 3)]) (hc := rfl) (hN := sc_turnable.nd) (ok := blkOk_by (show blkC ["season", "setting", "present", "sluice"] (defScope st_turnable) _ [("sluice", 3)] = true by decide +kernel)) (hsub := by decide) (hi := ei_range1 (hm := (free_range hy)) (ha := ee_callB (hc := call_len_seq) (h := (o_len rfl)) (hm := (free_len hy)) (hv := by decide +kernel) (ha := ea_cons (ee_var 2) (ea_nil)))) (hg := fun _ _ _ _ _ => eg_name 3 sc_turnable.nd) (ht := fun _ _ _ _ _ => et_one (eb_inO (M := meth_Season__contains hy) (hm := by rfl) (F := G_Season__contains) (hr := hr.mono (by decide)) (hb := ab_Season__contains_2_) (ha := ee_callP (F := G_flipped) (hr := hr.mono (by decide)) (hm := glo_flipped hy) (hk := F_flipped.kp) (hb := ab_flipped_2_) (tk := takesN) (hp := rfl) (hmx := by decide) (hdd := fun _ => .nil) (ha := ea_cons (ee_var 2) (ea_cons (ee_var 3) (ea_nil))) (hkw := ek_nil)) (hb' := ee_var 0))) (he := fun _ _ _ _ _ => ee_var 3))) (ea_nil))))))⟩
end LW
end

section
set_option maxHeartbeats 4000000
namespace LW
open PySem L2 EV
theorem sc_law_turnable : FnScope ["_law_rule", "_law_state", "_law_due", "_law_answer", "e"] ["_law_rule", "_law_state", "_law_due"] (defScope st_law_turnable) := ⟨rfl, rfl, rfl, by decide +kernel, rfl, by decide +kernel, by decide +kernel⟩
def g_law_turnable : FS := gSeq (gTryAs 4 xs_SluiceError (gSet 3 (vCallP 2 0 [0, 1] sem_turnable [] (aCons (vVar 0) (aCons (vVar 1) (aNil))) (aNil))) (gSeq (gIf (vOr (v2 notNonD (vVar 2) (vC .non)) (v1 notD (xIs 4 xall [ys_ValueError]))) (gRet (vC (.bl false))) (gNext)) (gRet (vAnd (xIs 4 xall [ys_NotRunning]) (vAnd (v1 notD (xIs 4 xall [ys_BadWalk])) (vCallP 2 0 [0, 1] sem_law_same [] (aCons (xFld 4 [21]) (aCons (vCall tupleD (aCons (vVar 1) (aNil))) (aNil))) aNil)))))) (gRet (vAnd (v2 notNonD (vVar 2) (vC .non)) (vCallP 2 0 [0, 1] sem_law_same [] (aCons (vVar 3) (aCons (vVar 2) (aNil))) (aNil))))
def sem_law_turnable : List D → Option R := semF 5 g_law_turnable
theorem ok_law_turnable {P : Program} {w : World} {K : PySem.W.Frag} {mg : Str → Option Value} {base : Heap} (hy : Hyp K mg) : ∃ fd, FunD K d_law_turnable.name d_law_turnable.qual d_law_turnable.params d_law_turnable.body d_law_turnable.scope (d_law_turnable.dvs K) (d_law_turnable.kws K) (He.fAd K d_law_turnable.at_) fd ∧ FnOk P w K mg base (L2N.CX P w) 5 (He.fAd K d_law_turnable.at_) fd ["_law_rule", "_law_state", "_law_due"] (spF (tab K) 3 (sem_law_turnable)) := by
  obtain ⟨fdH_law_same, FH_law_same, H_law_same⟩ := okH_law_same (P := P) (w := w) (base := base) hy
  have abH_law_same : ArgB K fdH_law_same ["_law_value", "_law_expected"] 2 [] [] [0, 1] := ArgB.given FH_law_same (fun kV doc pm an cdv ct us ws l1 l2 => match us, l1, ws, l2 with | [_, _], _, [], _ => rfl)
  obtain ⟨fd_turnable, F_turnable, G_turnable⟩ := ok_turnable (P := P) (w := w) (base := base) hy
  obtain ⟨fd_law_same, F_law_same, G_law_same⟩ := ok_law_same (P := P) (w := w) (base := base) hy
  have ab_turnable_2_ : ArgB K fd_turnable ["season", "setting"] 2 [] [] [0, 1] := ArgB.given F_turnable (fun kV doc pm an cdv ct us ws l1 l2 => match us, l1, ws, l2 with | [_, _], _, [], _ => rfl)
  have ab_law_same_2_ : ArgB K fd_law_same ["_law_value", "_law_expected"] 2 [] [] [0, 1] := ArgB.given F_law_same (fun kV doc pm an cdv ct us ws l1 l2 => match us, l1, ws, l2 with | [_, _], _, [], _ => rfl)
  obtain ⟨fd, F⟩ := hy.says.fn (28) (d := d_law_turnable) rfl
  exact ⟨fd, F, fn_ev F sc_law_turnable fun cdv A outer s H E hr => (ss_cons (ss_tryAs 4 (hN := sc_law_turnable.nd) (tk := (L2N.takes_of rfl rfl rfl rfl)) (hm := glo_SluiceError hy) (he := exm_SluiceError hy) (hb := fun W pn xe tkW po => ss_one (ss_set 3 (hN := sc_law_turnable.nd) (he := ee_callP (F := G_turnable) (hr := hr.mono (by decide)) (hm := glo_turnable hy) (hk := F_turnable.kp) (hb := ab_turnable_2_) (tk := tkW) (hp := rfl) (hmx := by decide) (hdd := fun _ => .nil) (ha := ea_cons (ee_var 0) (ea_cons (ee_var 1) (ea_nil))) (hkw := ek_nil)))) (hsu := fun a oe cls d pn hz hfs => ss_cons (ss_if (eb_w (ew_or (eb_notN (ha := ee_var 2) (hb := ee_non)) (ew_or1 (eb_not (eb_val (ee_isX (hz := hz) (hf := hfs) 4 (hm := (free_isinstance hy)) (hc := (.ty rfl (by decide) (by decide) (free_ValueError hy) (by decide +kernel) .nil rfl)) (hk := kx_ValueError hy))))))) (ss_one (ss_ret (ee_bl))) (ss_nil)) (ss_one (ss_ret (ee_and (ee_isX (hz := hz) (hf := hfs) 4 (hm := (free_isinstance hy)) (hc := (.own rfl (by decide) (glo_NotRunning hy) .nil rfl)) (hk := kx_NotRunning hy)) (ee_and (ee_not (ee_isX (hz := hz) (hf := hfs) 4 (hm := (free_isinstance hy)) (hc := (.own rfl (by decide) (glo_BadWalk hy) .nil rfl)) (hk := kx_BadWalk hy))) (ee_one (ee_callH (F := H_law_same) (hr := (roomH_suite hr).mono (by decide)) (hc := (hot_suite hz hfs)) (hm := glo__law_same hy) (hk := FH_law_same.kp) (hb := abH_law_same.binds rfl rfl) (tk := takesN) (ha := ea_cons (ee_xf (hz := hz) (hf := hfs) 4 (hk := xf_setting hy)) (ea_cons (ee_callT (hc := call_tuple_of) (h := (o_tuple rfl)) (hm := (free_tuple hy)) (hv := by decide +kernel) (ha := ea_cons (ee_var 1) (ea_nil))) (ea_nil))) (hl := rfl))))))))) (ss_one (ss_ret (ee_and (ee_notN (ha := ee_var 2) (hb := ee_non)) (ee_one (ee_callP (F := G_law_same) (hr := hr.mono (by decide)) (hm := glo__law_same hy) (hk := F_law_same.kp) (hb := ab_law_same_2_) (tk := (L2N.takes_of rfl rfl rfl rfl)) (hp := rfl) (hmx := by decide) (hdd := fun _ => .nil) (ha := ea_cons (ee_var 3) (ea_cons (ee_var 2) (ea_nil))) (hkw := ek_nil)))))))⟩
end LW
end

section
set_option maxHeartbeats 4000000
namespace LW
open PySem L2 EV
theorem sc_is_walk : FnScope ["season", "setting", "turns", "present", "sluice"] ["season", "setting", "turns"] (defScope st_is_walk) := ⟨rfl, rfl, rfl, by decide +kernel, rfl, by decide +kernel, by decide +kernel⟩
def g_is_walk : FS := gSeq (gSet 3 (vCall tupleD (aCons (vVar 1) (aNil)))) (gSeq (gIf (v2 (ninOD 6 sem_Season__contains) (vVar 3) (vVar 0)) (gRet (vC (.bl false))) (gNext)) (gSeq (gFor (iSeq (vVar 2)) (nmG 4) (gSeq (gSet 3 (vCallP 2 0 [0, 1] sem_flipped [] (aCons (vVar 3) (aCons (vVar 4) (aNil))) (aNil))) (gIf (v2 (ninOD 6 sem_Season__contains) (vVar 3) (vVar 0)) (gRet (vC (.bl false))) (gNext)))) (gRet (vC (.bl true)))))
def sem_is_walk : List D → Option R := semF 5 g_is_walk
theorem ok_is_walk {P : Program} {w : World} {K : PySem.W.Frag} {mg : Str → Option Value} {base : Heap} (hy : Hyp K mg) : ∃ fd, FunD K d_is_walk.name d_is_walk.qual d_is_walk.params d_is_walk.body d_is_walk.scope (d_is_walk.dvs K) (d_is_walk.kws K) (He.fAd K d_is_walk.at_) fd ∧ FnOk P w K mg base (L2N.CX P w) 2 (He.fAd K d_is_walk.at_) fd ["season", "setting", "turns"] (spF (tab K) 3 (sem_is_walk)) := by
  obtain ⟨fd_Season__contains, F_Season__contains, G_Season__contains⟩ := ok_Season__contains (P := P) (w := w) (base := base) hy
  obtain ⟨fd_flipped, F_flipped, G_flipped⟩ := ok_flipped (P := P) (w := w) (base := base) hy
  have ab_Season__contains_2_ : ArgB K fd_Season__contains ["self", "setting"] 2 [] [] [0, 1] := ArgB.given F_Season__contains (fun kV doc pm an cdv ct us ws l1 l2 => match us, l1, ws, l2 with | [_, _], _, [], _ => rfl)
  have ab_flipped_2_ : ArgB K fd_flipped ["setting", "sluice"] 2 [] [] [0, 1] := ArgB.given F_flipped (fun kV doc pm an cdv ct us ws l1 l2 => match us, l1, ws, l2 with | [_, _], _, [], _ => rfl)
  obtain ⟨fd, F⟩ := hy.says.fn (29) (d := d_is_walk) rfl
  exact ⟨fd, F, fn_ev F sc_is_walk fun cdv A outer s H E hr => (ss_cons (ss_set 3 (hN := sc_is_walk.nd) (he := ee_callT (hc := call_tuple_of) (h := (o_tuple rfl)) (hm := (free_tuple hy)) (hv := by decide +kernel) (ha := ea_cons (ee_var 1) (ea_nil)))) (ss_cons (ss_if (eb_ninO (M := meth_Season__contains hy) (hm := by rfl) (F := G_Season__contains) (hr := hr.mono (by decide)) (hb := ab_Season__contains_2_) (ha := ee_var 3) (hb' := ee_var 0)) (ss_one (ss_ret (ee_bl))) (ss_nil)) (ss_cons (ss_for (hp := (passes_of rfl)) (hc := rfl) (hi := ei_seq (he := ee_var 2)) (hg := eg_name 4 sc_is_walk.nd) (hb := ss_cons (ss_set 3 (hN := sc_is_walk.nd) (he := ee_callP (F := G_flipped) (hr := hr.mono (by decide)) (hm := glo_flipped hy) (hk := F_flipped.kp) (hb := ab_flipped_2_) (tk := (L2N.takes_of rfl rfl rfl rfl)) (hp := rfl) (hmx := by decide) (hdd := fun _ => .nil) (ha := ea_cons (ee_var 3) (ea_cons (ee_var 4) (ea_nil))) (hkw := ek_nil))) (ss_one (ss_if (eb_ninO (M := meth_Season__contains hy) (hm := by rfl) (F := G_Season__contains) (hr := hr.mono (by decide)) (hb := ab_Season__contains_2_) (ha := ee_var 3) (hb' := ee_var 0)) (ss_one (ss_ret (ee_bl))) (ss_nil))))) (ss_one (ss_ret (ee_bl))))))⟩
end LW
end

section
set_option maxHeartbeats 4000000
namespace LW
open PySem L2 EV
theorem sc_law_asked : FnScope ["_law_world_here", "_law_rule", "_law_state", "_law_row", "_law_kind", "_law_walked", "_law_due", "_law_again", "_law_first", "_law_passed", "_law_k"] ["_law_world_here", "_law_rule", "_law_state", "_law_row", "_law_kind"] (defScope st_law_asked) := ⟨rfl, rfl, rfl, by decide +kernel, rfl, by decide +kernel, by decide +kernel⟩
def g_law_asked : FS := gSeq (gSet 5 (vCallP 3 0 [0, 1, 2] sem_law_visited [] (aCons (vVar 0) (aCons (vVar 2) (aCons (vVar 3) (aNil)))) (aNil))) (gSeq (gSet 6 (vC .non)) (gSeq (gIf (v2 neD (v2 ixD (vVar 5) (vC (.int 1))) (v1 negD (vC (.int 1)))) (gSet 6 (vL (nLc (iRange1 (vCall lenD (aCons (vVar 2) (aNil)))) (nmG 10) (vCallP 2 0 [0, 1] sem_law_runs [] (aCons (vVar 0) (aCons (vCallP 2 0 [0, 1] sem_law_turn [] (aCons (vVar 2) (aCons (vVar 10) (aNil))) (aNil)) (aNil))) (aNil)) (vVar 10) [10]))) (gNext)) (gSeq (gFor (iRange1 (vC (.int 2))) (nmG 7) (gSeq (gSet 8 (vCallP 2 0 [0, 1] sem_law_form [] (aCons (vVar 2) (aCons (v2 addD (vVar 4) (vVar 7)) (aNil))) (aNil))) (gSeq (gSet 9 (vCallP 2 0 [0, 1] sem_law_form [] (aCons (vVar 3) (aCons (v2 addD (v2 fdivD (vVar 4) (vC (.int 2))) (vVar 7)) (aNil))) (aNil))) (gSeq (gIf (v1 notD (vCallP 2 0 [0, 1] sem_law_truth [] (aCons (vCallP 3 0 [0, 1, 2] sem_is_walk [] (aCons (vVar 1) (aCons (vVar 8) (aCons (vVar 9) (aNil)))) (aNil)) (aCons (v2 isNonD (v2 ixD (vVar 5) (vC (.int 1))) (vC .non)) (aNil))) (aNil))) (gRet (vC (.bl false))) (gNext)) (gSeq (gIf (v1 notD (vCallP 5 0 [0, 1, 2, 3, 4] sem_law_followed [] (aCons (vVar 1) (aCons (vVar 8) (aCons (vVar 9) (aCons (v2 ixD (vVar 5) (vC (.int 0))) (aCons (v2 ixD (vVar 5) (vC (.int 1))) (aNil)))))) (aNil))) (gRet (vC (.bl false))) (gNext)) (gSeq (gIf (v1 notD (vCallP 3 0 [0, 1, 2] sem_law_turnable [] (aCons (vVar 1) (aCons (vVar 8) (aCons (vVar 6) (aNil)))) (aNil))) (gRet (vC (.bl false))) (gNext)) (gIf (vOr (v2 neD (vVar 8) (vCallP 2 0 [0, 1] sem_law_form [] (aCons (vVar 2) (aCons (v2 addD (vVar 4) (vVar 7)) (aNil))) (aNil))) (v2 neD (vVar 9) (vCallP 2 0 [0, 1] sem_law_form [] (aCons (vVar 3) (aCons (v2 addD (v2 fdivD (vVar 4) (vC (.int 2))) (vVar 7)) (aNil))) (aNil)))) (gRet (vC (.bl false))) (gNext)))))))) (gSeq (gIf (v1 notD (vCallP 2 0 [0, 1] sem_law_truth [] (aCons (vCallP 0 3 [0, 1, 2] sem_is_walk [] aNil (aCons (vVar 1) (aCons (vVar 2) (aCons (vVar 3) (aNil))))) (aCons (v2 isNonD (v2 ixD (vVar 5) (vC (.int 1))) (vC .non)) (aNil))) (aNil))) (gRet (vC (.bl false))) (gNext)) (gSeq (gIf (vAnd (v2 isNonD (v2 ixD (vVar 5) (vC (.int 1))) (vC .non)) (v1 notD (vCallP 2 0 [0, 1] sem_law_same_rows [] (aCons (vCallP 0 3 [0, 1, 2] sem_follow [] aNil (aCons (vVar 1) (aCons (vVar 2) (aCons (vVar 3) (aNil))))) (aCons (v2 ixD (vVar 5) (vC (.int 0))) (aNil))) (aNil)))) (gRet (vC (.bl false))) (gNext)) (gRet (vOr (v2 isNonD (vVar 6) (vC .non)) (vCallP 2 0 [0, 1] sem_law_same [] (aCons (vCallP 0 2 [0, 1] sem_turnable [] aNil (aCons (vVar 1) (aCons (vVar 2) (aNil)))) (aCons (vVar 6) (aNil))) (aNil)))))))))
def sem_law_asked : List D → Option R := semF 11 g_law_asked
theorem ok_law_asked {P : Program} {w : World} {K : PySem.W.Frag} {mg : Str → Option Value} {base : Heap} (hy : Hyp K mg) : ∃ fd, FunD K d_law_asked.name d_law_asked.qual d_law_asked.params d_law_asked.body d_law_asked.scope (d_law_asked.dvs K) (d_law_asked.kws K) (He.fAd K d_law_asked.at_) fd ∧ FnOk P w K mg base (L2N.CX P w) 6 (He.fAd K d_law_asked.at_) fd ["_law_world_here", "_law_rule", "_law_state", "_law_row", "_law_kind"] (spF (tab K) 5 (sem_law_asked)) := by
  obtain ⟨fd_law_visited, F_law_visited, G_law_visited⟩ := ok_law_visited (P := P) (w := w) (base := base) hy
  obtain ⟨fd_law_runs, F_law_runs, G_law_runs⟩ := ok_law_runs (P := P) (w := w) (base := base) hy
  obtain ⟨fd_law_turn, F_law_turn, G_law_turn⟩ := ok_law_turn (P := P) (w := w) (base := base) hy
  obtain ⟨fd_law_form, F_law_form, G_law_form⟩ := ok_law_form (P := P) (w := w) (base := base) hy
  obtain ⟨fd_law_truth, F_law_truth, G_law_truth⟩ := ok_law_truth (P := P) (w := w) (base := base) hy
  obtain ⟨fd_is_walk, F_is_walk, G_is_walk⟩ := ok_is_walk (P := P) (w := w) (base := base) hy
  obtain ⟨fd_law_followed, F_law_followed, G_law_followed⟩ := ok_law_followed (P := P) (w := w) (base := base) hy
  obtain ⟨fd_law_turnable, F_law_turnable, G_law_turnable⟩ := ok_law_turnable (P := P) (w := w) (base := base) hy
  obtain ⟨fd_law_same_rows, F_law_same_rows, G_law_same_rows⟩ := ok_law_same_rows (P := P) (w := w) (base := base) hy
  obtain ⟨fd_follow, F_follow, G_follow⟩ := ok_follow (P := P) (w := w) (base := base) hy
  obtain ⟨fd_law_same, F_law_same, G_law_same⟩ := ok_law_same (P := P) (w := w) (base := base) hy
  obtain ⟨fd_turnable, F_turnable, G_turnable⟩ := ok_turnable (P := P) (w := w) (base := base) hy
  have ab_law_visited_3_ : ArgB K fd_law_visited ["_law_world_here", "_law_state", "_law_row"] 3 [] [] [0, 1, 2] := ArgB.given F_law_visited (fun kV doc pm an cdv ct us ws l1 l2 => match us, l1, ws, l2 with | [_, _, _], _, [], _ => rfl)
  have ab_law_runs_2_ : ArgB K fd_law_runs ["_law_world_here", "_law_state"] 2 [] [] [0, 1] := ArgB.given F_law_runs (fun kV doc pm an cdv ct us ws l1 l2 => match us, l1, ws, l2 with | [_, _], _, [], _ => rfl)
  have ab_law_turn_2_ : ArgB K fd_law_turn ["_law_state", "_law_sluice"] 2 [] [] [0, 1] := ArgB.given F_law_turn (fun kV doc pm an cdv ct us ws l1 l2 => match us, l1, ws, l2 with | [_, _], _, [], _ => rfl)
  have ab_law_form_2_ : ArgB K fd_law_form ["_law_row", "_law_kind"] 2 [] [] [0, 1] := ArgB.given F_law_form (fun kV doc pm an cdv ct us ws l1 l2 => match us, l1, ws, l2 with | [_, _], _, [], _ => rfl)
  have ab_law_truth_2_ : ArgB K fd_law_truth ["_law_answer", "_law_due"] 2 [] [] [0, 1] := ArgB.given F_law_truth (fun kV doc pm an cdv ct us ws l1 l2 => match us, l1, ws, l2 with | [_, _], _, [], _ => rfl)
  have ab_is_walk_3_ : ArgB K fd_is_walk ["season", "setting", "turns"] 3 [] [] [0, 1, 2] := ArgB.given F_is_walk (fun kV doc pm an cdv ct us ws l1 l2 => match us, l1, ws, l2 with | [_, _, _], _, [], _ => rfl)
  have ab_law_followed_5_ : ArgB K fd_law_followed ["_law_rule", "_law_state", "_law_row", "_law_visited_here", "_law_bad"] 5 [] [] [0, 1, 2, 3, 4] := ArgB.given F_law_followed (fun kV doc pm an cdv ct us ws l1 l2 => match us, l1, ws, l2 with | [_, _, _, _, _], _, [], _ => rfl)
  have ab_law_turnable_3_ : ArgB K fd_law_turnable ["_law_rule", "_law_state", "_law_due"] 3 [] [] [0, 1, 2] := ArgB.given F_law_turnable (fun kV doc pm an cdv ct us ws l1 l2 => match us, l1, ws, l2 with | [_, _, _], _, [], _ => rfl)
  have ab_is_walk_0_season_setting_turns : ArgB K fd_is_walk ["season", "setting", "turns"] 0 ["season", "setting", "turns"] [] [0, 1, 2] := ArgB.given F_is_walk (fun kV doc pm an cdv ct us ws l1 l2 => match us, l1, ws, l2 with | [], _, [_, _, _], _ => rfl)
  have ab_law_same_rows_2_ : ArgB K fd_law_same_rows ["_law_value", "_law_expected"] 2 [] [] [0, 1] := ArgB.given F_law_same_rows (fun kV doc pm an cdv ct us ws l1 l2 => match us, l1, ws, l2 with | [_, _], _, [], _ => rfl)
  have ab_follow_0_season_setting_turns : ArgB K fd_follow ["season", "setting", "turns"] 0 ["season", "setting", "turns"] [] [0, 1, 2] := ArgB.given F_follow (fun kV doc pm an cdv ct us ws l1 l2 => match us, l1, ws, l2 with | [], _, [_, _, _], _ => rfl)
  have ab_law_same_2_ : ArgB K fd_law_same ["_law_value", "_law_expected"] 2 [] [] [0, 1] := ArgB.given F_law_same (fun kV doc pm an cdv ct us ws l1 l2 => match us, l1, ws, l2 with | [_, _], _, [], _ => rfl)
  have ab_turnable_0_season_setting : ArgB K fd_turnable ["season", "setting"] 0 ["season", "setting"] [] [0, 1] := ArgB.given F_turnable (fun kV doc pm an cdv ct us ws l1 l2 => match us, l1, ws, l2 with | [], _, [_, _], _ => rfl)
  obtain ⟨fd, F⟩ := hy.says.fn (30) (d := d_law_asked) rfl
  exact ⟨fd, F, fn_ev F sc_law_asked fun cdv A outer s H E hr => (ss_cons (ss_set 5 (hN := sc_law_asked.nd) (he := ee_callP (F := G_law_visited) (hr := hr.mono (by decide)) (hm := glo__law_visited hy) (hk := F_law_visited.kp) (hb := ab_law_visited_3_) (tk := (L2N.takes_of rfl rfl rfl rfl)) (hp := rfl) (hmx := by decide) (hdd := fun _ => .nil) (ha := ea_cons (ee_var 0) (ea_cons (ee_var 2) (ea_cons (ee_var 3) (ea_nil)))) (hkw := ek_nil))) (ss_cons (ss_set 6 (hN := sc_law_asked.nd) (he := ee_non)) (ss_cons (ss_if (eb_ne (hr := hr) (ha := ee_ix (ha := ee_var 5) (hb := ee_int)) (hb := ee_neg (ee_int))) (ss_one (ss_lc_v (ps_lcs (i := 6) (hy := rfl) (hyl := rfl) (hsw := sw_true rfl rfl rfl (by decide +kernel)) (own := [("_law_k", 10)]) (hc := rfl) (hN := sc_law_asked.nd) (ok := blkOk_by (show blkC ["_law_world_here", "_law_rule", "_law_state", "_law_row", "_law_kind", "_law_walked", "_law_due", "_law_again", "_law_first", "_law_passed", "_law_k"] (defScope st_law_asked) _ [("_law_k", 10)] = true by decide +kernel)) (hi := ei_range1 (hm := (free_range hy)) (ha := ee_callB (hc := call_len_seq) (h := (o_len rfl)) (hm := (free_len hy)) (hv := by decide +kernel) (ha := ea_cons (ee_var 2) (ea_nil)))) (hg := fun _ _ _ _ _ => eg_name 10 sc_law_asked.nd) (ht := fun _ _ _ _ _ => et_one (eb_val (ee_callP (F := G_law_runs) (hr := hr.mono (by decide)) (hm := glo__law_runs hy) (hk := F_law_runs.kp) (hb := ab_law_runs_2_) (tk := takesN) (hp := rfl) (hmx := by decide) (hdd := fun _ => .nil) (ha := ea_cons (ee_var 0) (ea_cons (ee_callP (F := G_law_turn) (hr := hr.mono (by decide)) (hm := glo__law_turn hy) (hk := F_law_turn.kp) (hb := ab_law_turn_2_) (tk := takesN) (hp := rfl) (hmx := by decide) (hdd := fun _ => .nil) (ha := ea_cons (ee_var 2) (ea_cons (ee_var 10) (ea_nil))) (hkw := ek_nil)) (ea_nil))) (hkw := ek_nil)))) (he := fun _ _ _ _ _ => ee_var 10)) (w_lc (by decide)))) (ss_nil)) (ss_cons (ss_for (hp := (passes_of rfl)) (hc := rfl) (hi := ei_range1 (hm := (free_range hy)) (ha := ee_int)) (hg := eg_name 7 sc_law_asked.nd) (hb := ss_cons (ss_set 8 (hN := sc_law_asked.nd) (he := ee_callP (F := G_law_form) (hr := hr.mono (by decide)) (hm := glo__law_form hy) (hk := F_law_form.kp) (hb := ab_law_form_2_) (tk := (L2N.takes_of rfl rfl rfl rfl)) (hp := rfl) (hmx := by decide) (hdd := fun _ => .nil) (ha := ea_cons (ee_var 2) (ea_cons (ee_add (ha := ee_var 4) (hb := ee_var 7)) (ea_nil))) (hkw := ek_nil))) (ss_cons (ss_set 9 (hN := sc_law_asked.nd) (he := ee_callP (F := G_law_form) (hr := hr.mono (by decide)) (hm := glo__law_form hy) (hk := F_law_form.kp) (hb := ab_law_form_2_) (tk := (L2N.takes_of rfl rfl rfl rfl)) (hp := rfl) (hmx := by decide) (hdd := fun _ => .nil) (ha := ea_cons (ee_var 3) (ea_cons (ee_add (ha := ee_fdiv (ha := ee_var 4) (hb := ee_int)) (hb := ee_var 7)) (ea_nil))) (hkw := ek_nil))) (ss_cons (ss_if (eb_not (eb_val (ee_callP (F := G_law_truth) (hr := hr.mono (by decide)) (hm := glo__law_truth hy) (hk := F_law_truth.kp) (hb := ab_law_truth_2_) (tk := (L2N.takes_of rfl rfl rfl rfl)) (hp := rfl) (hmx := by decide) (hdd := fun _ => .nil) (ha := ea_cons (ee_callP (F := G_is_walk) (hr := hr.mono (by decide)) (hm := glo_is_walk hy) (hk := F_is_walk.kp) (hb := ab_is_walk_3_) (tk := (L2N.takes_of rfl rfl rfl rfl)) (hp := rfl) (hmx := by decide) (hdd := fun _ => .nil) (ha := ea_cons (ee_var 1) (ea_cons (ee_var 8) (ea_cons (ee_var 9) (ea_nil)))) (hkw := ek_nil)) (ea_cons (ee_isN (ha := ee_ix (ha := ee_var 5) (hb := ee_int)) (hb := ee_non)) (ea_nil))) (hkw := ek_nil)))) (ss_one (ss_ret (ee_bl))) (ss_nil)) (ss_cons (ss_if (eb_not (eb_val (ee_callP (F := G_law_followed) (hr := hr.mono (by decide)) (hm := glo__law_followed hy) (hk := F_law_followed.kp) (hb := ab_law_followed_5_) (tk := (L2N.takes_of rfl rfl rfl rfl)) (hp := rfl) (hmx := by decide) (hdd := fun _ => .nil) (ha := ea_cons (ee_var 1) (ea_cons (ee_var 8) (ea_cons (ee_var 9) (ea_cons (ee_ix (ha := ee_var 5) (hb := ee_int)) (ea_cons (ee_ix (ha := ee_var 5) (hb := ee_int)) (ea_nil)))))) (hkw := ek_nil)))) (ss_one (ss_ret (ee_bl))) (ss_nil)) (ss_cons (ss_if (eb_not (eb_val (ee_callP (F := G_law_turnable) (hr := hr.mono (by decide)) (hm := glo__law_turnable hy) (hk := F_law_turnable.kp) (hb := ab_law_turnable_3_) (tk := (L2N.takes_of rfl rfl rfl rfl)) (hp := rfl) (hmx := by decide) (hdd := fun _ => .nil) (ha := ea_cons (ee_var 1) (ea_cons (ee_var 8) (ea_cons (ee_var 6) (ea_nil)))) (hkw := ek_nil)))) (ss_one (ss_ret (ee_bl))) (ss_nil)) (ss_one (ss_if (eb_w (ew_or (eb_ne (hr := hr) (ha := ee_var 8) (hb := ee_callP (F := G_law_form) (hr := hr.mono (by decide)) (hm := glo__law_form hy) (hk := F_law_form.kp) (hb := ab_law_form_2_) (tk := (L2N.takes_of rfl rfl rfl rfl)) (hp := rfl) (hmx := by decide) (hdd := fun _ => .nil) (ha := ea_cons (ee_var 2) (ea_cons (ee_add (ha := ee_var 4) (hb := ee_var 7)) (ea_nil))) (hkw := ek_nil))) (ew_or1 (eb_ne (hr := hr) (ha := ee_var 9) (hb := ee_callP (F := G_law_form) (hr := hr.mono (by decide)) (hm := glo__law_form hy) (hk := F_law_form.kp) (hb := ab_law_form_2_) (tk := (L2N.takes_of rfl rfl rfl rfl)) (hp := rfl) (hmx := by decide) (hdd := fun _ => .nil) (ha := ea_cons (ee_var 3) (ea_cons (ee_add (ha := ee_fdiv (ha := ee_var 4) (hb := ee_int)) (hb := ee_var 7)) (ea_nil))) (hkw := ek_nil)))))) (ss_one (ss_ret (ee_bl))) (ss_nil))))))))) (ss_cons (ss_if (eb_not (eb_val (ee_callP (F := G_law_truth) (hr := hr.mono (by decide)) (hm := glo__law_truth hy) (hk := F_law_truth.kp) (hb := ab_law_truth_2_) (tk := (L2N.takes_of rfl rfl rfl rfl)) (hp := rfl) (hmx := by decide) (hdd := fun _ => .nil) (ha := ea_cons (ee_callP0 (F := G_is_walk) (hr := hr.mono (by decide)) (hm := glo_is_walk hy) (hk := F_is_walk.kp) (hb := ab_is_walk_0_season_setting_turns) (tk := (L2N.takes_of rfl rfl rfl rfl)) (hp := rfl) (hmx := by decide) (hdd := fun _ => .nil) (hkw := ek_cons (ee_var 1) (ek_cons (ee_var 2) (ek_cons (ee_var 3) (ek_nil))))) (ea_cons (ee_isN (ha := ee_ix (ha := ee_var 5) (hb := ee_int)) (hb := ee_non)) (ea_nil))) (hkw := ek_nil)))) (ss_one (ss_ret (ee_bl))) (ss_nil)) (ss_cons (ss_if (eb_w (ew_and (eb_isN (ha := ee_ix (ha := ee_var 5) (hb := ee_int)) (hb := ee_non)) (ew_and1 (eb_not (eb_val (ee_callP (F := G_law_same_rows) (hr := hr.mono (by decide)) (hm := glo__law_same_rows hy) (hk := F_law_same_rows.kp) (hb := ab_law_same_rows_2_) (tk := (L2N.takes_of rfl rfl rfl rfl)) (hp := rfl) (hmx := by decide) (hdd := fun _ => .nil) (ha := ea_cons (ee_callP0 (F := G_follow) (hr := hr.mono (by decide)) (hm := glo_follow hy) (hk := F_follow.kp) (hb := ab_follow_0_season_setting_turns) (tk := (L2N.takes_of rfl rfl rfl rfl)) (hp := rfl) (hmx := by decide) (hdd := fun _ => .nil) (hkw := ek_cons (ee_var 1) (ek_cons (ee_var 2) (ek_cons (ee_var 3) (ek_nil))))) (ea_cons (ee_ix (ha := ee_var 5) (hb := ee_int)) (ea_nil))) (hkw := ek_nil))))))) (ss_one (ss_ret (ee_bl))) (ss_nil)) (ss_one (ss_ret (ee_or (ee_isN (ha := ee_var 6) (hb := ee_non)) (ee_one (ee_callP (F := G_law_same) (hr := hr.mono (by decide)) (hm := glo__law_same hy) (hk := F_law_same.kp) (hb := ab_law_same_2_) (tk := (L2N.takes_of rfl rfl rfl rfl)) (hp := rfl) (hmx := by decide) (hdd := fun _ => .nil) (ha := ea_cons (ee_callP0 (F := G_turnable) (hr := hr.mono (by decide)) (hm := glo_turnable hy) (hk := F_turnable.kp) (hb := ab_turnable_0_season_setting) (tk := (L2N.takes_of rfl rfl rfl rfl)) (hp := rfl) (hmx := by decide) (hdd := fun _ => .nil) (hkw := ek_cons (ee_var 1) (ek_cons (ee_var 2) (ek_nil)))) (ea_cons (ee_var 6) (ea_nil))) (hkw := ek_nil))))))))))))⟩
end LW
end

section
set_option maxHeartbeats 4000000
namespace LW
open PySem L2 EV
theorem sc_law_cell : FnScope ["_law_script", "_law_k", "_law_seed", "_law_cell_here"] ["_law_script", "_law_k"] (defScope st_law_cell) := ⟨rfl, rfl, rfl, by decide +kernel, rfl, by decide +kernel, by decide +kernel⟩
def g_law_cell : FS := gSeq (gIf (v2 ltD (vVar 1) (vCall lenD (aCons (vVar 0) (aNil)))) (gRet (v2 ixD (vVar 0) (vVar 1))) (gNext)) (gSeq (gSet 2 (vC (.int 17))) (gSeq (gFor (iSeq (vVar 0)) (nmG 3) (gSet 2 (v2 modD (vCall intD (aCons (v2 addD (v2 mulD (vVar 2) (vC (.int 31))) (v2 modD (vCall intD (aCons (vVar 3) (aNil))) (vC (.int 1000003)))) (aNil))) (vC (.int 1000003))))) (gRet (v2 modD (vCall intD (aCons (v2 mulD (v2 mulD (v2 addD (vVar 2) (vC (.int 7))) (v2 addD (vVar 1) (vC (.int 3)))) (vC (.int 69621))) (aNil))) (vC (.int 2147483647))))))
def sem_law_cell : List D → Option R := semF 4 g_law_cell
theorem ok_law_cell {P : Program} {w : World} {K : PySem.W.Frag} {mg : Str → Option Value} {base : Heap} (hy : Hyp K mg) : ∃ fd, FunD K d_law_cell.name d_law_cell.qual d_law_cell.params d_law_cell.body d_law_cell.scope (d_law_cell.dvs K) (d_law_cell.kws K) (He.fAd K d_law_cell.at_) fd ∧ FnOk P w K mg base (L2N.CX P w) 1 (He.fAd K d_law_cell.at_) fd ["_law_script", "_law_k"] (spF (tab K) 2 (sem_law_cell)) := by
  obtain ⟨fd, F⟩ := hy.says.fn (31) (d := d_law_cell) rfl
  exact ⟨fd, F, fn_ev F sc_law_cell fun cdv A outer s H E hr => (ss_cons (ss_if (eb_lt (ha := ee_var 1) (hb := ee_callB (hc := call_len_seq) (h := (o_len rfl)) (hm := (free_len hy)) (hv := by decide +kernel) (ha := ea_cons (ee_var 0) (ea_nil)))) (ss_one (ss_ret (ee_ix (ha := ee_var 0) (hb := ee_var 1)))) (ss_nil)) (ss_cons (ss_set 2 (hN := sc_law_cell.nd) (he := ee_int)) (ss_cons (ss_for (hp := (passes_of rfl)) (hc := rfl) (hi := ei_seq (he := ee_var 0)) (hg := eg_name 3 sc_law_cell.nd) (hb := ss_one (ss_set 2 (hN := sc_law_cell.nd) (he := ee_mod (ha := ee_callT (hc := call_int1) (h := o_int) (hm := (free_int hy)) (hv := by decide +kernel) (ha := ea_cons (ee_add (ha := ee_mul (ha := ee_var 2) (hb := ee_int)) (hb := ee_mod (ha := ee_callT (hc := call_int1) (h := o_int) (hm := (free_int hy)) (hv := by decide +kernel) (ha := ea_cons (ee_var 3) (ea_nil))) (hb := ee_int))) (ea_nil))) (hb := ee_int))))) (ss_one (ss_ret (ee_mod (ha := ee_callT (hc := call_int1) (h := o_int) (hm := (free_int hy)) (hv := by decide +kernel) (ha := ea_cons (ee_mul (ha := ee_mul (ha := ee_add (ha := ee_var 2) (hb := ee_int)) (hb := ee_add (ha := ee_var 1) (hb := ee_int))) (hb := ee_int)) (ea_nil))) (hb := ee_int)))))))⟩
end LW
end

section
set_option maxHeartbeats 4000000
namespace LW
open PySem L2 EV
theorem sc_law_far : FnScope ["_law_script", "_law_at", "_law_top", "_law_upto", "_law_sizes", "_law_codes", "_law_bounds", "_law_mills", "_law_many", "_law_pairs", "_law_base", "_law_let", "_law_k", "_law_first", "_law_step", "_law_count", "_law_low", "_law_high", "_law_mill", "_law_slack", "_law_bound"] ["_law_script", "_law_at", "_law_top", "_law_upto"] (defScope st_law_far) := ⟨rfl, rfl, rfl, by decide +kernel, rfl, by decide +kernel, by decide +kernel⟩
def g_law_far : FS := gSeq (gSet 4 (vCallP 2 0 [0, 1] sem_law_digits [] (aCons (vCallP 2 0 [0, 1] sem_law_cell [] (aCons (vVar 0) (aCons (vVar 1) (aNil))) (aNil)) (aCons (vL (lenOk (aCons (vC (.int 29)) (aCons (vC (.int 60)) (aCons (vC (.int 6)) (aCons (vC (.int 6)) (aNil))))))) (aNil))) (aNil))) (gSeq (gSet 5 (vCallP 2 0 [0, 1] sem_law_digits [] (aCons (vCallP 2 0 [0, 1] sem_law_cell [] (aCons (vVar 0) (aCons (v2 addD (vVar 1) (vC (.int 1))) (aNil))) (aNil)) (aCons (vL (nRep (vL (lenOk (aCons (vC (.int 1152)) (aNil)))) (vC (.int 48)))) (aNil))) (aNil))) (gSeq (gSet 6 (vCallP 2 0 [0, 1] sem_law_digits [] (aCons (vCallP 2 0 [0, 1] sem_law_cell [] (aCons (vVar 0) (aCons (v2 addD (vVar 1) (vC (.int 2))) (aNil))) (aNil)) (aCons (vL (nRep (vL (lenOk (aCons (vC (.int 64)) (aNil)))) (vC (.int 24)))) (aNil))) (aNil))) (gSeq (gSet 7 (v2 subD (vVar 2) (v2 modD (vCall intD (aCons (vCall maxD (aCons (vC (.int 0)) (aCons (v2 subD (v2 ixD (vVar 4) (vC (.int 0))) (vC (.int 6))) (aNil)))) (aNil))) (v2 subD (vVar 2) (vC (.int 1)))))) (gSeq (gSet 8 (v2 subD (vVar 3) (v2 modD (vCall intD (aCons (vCall maxD (aCons (vC (.int 0)) (aCons (v2 subD (v2 ixD (vVar 4) (vC (.int 1))) (vC (.int 12))) (aNil)))) (aNil))) (vVar 3)))) (gSeq (gOwn 9 (lenOk (aNil))) (gSeq (gOwn 10 (lenOk (aNil))) (gSeq (gOwn 11 (lenOk (aNil))) (gSeq (gFor (iRange1 (vVar 8)) (nmG 12) (gSeq (gSet 13 (v2 modD (vCall intD (aCons (v2 modD (vCall intD (aCons (v2 ixD (vVar 5) (vVar 12)) (aNil))) (vC (.int 24))) (aNil))) (vVar 7))) (gSeq (gSet 14 (v2 modD (vCall intD (aCons (v2 fdivD (v2 ixD (vVar 5) (vVar 12)) (vC (.int 24))) (aNil))) (vC (.int 24)))) (gSeq (gIf (v2 geD (v2 ixD (vVar 4) (vC (.int 2))) (vC (.int 3))) (gSet 14 (v2 modD (vCall intD (aCons (vVar 14) (aNil))) (vC (.int 3)))) (gNext)) (gSeq (gIf (vOr (v2 eqD (v2 ixD (vVar 4) (vC (.int 2))) (vC (.int 1))) (v2 eqD (v2 ixD (vVar 4) (vC (.int 2))) (vC (.int 4)))) (gSet 13 (v2 modD (vCall intD (aCons (vVar 12) (aNil))) (vVar 7))) (gNext)) (gSeq (gAppO 9 (gApp 9 (vTup (aCons (vVar 13) (aCons (v2 modD (vCall intD (aCons (v2 addD (v2 addD (vVar 13) (vC (.int 1))) (v2 modD (vCall intD (aCons (vVar 14) (aNil))) (v2 subD (vVar 7) (vC (.int 1))))) (aNil))) (vVar 7)) (aNil)))))) (gSeq (gAppO 10 (gApp 10 (v2 fdivD (v2 ixD (vVar 5) (vVar 12)) (vC (.int 576))))) (gAppO 11 (gAppA 11 (v2 ixD (vL (lenOk (aCons (vTup (aCons (vC (.int 0)) (aCons (vC (.int 1)) (aNil)))) (aCons (vTup (aCons (v2 ixD (vVar 10) (vVar 12)) (aNil))) (aNil))))) (vCall intD (aCons (vAnd (v2 eqD (v2 ixD (vVar 4) (vC (.int 3))) (vC (.int 1))) (v2 eqD (v2 modD (vCall intD (aCons (v2 ixD (vVar 5) (vVar 12)) (aNil))) (vC (.int 11))) (vC (.int 5)))) (aNil))))))))))))) (gSeq (gRel 10 (gRel 9 (gSet 15 (vCallP 3 0 [0, 1, 2] sem_law_fed [] (aCons (vVar 7) (aCons (vVar 9) (aCons (vVar 10) (aNil)))) (aNil))))) (gSeq (gOwn 16 (lenOk (aNil))) (gSeq (gOwn 17 (lenOk (aNil))) (gSeq (gFor (iRange1 (vVar 7)) (nmG 18) (gSeq (gSet 19 (v2 ixD (vL (lenOk (aCons (vC (.int 0)) (aCons (vC (.int 0)) (aCons (vC (.int 1)) (aCons (vC (.int 0)) (aCons (vC (.int 0)) (aCons (vC (.int 2)) (aCons (vC (.int 0)) (aCons (vC (.int 3)) (aNil))))))))))) (v2 modD (vCall intD (aCons (v2 ixD (vVar 6) (vVar 18)) (aNil))) (vC (.int 8))))) (gSeq (gSet 20 (v2 ixD (vL (lenOk (aCons (vC .non) (aCons (vC (.int 1)) (aCons (vC .non) (aCons (vC (.int 0)) (aCons (vC (.int 2)) (aCons (vC (.int 1)) (aCons (vC .non) (aCons (vC (.int 3)) (aNil))))))))))) (v2 fdivD (v2 ixD (vVar 6) (vVar 18)) (vC (.int 8))))) (gSeq (gIf (v2 geD (v2 ixD (vVar 4) (vC (.int 3))) (vC (.int 4))) (gSet 20 (vC .non)) (gNext)) (gSeq (gAppO 16 (gApp 16 (vCall maxD (aCons (vC (.int 0)) (aCons (v2 subD (v2 ixD (vVar 15) (vVar 18)) (vVar 19)) (aNil)))))) (gSeq (gIf (v2 notNonD (vVar 20) (vC .non)) (gSet 20 (v2 addD (v2 ixD (vVar 15) (vVar 18)) (vVar 20))) (gNext)) (gAppO 17 (gApp 17 (vVar 20))))))))) (gRel 10 (gRel 11 (gRel 17 (gRel 16 (gRel 9 (gRet (vL (lenOk (aCons (vL (lenOk (aCons (vVar 7) (aCons (vVar 9) (aCons (vVar 16) (aCons (vVar 17) (aCons (vVar 11) (aNil)))))))) (aCons (vCall tupleD (aCons (vVar 10) (aNil))) (aNil)))))))))))))))))))))))
def sem_law_far : List D → Option R := semF 21 g_law_far
theorem ok_law_far {P : Program} {w : World} {K : PySem.W.Frag} {mg : Str → Option Value} {base : Heap} (hy : Hyp K mg) : ∃ fd, FunD K d_law_far.name d_law_far.qual d_law_far.params d_law_far.body d_law_far.scope (d_law_far.dvs K) (d_law_far.kws K) (He.fAd K d_law_far.at_) fd ∧ FnOk P w K mg base (L2N.CX P w) 2 (He.fAd K d_law_far.at_) fd ["_law_script", "_law_at", "_law_top", "_law_upto"] (spF (tab K) 4 (sem_law_far)) := by
  obtain ⟨fd_law_digits, F_law_digits, G_law_digits⟩ := ok_law_digits (P := P) (w := w) (base := base) hy
  obtain ⟨fd_law_cell, F_law_cell, G_law_cell⟩ := ok_law_cell (P := P) (w := w) (base := base) hy
  obtain ⟨fd_law_fed, F_law_fed, G_law_fed⟩ := ok_law_fed (P := P) (w := w) (base := base) hy
  have ab_law_digits_2_ : ArgB K fd_law_digits ["_law_cell_here", "_law_sizes"] 2 [] [] [0, 1] := ArgB.given F_law_digits (fun kV doc pm an cdv ct us ws l1 l2 => match us, l1, ws, l2 with | [_, _], _, [], _ => rfl)
  have ab_law_cell_2_ : ArgB K fd_law_cell ["_law_script", "_law_k"] 2 [] [] [0, 1] := ArgB.given F_law_cell (fun kV doc pm an cdv ct us ws l1 l2 => match us, l1, ws, l2 with | [_, _], _, [], _ => rfl)
  have ab_law_fed_3_ : ArgB K fd_law_fed ["_law_mills", "_law_pairs", "_law_state"] 3 [] [] [0, 1, 2] := ArgB.given F_law_fed (fun kV doc pm an cdv ct us ws l1 l2 => match us, l1, ws, l2 with | [_, _, _], _, [], _ => rfl)
  obtain ⟨fd, F⟩ := hy.says.fn (32) (d := d_law_far) rfl
  exact ⟨fd, F, fn_ev F sc_law_far fun cdv A outer s H E hr => (ss_cons (ss_set 4 (hN := sc_law_far.nd) (he := ee_callP (F := G_law_digits) (hr := hr.mono (by decide)) (hm := glo__law_digits hy) (hk := F_law_digits.kp) (hb := ab_law_digits_2_) (tk := (L2N.takes_of rfl rfl rfl rfl)) (hp := rfl) (hmx := by decide) (hdd := fun _ => .nil) (ha := ea_cons (ee_callP (F := G_law_cell) (hr := hr.mono (by decide)) (hm := glo__law_cell hy) (hk := F_law_cell.kp) (hb := ab_law_cell_2_) (tk := (L2N.takes_of rfl rfl rfl rfl)) (hp := rfl) (hmx := by decide) (hdd := fun _ => .nil) (ha := ea_cons (ee_var 0) (ea_cons (ee_var 1) (ea_nil))) (hkw := ek_nil)) (ea_cons (en_ee (en_lst (ea_cons (ee_int) (ea_cons (ee_int) (ea_cons (ee_int) (ea_cons (ee_int) (ea_nil))))))) (ea_nil))) (hkw := ek_nil))) (ss_cons (ss_set 5 (hN := sc_law_far.nd) (he := ee_callP (F := G_law_digits) (hr := hr.mono (by decide)) (hm := glo__law_digits hy) (hk := F_law_digits.kp) (hb := ab_law_digits_2_) (tk := (L2N.takes_of rfl rfl rfl rfl)) (hp := rfl) (hmx := by decide) (hdd := fun _ => .nil) (ha := ea_cons (ee_callP (F := G_law_cell) (hr := hr.mono (by decide)) (hm := glo__law_cell hy) (hk := F_law_cell.kp) (hb := ab_law_cell_2_) (tk := (L2N.takes_of rfl rfl rfl rfl)) (hp := rfl) (hmx := by decide) (hdd := fun _ => .nil) (ha := ea_cons (ee_var 0) (ea_cons (ee_add (ha := ee_var 1) (hb := ee_int)) (ea_nil))) (hkw := ek_nil)) (ea_cons (en_ee (en_rep (ha := en_ee (en_lst (ea_cons (ee_int) (ea_nil)))) (hb := ee_int))) (ea_nil))) (hkw := ek_nil))) (ss_cons (ss_set 6 (hN := sc_law_far.nd) (he := ee_callP (F := G_law_digits) (hr := hr.mono (by decide)) (hm := glo__law_digits hy) (hk := F_law_digits.kp) (hb := ab_law_digits_2_) (tk := (L2N.takes_of rfl rfl rfl rfl)) (hp := rfl) (hmx := by decide) (hdd := fun _ => .nil) (ha := ea_cons (ee_callP (F := G_law_cell) (hr := hr.mono (by decide)) (hm := glo__law_cell hy) (hk := F_law_cell.kp) (hb := ab_law_cell_2_) (tk := (L2N.takes_of rfl rfl rfl rfl)) (hp := rfl) (hmx := by decide) (hdd := fun _ => .nil) (ha := ea_cons (ee_var 0) (ea_cons (ee_add (ha := ee_var 1) (hb := ee_int)) (ea_nil))) (hkw := ek_nil)) (ea_cons (en_ee (en_rep (ha := en_ee (en_lst (ea_cons (ee_int) (ea_nil)))) (hb := ee_int))) (ea_nil))) (hkw := ek_nil))) (ss_cons (ss_set 7 (hN := sc_law_far.nd) (he := ee_sub (ha := ee_var 2) (hb := ee_mod (ha := ee_callT (hc := call_int1) (h := o_int) (hm := (free_int hy)) (hv := by decide +kernel) (ha := ea_cons (ee_callB (hc := (call_max2 rfl)) (h := o_max) (hm := (free_max hy)) (hv := by decide +kernel) (ha := ea_cons (ee_int) (ea_cons (ee_sub (ha := ee_ix (ha := ee_var 4) (hb := ee_int)) (hb := ee_int)) (ea_nil)))) (ea_nil))) (hb := ee_sub (ha := ee_var 2) (hb := ee_int))))) (ss_cons (ss_set 8 (hN := sc_law_far.nd) (he := ee_sub (ha := ee_var 3) (hb := ee_mod (ha := ee_callT (hc := call_int1) (h := o_int) (hm := (free_int hy)) (hv := by decide +kernel) (ha := ea_cons (ee_callB (hc := (call_max2 rfl)) (h := o_max) (hm := (free_max hy)) (hv := by decide +kernel) (ha := ea_cons (ee_int) (ea_cons (ee_sub (ha := ee_ix (ha := ee_var 4) (hb := ee_int)) (hb := ee_int)) (ea_nil)))) (ea_nil))) (hb := ee_var 3)))) (ss_cons (ss_own 9 (hN := sc_law_far.nd) (he := en_lst (ea_nil))) (ss_cons (ss_own 10 (hN := sc_law_far.nd) (he := en_lst (ea_nil))) (ss_cons (ss_own 11 (hN := sc_law_far.nd) (he := en_lst (ea_nil))) (ss_cons (ss_for (hp := (passes_of rfl)) (hc := rfl) (hi := ei_range1 (hm := (free_range hy)) (ha := ee_var 8)) (hg := eg_name 12 sc_law_far.nd) (hb := ss_cons (ss_set 13 (hN := sc_law_far.nd) (he := ee_mod (ha := ee_callT (hc := call_int1) (h := o_int) (hm := (free_int hy)) (hv := by decide +kernel) (ha := ea_cons (ee_mod (ha := ee_callT (hc := call_int1) (h := o_int) (hm := (free_int hy)) (hv := by decide +kernel) (ha := ea_cons (ee_ix (ha := ee_var 5) (hb := ee_var 12)) (ea_nil))) (hb := ee_int)) (ea_nil))) (hb := ee_var 7))) (ss_cons (ss_set 14 (hN := sc_law_far.nd) (he := ee_mod (ha := ee_callT (hc := call_int1) (h := o_int) (hm := (free_int hy)) (hv := by decide +kernel) (ha := ea_cons (ee_fdiv (ha := ee_ix (ha := ee_var 5) (hb := ee_var 12)) (hb := ee_int)) (ea_nil))) (hb := ee_int))) (ss_cons (ss_if (eb_ge (ha := ee_ix (ha := ee_var 4) (hb := ee_int)) (hb := ee_int)) (ss_one (ss_set 14 (hN := sc_law_far.nd) (he := ee_mod (ha := ee_callT (hc := call_int1) (h := o_int) (hm := (free_int hy)) (hv := by decide +kernel) (ha := ea_cons (ee_var 14) (ea_nil))) (hb := ee_int)))) (ss_nil)) (ss_cons (ss_if (eb_w (ew_or (eb_eq (hr := hr) (ha := ee_ix (ha := ee_var 4) (hb := ee_int)) (hb := ee_int)) (ew_or1 (eb_eq (hr := hr) (ha := ee_ix (ha := ee_var 4) (hb := ee_int)) (hb := ee_int))))) (ss_one (ss_set 13 (hN := sc_law_far.nd) (he := ee_mod (ha := ee_callT (hc := call_int1) (h := o_int) (hm := (free_int hy)) (hv := by decide +kernel) (ha := ea_cons (ee_var 12) (ea_nil))) (hb := ee_var 7)))) (ss_nil)) (ss_cons (ss_app 9 (he := ee_tup (ea_cons (ee_var 13) (ea_cons (ee_mod (ha := ee_callT (hc := call_int1) (h := o_int) (hm := (free_int hy)) (hv := by decide +kernel) (ha := ea_cons (ee_add (ha := ee_add (ha := ee_var 13) (hb := ee_int)) (hb := ee_mod (ha := ee_callT (hc := call_int1) (h := o_int) (hm := (free_int hy)) (hv := by decide +kernel) (ha := ea_cons (ee_var 14) (ea_nil))) (hb := ee_sub (ha := ee_var 7) (hb := ee_int)))) (ea_nil))) (hb := ee_var 7)) (ea_nil))))) (ss_cons (ss_app 10 (he := ee_fdiv (ha := ee_ix (ha := ee_var 5) (hb := ee_var 12)) (hb := ee_int))) (ss_one (ss_appA 11 (he := ee_ix (ha := en_ee (en_lst (ea_cons (ee_tup (ea_cons (ee_int) (ea_cons (ee_int) (ea_nil)))) (ea_cons (ee_tup (ea_cons (ee_ix (ha := ee_var 10) (hb := ee_var 12)) (ea_nil))) (ea_nil))))) (hb := ee_callT (hc := call_int1) (h := o_int) (hm := (free_int hy)) (hv := by decide +kernel) (ha := ea_cons (ee_and (ee_eq (hr := hr) (ha := ee_ix (ha := ee_var 4) (hb := ee_int)) (hb := ee_int)) (ee_one (ee_eq (hr := hr) (ha := ee_mod (ha := ee_callT (hc := call_int1) (h := o_int) (hm := (free_int hy)) (hv := by decide +kernel) (ha := ea_cons (ee_ix (ha := ee_var 5) (hb := ee_var 12)) (ea_nil))) (hb := ee_int)) (hb := ee_int)))) (ea_nil))))))))))))) (ss_cons (ss_rel 10 (ss_rel 9 (ss_set 15 (hN := sc_law_far.nd) (he := ee_callP (F := G_law_fed) (hr := hr.mono (by decide)) (hm := glo__law_fed hy) (hk := F_law_fed.kp) (hb := ab_law_fed_3_) (tk := (L2N.takes_of rfl rfl rfl rfl)) (hp := rfl) (hmx := by decide) (hdd := fun _ => .nil) (ha := ea_cons (ee_var 7) (ea_cons (ee_var 9) (ea_cons (ee_var 10) (ea_nil)))) (hkw := ek_nil))))) (ss_cons (ss_own 16 (hN := sc_law_far.nd) (he := en_lst (ea_nil))) (ss_cons (ss_own 17 (hN := sc_law_far.nd) (he := en_lst (ea_nil))) (ss_cons (ss_for (hp := (passes_of rfl)) (hc := rfl) (hi := ei_range1 (hm := (free_range hy)) (ha := ee_var 7)) (hg := eg_name 18 sc_law_far.nd) (hb := ss_cons (ss_set 19 (hN := sc_law_far.nd) (he := ee_ix (ha := en_ee (en_lst (ea_cons (ee_int) (ea_cons (ee_int) (ea_cons (ee_int) (ea_cons (ee_int) (ea_cons (ee_int) (ea_cons (ee_int) (ea_cons (ee_int) (ea_cons (ee_int) (ea_nil))))))))))) (hb := ee_mod (ha := ee_callT (hc := call_int1) (h := o_int) (hm := (free_int hy)) (hv := by decide +kernel) (ha := ea_cons (ee_ix (ha := ee_var 6) (hb := ee_var 18)) (ea_nil))) (hb := ee_int)))) (ss_cons (ss_set 20 (hN := sc_law_far.nd) (he := ee_ix (ha := en_ee (en_lst (ea_cons (ee_non) (ea_cons (ee_int) (ea_cons (ee_non) (ea_cons (ee_int) (ea_cons (ee_int) (ea_cons (ee_int) (ea_cons (ee_non) (ea_cons (ee_int) (ea_nil))))))))))) (hb := ee_fdiv (ha := ee_ix (ha := ee_var 6) (hb := ee_var 18)) (hb := ee_int)))) (ss_cons (ss_if (eb_ge (ha := ee_ix (ha := ee_var 4) (hb := ee_int)) (hb := ee_int)) (ss_one (ss_set 20 (hN := sc_law_far.nd) (he := ee_non))) (ss_nil)) (ss_cons (ss_app 16 (he := ee_callB (hc := (call_max2 rfl)) (h := o_max) (hm := (free_max hy)) (hv := by decide +kernel) (ha := ea_cons (ee_int) (ea_cons (ee_sub (ha := ee_ix (ha := ee_var 15) (hb := ee_var 18)) (hb := ee_var 19)) (ea_nil))))) (ss_cons (ss_if (eb_notN (ha := ee_var 20) (hb := ee_non)) (ss_one (ss_set 20 (hN := sc_law_far.nd) (he := ee_add (ha := ee_ix (ha := ee_var 15) (hb := ee_var 18)) (hb := ee_var 20)))) (ss_nil)) (ss_one (ss_app 17 (he := ee_var 20))))))))) (ss_one (ss_rel 10 (ss_rel 11 (ss_rel 17 (ss_rel 16 (ss_rel 9 (ss_ret (en_ee (en_lst (ea_cons (en_ee (en_lst (ea_cons (ee_var 7) (ea_cons (ee_var 9) (ea_cons (ee_var 16) (ea_cons (ee_var 17) (ea_cons (ee_var 11) (ea_nil)))))))) (ea_cons (ee_callT (hc := call_tuple_of) (h := (o_tuple rfl)) (hm := (free_tuple hy)) (hv := by decide +kernel) (ha := ea_cons (ee_var 10) (ea_nil))) (ea_nil)))))))))))))))))))))))))⟩
end LW
end

section
set_option maxHeartbeats 4000000
namespace LW
open PySem L2 EV
theorem sc_law_valley : FnScope ["_law_row", "_law_upto", "_law_mills", "_law_many", "_law_pairs", "_law_k", "_law_first", "_law_second"] ["_law_row", "_law_upto"] (defScope st_law_valley) := ⟨rfl, rfl, rfl, by decide +kernel, rfl, by decide +kernel, by decide +kernel⟩
def g_law_valley : FS := gSeq (gSet 2 (v2 ixD (vL (nRep (vL (lenOk (aCons (vC (.int 3)) (aCons (vC (.int 3)) (aCons (vC (.int 4)) (aCons (vC (.int 2)) (aCons (vC (.int 4)) (aCons (vC (.int 3)) (aCons (vC (.int 5)) (aCons (vC (.int 3)) (aCons (vC (.int 4)) (aCons (vC (.int 3)) (aCons (vC (.int 2)) (aCons (vC (.int 4)) (aNil))))))))))))))) (vC (.int 2)))) (v2 modD (vCall intD (aCons (v2 ixD (vVar 0) (vC (.int 0))) (aNil))) (vC (.int 24))))) (gSeq (gIf (v2 eqD (v2 ixD (vVar 0) (vC (.int 0))) (vC (.int 23))) (gSet 2 (vC (.int 1))) (gNext)) (gSeq (gSet 3 (v2 ixD (vL (nRep (vL (lenOk (aCons (vC (.int 4)) (aCons (vC (.int 5)) (aCons (vC (.int 3)) (aCons (vC (.int 6)) (aCons (vC (.int 5)) (aCons (vC (.int 4)) (aCons (vC (.int 7)) (aCons (vC (.int 5)) (aCons (vC (.int 4)) (aCons (vC (.int 6)) (aCons (vC (.int 5)) (aCons (vC (.int 2)) (aNil))))))))))))))) (vC (.int 2)))) (v2 modD (vCall intD (aCons (v2 ixD (vVar 0) (vC (.int 1))) (aNil))) (vC (.int 24))))) (gSeq (gIf (v2 geD (v2 ixD (vVar 0) (vC (.int 1))) (vC (.int 22))) (gSet 3 (v2 subD (vC (.int 23)) (v2 ixD (vVar 0) (vC (.int 1))))) (gNext)) (gSeq (gOwn 4 (lenOk (aNil))) (gSeq (gIf (v2 gtD (vVar 2) (vC (.int 1))) (gFor (iRange1 (vCall minD (aCons (vVar 3) (aCons (vVar 1) (aNil))))) (nmG 5) (gSeq (gSet 6 (v2 modD (vCall intD (aCons (v2 ixD (vVar 0) (v2 addD (vC (.int 3)) (v2 mulD (vC (.int 2)) (vVar 5)))) (aNil))) (vVar 2))) (gSeq (gSet 7 (v2 modD (vCall intD (aCons (v2 addD (v2 addD (vVar 6) (vC (.int 1))) (v2 modD (vCall intD (aCons (v2 ixD (vVar 0) (v2 addD (vC (.int 4)) (v2 mulD (vC (.int 2)) (vVar 5)))) (aNil))) (v2 subD (vVar 2) (vC (.int 1))))) (aNil))) (vVar 2))) (gSeq (gIf (vAnd (vOr (v2 eqD (v2 ixD (vVar 0) (vC (.int 2))) (vC (.int 2))) (v2 eqD (v2 ixD (vVar 0) (vC (.int 2))) (vC (.int 3)))) (v2 ltD (vVar 5) (vVar 2))) (gSeq (gSet 6 (vVar 5)) (gSet 7 (v2 modD (vCall intD (aCons (v2 addD (vVar 5) (vC (.int 1))) (aNil))) (vVar 2)))) (gNext)) (gSeq (gIf (vOr (vAnd (v2 geD (v2 ixD (vVar 0) (vC (.int 2))) (vC (.int 4))) (v2 eqD (vVar 5) (vC (.int 1)))) (vAnd (v2 eqD (v2 ixD (vVar 0) (vC (.int 2))) (vC (.int 5))) (v2 eqD (vVar 5) (vC (.int 3))))) (gSeq (gSetA 6 (v2 ixD (v2 ixD (vVar 4) (v2 subD (vVar 5) (vC (.int 1)))) (vC (.int 1)))) (gSetA 7 (v2 ixD (v2 ixD (vVar 4) (v2 subD (vVar 5) (vC (.int 1)))) (vC (.int 0))))) (gNext)) (gAppO 4 (gApp 4 (vTup (aCons (vVar 6) (aCons (vVar 7) (aNil))))))))))) (gNext)) (gRel 4 (gRet (vL (lenOk (aCons (vVar 2) (aCons (vVar 4) (aCons (v2 ixD (vVar 0) (vC (.int 2))) (aNil)))))))))))))
def sem_law_valley : List D → Option R := semF 8 g_law_valley
theorem ok_law_valley {P : Program} {w : World} {K : PySem.W.Frag} {mg : Str → Option Value} {base : Heap} (hy : Hyp K mg) : ∃ fd, FunD K d_law_valley.name d_law_valley.qual d_law_valley.params d_law_valley.body d_law_valley.scope (d_law_valley.dvs K) (d_law_valley.kws K) (He.fAd K d_law_valley.at_) fd ∧ FnOk P w K mg base (L2N.CX P w) 1 (He.fAd K d_law_valley.at_) fd ["_law_row", "_law_upto"] (spF (tab K) 2 (sem_law_valley)) := by
  obtain ⟨fd, F⟩ := hy.says.fn (33) (d := d_law_valley) rfl
  exact ⟨fd, F, fn_ev F sc_law_valley fun cdv A outer s H E hr => (ss_cons (ss_set 2 (hN := sc_law_valley.nd) (he := ee_ix (ha := en_ee (en_rep (ha := en_ee (en_lst (ea_cons (ee_int) (ea_cons (ee_int) (ea_cons (ee_int) (ea_cons (ee_int) (ea_cons (ee_int) (ea_cons (ee_int) (ea_cons (ee_int) (ea_cons (ee_int) (ea_cons (ee_int) (ea_cons (ee_int) (ea_cons (ee_int) (ea_cons (ee_int) (ea_nil))))))))))))))) (hb := ee_int))) (hb := ee_mod (ha := ee_callT (hc := call_int1) (h := o_int) (hm := (free_int hy)) (hv := by decide +kernel) (ha := ea_cons (ee_ix (ha := ee_var 0) (hb := ee_int)) (ea_nil))) (hb := ee_int)))) (ss_cons (ss_if (eb_eq (hr := hr) (ha := ee_ix (ha := ee_var 0) (hb := ee_int)) (hb := ee_int)) (ss_one (ss_set 2 (hN := sc_law_valley.nd) (he := ee_int))) (ss_nil)) (ss_cons (ss_set 3 (hN := sc_law_valley.nd) (he := ee_ix (ha := en_ee (en_rep (ha := en_ee (en_lst (ea_cons (ee_int) (ea_cons (ee_int) (ea_cons (ee_int) (ea_cons (ee_int) (ea_cons (ee_int) (ea_cons (ee_int) (ea_cons (ee_int) (ea_cons (ee_int) (ea_cons (ee_int) (ea_cons (ee_int) (ea_cons (ee_int) (ea_cons (ee_int) (ea_nil))))))))))))))) (hb := ee_int))) (hb := ee_mod (ha := ee_callT (hc := call_int1) (h := o_int) (hm := (free_int hy)) (hv := by decide +kernel) (ha := ea_cons (ee_ix (ha := ee_var 0) (hb := ee_int)) (ea_nil))) (hb := ee_int)))) (ss_cons (ss_if (eb_ge (ha := ee_ix (ha := ee_var 0) (hb := ee_int)) (hb := ee_int)) (ss_one (ss_set 3 (hN := sc_law_valley.nd) (he := ee_sub (ha := ee_int) (hb := ee_ix (ha := ee_var 0) (hb := ee_int))))) (ss_nil)) (ss_cons (ss_own 4 (hN := sc_law_valley.nd) (he := en_lst (ea_nil))) (ss_cons (ss_if (eb_gt (ha := ee_var 2) (hb := ee_int)) (ss_one (ss_for (hp := (passes_of rfl)) (hc := rfl) (hi := ei_range1 (hm := (free_range hy)) (ha := ee_callB (hc := (call_min2 rfl)) (h := o_min) (hm := (free_min hy)) (hv := by decide +kernel) (ha := ea_cons (ee_var 3) (ea_cons (ee_var 1) (ea_nil))))) (hg := eg_name 5 sc_law_valley.nd) (hb := ss_cons (ss_set 6 (hN := sc_law_valley.nd) (he := ee_mod (ha := ee_callT (hc := call_int1) (h := o_int) (hm := (free_int hy)) (hv := by decide +kernel) (ha := ea_cons (ee_ix (ha := ee_var 0) (hb := ee_add (ha := ee_int) (hb := ee_mul (ha := ee_int) (hb := ee_var 5)))) (ea_nil))) (hb := ee_var 2))) (ss_cons (ss_set 7 (hN := sc_law_valley.nd) (he := ee_mod (ha := ee_callT (hc := call_int1) (h := o_int) (hm := (free_int hy)) (hv := by decide +kernel) (ha := ea_cons (ee_add (ha := ee_add (ha := ee_var 6) (hb := ee_int)) (hb := ee_mod (ha := ee_callT (hc := call_int1) (h := o_int) (hm := (free_int hy)) (hv := by decide +kernel) (ha := ea_cons (ee_ix (ha := ee_var 0) (hb := ee_add (ha := ee_int) (hb := ee_mul (ha := ee_int) (hb := ee_var 5)))) (ea_nil))) (hb := ee_sub (ha := ee_var 2) (hb := ee_int)))) (ea_nil))) (hb := ee_var 2))) (ss_cons (ss_if (eb_w (ew_and (eb_w (ew_or (eb_eq (hr := hr) (ha := ee_ix (ha := ee_var 0) (hb := ee_int)) (hb := ee_int)) (ew_or1 (eb_eq (hr := hr) (ha := ee_ix (ha := ee_var 0) (hb := ee_int)) (hb := ee_int))))) (ew_and1 (eb_lt (ha := ee_var 5) (hb := ee_var 2))))) (ss_cons (ss_set 6 (hN := sc_law_valley.nd) (he := ee_var 5)) (ss_one (ss_set 7 (hN := sc_law_valley.nd) (he := ee_mod (ha := ee_callT (hc := call_int1) (h := o_int) (hm := (free_int hy)) (hv := by decide +kernel) (ha := ea_cons (ee_add (ha := ee_var 5) (hb := ee_int)) (ea_nil))) (hb := ee_var 2))))) (ss_nil)) (ss_cons (ss_if (eb_w (ew_or (eb_w (ew_and (eb_ge (ha := ee_ix (ha := ee_var 0) (hb := ee_int)) (hb := ee_int)) (ew_and1 (eb_eq (hr := hr) (ha := ee_var 5) (hb := ee_int))))) (ew_or1 (eb_w (ew_and (eb_eq (hr := hr) (ha := ee_ix (ha := ee_var 0) (hb := ee_int)) (hb := ee_int)) (ew_and1 (eb_eq (hr := hr) (ha := ee_var 5) (hb := ee_int)))))))) (ss_cons (ss_setA 6 (hN := sc_law_valley.nd) (he := ee_ix (ha := ee_ix (ha := ee_var 4) (hb := ee_sub (ha := ee_var 5) (hb := ee_int))) (hb := ee_int))) (ss_one (ss_setA 7 (hN := sc_law_valley.nd) (he := ee_ix (ha := ee_ix (ha := ee_var 4) (hb := ee_sub (ha := ee_var 5) (hb := ee_int))) (hb := ee_int))))) (ss_nil)) (ss_one (ss_app 4 (he := ee_tup (ea_cons (ee_var 6) (ea_cons (ee_var 7) (ea_nil)))))))))))) (ss_nil)) (ss_one (ss_rel 4 (ss_ret (en_ee (en_lst (ea_cons (ee_var 2) (ea_cons (ee_var 4) (ea_cons (ee_ix (ha := ee_var 0) (hb := ee_int)) (ea_nil)))))))))))))))⟩
end LW
end

section
set_option maxHeartbeats 4000000
namespace LW
open PySem L2 EV
theorem sc_law_world : FnScope ["_law_valley_here", "_law_row", "_law_mills", "_law_pairs", "_law_base", "_law_k", "_law_count", "_law_low", "_law_high", "_law_mill", "_law_slack", "_law_top", "_law_let"] ["_law_valley_here", "_law_row"] (defScope st_law_world) := ⟨rfl, rfl, rfl, by decide +kernel, rfl, by decide +kernel, by decide +kernel⟩
def g_law_world : FS := gSeq (gSet 2 (v2 ixD (vVar 0) (vC (.int 0)))) (gSeq (gSet 3 (v2 ixD (vVar 0) (vC (.int 1)))) (gSeq (gOwn 4 (nLc (iRange1 (vCall lenD (aCons (vVar 3) (aNil)))) (nmG 5) (vYes) (v2 modD (vCall intD (aCons (v2 ixD (vVar 1) (v2 addD (vC (.int 18)) (vVar 5))) (aNil))) (vC (.int 2))) [5])) (gSeq (gFor (iRange1 (vCall lenD (aCons (vVar 3) (aNil)))) (nmG 5) (gSeq (gIf (vAnd (vOr (v2 eqD (v2 ixD (vVar 0) (vC (.int 2))) (vC (.int 2))) (v2 eqD (v2 ixD (vVar 0) (vC (.int 2))) (vC (.int 3)))) (v2 ltD (vVar 5) (vVar 2))) (gSetIxA 4 (vVar 5) (v2 ixD (vVar 4) (vC (.int 0)))) (gNext)) (gIf (vOr (vAnd (v2 geD (v2 ixD (vVar 0) (vC (.int 2))) (vC (.int 4))) (v2 eqD (vVar 5) (vC (.int 1)))) (vAnd (v2 eqD (v2 ixD (vVar 0) (vC (.int 2))) (vC (.int 5))) (v2 eqD (vVar 5) (vC (.int 3))))) (gSetIxA 4 (vVar 5) (v2 ixD (vVar 4) (v2 subD (vVar 5) (vC (.int 1))))) (gNext)))) (gSeq (gRel 4 (gSet 6 (vCallP 3 0 [0, 1, 2] sem_law_fed [] (aCons (vVar 2) (aCons (vVar 3) (aCons (vVar 4) (aNil)))) (aNil)))) (gSeq (gOwn 7 (lenOk (aNil))) (gSeq (gOwn 8 (lenOk (aNil))) (gSeq (gFor (iRange1 (vVar 2)) (nmG 9) (gSeq (gSet 10 (v2 ixD (vL (lenOk (aCons (vC (.int 0)) (aCons (vC (.int 0)) (aCons (vC (.int 1)) (aCons (vC (.int 0)) (aCons (vC (.int 1)) (aCons (vC (.int 2)) (aCons (vC (.int 0)) (aCons (vC (.int 1)) (aNil))))))))))) (v2 modD (vCall intD (aCons (v2 ixD (vVar 1) (v2 addD (vC (.int 1)) (v2 mulD (vC (.int 2)) (vVar 9)))) (aNil))) (vC (.int 8))))) (gSeq (gSet 11 (v2 ixD (vL (lenOk (aCons (vC .non) (aCons (vC (.int 1)) (aCons (vC .non) (aCons (vC (.int 0)) (aCons (vC (.int 1)) (aCons (vC (.int 2)) (aCons (vC (.int 1)) (aCons (vC .non) (aNil))))))))))) (v2 modD (vCall intD (aCons (v2 ixD (vVar 1) (v2 addD (vC (.int 2)) (v2 mulD (vC (.int 2)) (vVar 9)))) (aNil))) (vC (.int 8))))) (gSeq (gIf (vOr (v2 eqD (v2 ixD (vVar 1) (vC (.int 0))) (vC (.int 1))) (vOr (v2 eqD (v2 ixD (vVar 1) (vC (.int 0))) (vC (.int 5))) (vAnd (v2 eqD (v2 ixD (vVar 1) (vC (.int 0))) (vC (.int 2))) (v2 gtD (vVar 9) (vC (.int 0)))))) (gSet 10 (vC (.int 0))) (gNext)) (gSeq (gIf (v2 eqD (v2 ixD (vVar 1) (vC (.int 0))) (vC (.int 5))) (gSet 11 (vC (.int 1))) (gNext)) (gSeq (gIf (vOr (v2 leD (v2 ixD (vVar 1) (vC (.int 0))) (vC (.int 2))) (v2 eqD (v2 ixD (vVar 1) (vC (.int 0))) (vC (.int 7)))) (gSet 11 (vC .non)) (gNext)) (gSeq (gAppO 7 (gApp 7 (vCall maxD (aCons (vC (.int 0)) (aCons (v2 subD (v2 ixD (vVar 6) (vVar 9)) (vVar 10)) (aNil)))))) (gSeq (gIf (v2 eqD (v2 ixD (vVar 1) (vC (.int 0))) (vC (.int 3))) (gSeq (gSetIx 7 (vVar 9) (vC (.int 0))) (gSet 11 (v2 ixD (vL (lenOk (aCons (vC (.int 0)) (aCons (vC (.int 0)) (aCons (vC (.int 0)) (aCons (vC (.int 1)) (aNil))))))) (v2 modD (vCall intD (aCons (v2 ixD (vVar 1) (v2 addD (vC (.int 2)) (v2 mulD (vC (.int 2)) (vVar 9)))) (aNil))) (vC (.int 4)))))) (gNext)) (gSeq (gIf (v2 notNonD (vVar 11) (vC .non)) (gSet 11 (v2 addD (v2 ixD (vVar 6) (vVar 9)) (vVar 11))) (gNext)) (gAppO 8 (gApp 8 (vVar 11)))))))))))) (gSeq (gOwn 12 (lenOk (aNil))) (gSeq (gFor (iRange1 (vCall lenD (aCons (vVar 3) (aNil)))) (nmG 5) (gRel 4 (gAppO 12 (gApp 12 (v2 ixD (vL (lenOk (aCons (vTup (aCons (vC (.int 0)) (aCons (vC (.int 1)) (aNil)))) (aCons (vTup (aCons (v2 ixD (vVar 4) (vVar 5)) (aNil))) (aNil))))) (vCall intD (aCons (v2 eqD (v2 ixD (vVar 1) (v2 addD (vC (.int 11)) (vVar 5))) (vC (.int 5))) (aNil)))))))) (gRel 12 (gRel 8 (gRel 7 (gRet (vL (lenOk (aCons (vVar 2) (aCons (vVar 3) (aCons (vVar 7) (aCons (vVar 8) (aCons (vVar 12) (aNil)))))))))))))))))))))
def sem_law_world : List D → Option R := semF 13 g_law_world
theorem ok_law_world {P : Program} {w : World} {K : PySem.W.Frag} {mg : Str → Option Value} {base : Heap} (hy : Hyp K mg) : ∃ fd, FunD K d_law_world.name d_law_world.qual d_law_world.params d_law_world.body d_law_world.scope (d_law_world.dvs K) (d_law_world.kws K) (He.fAd K d_law_world.at_) fd ∧ FnOk P w K mg base (L2N.CX P w) 2 (He.fAd K d_law_world.at_) fd ["_law_valley_here", "_law_row"] (spF (tab K) 2 (sem_law_world)) := by
  obtain ⟨fd_law_fed, F_law_fed, G_law_fed⟩ := ok_law_fed (P := P) (w := w) (base := base) hy
  have ab_law_fed_3_ : ArgB K fd_law_fed ["_law_mills", "_law_pairs", "_law_state"] 3 [] [] [0, 1, 2] := ArgB.given F_law_fed (fun kV doc pm an cdv ct us ws l1 l2 => match us, l1, ws, l2 with | [_, _, _], _, [], _ => rfl)
  obtain ⟨fd, F⟩ := hy.says.fn (34) (d := d_law_world) rfl
  exact ⟨fd, F, fn_ev F sc_law_world fun cdv A outer s H E hr => (ss_cons (ss_set 2 (hN := sc_law_world.nd) (he := ee_ix (ha := ee_var 0) (hb := ee_int))) (ss_cons (ss_set 3 (hN := sc_law_world.nd) (he := ee_ix (ha := ee_var 0) (hb := ee_int))) (ss_cons (ss_lc_o (ps_lcs (i := 4) (hy := rfl) (hyl := rfl) (hsw := sw_true rfl rfl rfl (by decide +kernel)) (own := [("_law_k", 5)]) (hc := rfl) (hN := sc_law_world.nd) (ok := blkOk_by (show blkC ["_law_valley_here", "_law_row", "_law_mills", "_law_pairs", "_law_base", "_law_k", "_law_count", "_law_low", "_law_high", "_law_mill", "_law_slack", "_law_top", "_law_let"] (defScope st_law_world) _ [("_law_k", 5)] = true by decide +kernel)) (hi := ei_range1 (hm := (free_range hy)) (ha := ee_callB (hc := call_len_seq) (h := (o_len rfl)) (hm := (free_len hy)) (hv := by decide +kernel) (ha := ea_cons (ee_var 3) (ea_nil)))) (hg := fun _ _ _ _ _ => eg_name 5 sc_law_world.nd) (ht := fun _ _ _ _ _ => et_nil) (he := fun _ _ _ _ _ => ee_mod (ha := ee_callT (hc := call_int1) (h := o_int) (hm := (free_int hy)) (hv := by decide +kernel) (ha := ea_cons (ee_ix (ha := ee_var 1) (hb := ee_add (ha := ee_int) (hb := ee_var 5))) (ea_nil))) (hb := ee_int))) (w_lc (by decide))) (ss_cons (ss_for (hp := (passes_of rfl)) (hc := rfl) (hi := ei_range1 (hm := (free_range hy)) (ha := ee_callB (hc := call_len_seq) (h := (o_len rfl)) (hm := (free_len hy)) (hv := by decide +kernel) (ha := ea_cons (ee_var 3) (ea_nil)))) (hg := eg_name 5 sc_law_world.nd) (hb := ss_cons (ss_if (eb_w (ew_and (eb_w (ew_or (eb_eq (hr := hr) (ha := ee_ix (ha := ee_var 0) (hb := ee_int)) (hb := ee_int)) (ew_or1 (eb_eq (hr := hr) (ha := ee_ix (ha := ee_var 0) (hb := ee_int)) (hb := ee_int))))) (ew_and1 (eb_lt (ha := ee_var 5) (hb := ee_var 2))))) (ss_one (ss_setIxA 4 (hg := fun h => pg_sub (pv 4) h set_list) (hk := ee_var 5) (he := ee_ix (ha := ee_var 4) (hb := ee_int)))) (ss_nil)) (ss_one (ss_if (eb_w (ew_or (eb_w (ew_and (eb_ge (ha := ee_ix (ha := ee_var 0) (hb := ee_int)) (hb := ee_int)) (ew_and1 (eb_eq (hr := hr) (ha := ee_var 5) (hb := ee_int))))) (ew_or1 (eb_w (ew_and (eb_eq (hr := hr) (ha := ee_ix (ha := ee_var 0) (hb := ee_int)) (hb := ee_int)) (ew_and1 (eb_eq (hr := hr) (ha := ee_var 5) (hb := ee_int)))))))) (ss_one (ss_setIxA 4 (hg := fun h => pg_sub (pv 4) h set_list) (hk := ee_var 5) (he := ee_ix (ha := ee_var 4) (hb := ee_sub (ha := ee_var 5) (hb := ee_int))))) (ss_nil))))) (ss_cons (ss_rel 4 (ss_set 6 (hN := sc_law_world.nd) (he := ee_callP (F := G_law_fed) (hr := hr.mono (by decide)) (hm := glo__law_fed hy) (hk := F_law_fed.kp) (hb := ab_law_fed_3_) (tk := (L2N.takes_of rfl rfl rfl rfl)) (hp := rfl) (hmx := by decide) (hdd := fun _ => .nil) (ha := ea_cons (ee_var 2) (ea_cons (ee_var 3) (ea_cons (ee_var 4) (ea_nil)))) (hkw := ek_nil)))) (ss_cons (ss_own 7 (hN := sc_law_world.nd) (he := en_lst (ea_nil))) (ss_cons (ss_own 8 (hN := sc_law_world.nd) (he := en_lst (ea_nil))) (ss_cons (ss_for (hp := (passes_of rfl)) (hc := rfl) (hi := ei_range1 (hm := (free_range hy)) (ha := ee_var 2)) (hg := eg_name 9 sc_law_world.nd) (hb := ss_cons (ss_set 10 (hN := sc_law_world.nd) (he := ee_ix (ha := en_ee (en_lst (ea_cons (ee_int) (ea_cons (ee_int) (ea_cons (ee_int) (ea_cons (ee_int) (ea_cons (ee_int) (ea_cons (ee_int) (ea_cons (ee_int) (ea_cons (ee_int) (ea_nil))))))))))) (hb := ee_mod (ha := ee_callT (hc := call_int1) (h := o_int) (hm := (free_int hy)) (hv := by decide +kernel) (ha := ea_cons (ee_ix (ha := ee_var 1) (hb := ee_add (ha := ee_int) (hb := ee_mul (ha := ee_int) (hb := ee_var 9)))) (ea_nil))) (hb := ee_int)))) (ss_cons (ss_set 11 (hN := sc_law_world.nd) (he := ee_ix (ha := en_ee (en_lst (ea_cons (ee_non) (ea_cons (ee_int) (ea_cons (ee_non) (ea_cons (ee_int) (ea_cons (ee_int) (ea_cons (ee_int) (ea_cons (ee_int) (ea_cons (ee_non) (ea_nil))))))))))) (hb := ee_mod (ha := ee_callT (hc := call_int1) (h := o_int) (hm := (free_int hy)) (hv := by decide +kernel) (ha := ea_cons (ee_ix (ha := ee_var 1) (hb := ee_add (ha := ee_int) (hb := ee_mul (ha := ee_int) (hb := ee_var 9)))) (ea_nil))) (hb := ee_int)))) (ss_cons (ss_if (eb_w (ew_or (eb_eq (hr := hr) (ha := ee_ix (ha := ee_var 1) (hb := ee_int)) (hb := ee_int)) (ew_or (eb_eq (hr := hr) (ha := ee_ix (ha := ee_var 1) (hb := ee_int)) (hb := ee_int)) (ew_or1 (eb_w (ew_and (eb_eq (hr := hr) (ha := ee_ix (ha := ee_var 1) (hb := ee_int)) (hb := ee_int)) (ew_and1 (eb_gt (ha := ee_var 9) (hb := ee_int))))))))) (ss_one (ss_set 10 (hN := sc_law_world.nd) (he := ee_int))) (ss_nil)) (ss_cons (ss_if (eb_eq (hr := hr) (ha := ee_ix (ha := ee_var 1) (hb := ee_int)) (hb := ee_int)) (ss_one (ss_set 11 (hN := sc_law_world.nd) (he := ee_int))) (ss_nil)) (ss_cons (ss_if (eb_w (ew_or (eb_le (ha := ee_ix (ha := ee_var 1) (hb := ee_int)) (hb := ee_int)) (ew_or1 (eb_eq (hr := hr) (ha := ee_ix (ha := ee_var 1) (hb := ee_int)) (hb := ee_int))))) (ss_one (ss_set 11 (hN := sc_law_world.nd) (he := ee_non))) (ss_nil)) (ss_cons (ss_app 7 (he := ee_callB (hc := (call_max2 rfl)) (h := o_max) (hm := (free_max hy)) (hv := by decide +kernel) (ha := ea_cons (ee_int) (ea_cons (ee_sub (ha := ee_ix (ha := ee_var 6) (hb := ee_var 9)) (hb := ee_var 10)) (ea_nil))))) (ss_cons (ss_if (eb_eq (hr := hr) (ha := ee_ix (ha := ee_var 1) (hb := ee_int)) (hb := ee_int)) (ss_cons (ss_setIx 7 (hg := fun h => pg_sub (pv 7) h set_list) (hk := ee_var 9) (he := ee_int)) (ss_one (ss_set 11 (hN := sc_law_world.nd) (he := ee_ix (ha := en_ee (en_lst (ea_cons (ee_int) (ea_cons (ee_int) (ea_cons (ee_int) (ea_cons (ee_int) (ea_nil))))))) (hb := ee_mod (ha := ee_callT (hc := call_int1) (h := o_int) (hm := (free_int hy)) (hv := by decide +kernel) (ha := ea_cons (ee_ix (ha := ee_var 1) (hb := ee_add (ha := ee_int) (hb := ee_mul (ha := ee_int) (hb := ee_var 9)))) (ea_nil))) (hb := ee_int)))))) (ss_nil)) (ss_cons (ss_if (eb_notN (ha := ee_var 11) (hb := ee_non)) (ss_one (ss_set 11 (hN := sc_law_world.nd) (he := ee_add (ha := ee_ix (ha := ee_var 6) (hb := ee_var 9)) (hb := ee_var 11)))) (ss_nil)) (ss_one (ss_app 8 (he := ee_var 11)))))))))))) (ss_cons (ss_own 12 (hN := sc_law_world.nd) (he := en_lst (ea_nil))) (ss_cons (ss_for (hp := (passes_of rfl)) (hc := rfl) (hi := ei_range1 (hm := (free_range hy)) (ha := ee_callB (hc := call_len_seq) (h := (o_len rfl)) (hm := (free_len hy)) (hv := by decide +kernel) (ha := ea_cons (ee_var 3) (ea_nil)))) (hg := eg_name 5 sc_law_world.nd) (hb := ss_one (ss_rel 4 (ss_app 12 (he := ee_ix (ha := en_ee (en_lst (ea_cons (ee_tup (ea_cons (ee_int) (ea_cons (ee_int) (ea_nil)))) (ea_cons (ee_tup (ea_cons (ee_ix (ha := ee_var 4) (hb := ee_var 5)) (ea_nil))) (ea_nil))))) (hb := ee_callT (hc := call_int1) (h := o_int) (hm := (free_int hy)) (hv := by decide +kernel) (ha := ea_cons (ee_eq (hr := hr) (ha := ee_ix (ha := ee_var 1) (hb := ee_add (ha := ee_int) (hb := ee_var 5))) (hb := ee_int)) (ea_nil)))))))) (ss_one (ss_rel 12 (ss_rel 8 (ss_rel 7 (ss_ret (en_ee (en_lst (ea_cons (ee_var 2) (ea_cons (ee_var 3) (ea_cons (ee_var 7) (ea_cons (ee_var 8) (ea_cons (ee_var 12) (ea_nil)))))))))))))))))))))))⟩
end LW
end

section
set_option maxHeartbeats 4000000
namespace LW
open PySem L2 EV
theorem sc_law_drawn : FnScope ["_law_script", "_law_at", "_law_upto", "_law_valley_here"] ["_law_script", "_law_at", "_law_upto"] (defScope st_law_drawn) := ⟨rfl, rfl, rfl, by decide +kernel, rfl, by decide +kernel, by decide +kernel⟩
def g_law_drawn : FS := gSeq (gSet 3 (vCallP 2 0 [0, 1] sem_law_valley [] (aCons (vCallP 2 0 [0, 1] sem_law_digits [] (aCons (vCallP 2 0 [0, 1] sem_law_cell [] (aCons (vVar 0) (aCons (vVar 1) (aNil))) (aNil)) (aCons (vL (nAdd (vL (lenOk (aCons (vC (.int 24)) (aCons (vC (.int 24)) (aCons (vC (.int 6)) (aNil)))))) (vL (nRep (vL (lenOk (aCons (vC (.int 12)) (aCons (vC (.int 12)) (aNil))))) (vC (.int 7)))))) (aNil))) (aNil)) (aCons (vVar 2) (aNil))) (aNil))) (gRet (vCallP 2 0 [0, 1] sem_law_world [] (aCons (vVar 3) (aCons (vCallP 2 0 [0, 1] sem_law_digits [] (aCons (vCallP 2 0 [0, 1] sem_law_cell [] (aCons (vVar 0) (aCons (v2 addD (vVar 1) (vC (.int 1))) (aNil))) (aNil)) (aCons (vL (nAdd (vL (nAdd (vL (nAdd (vL (lenOk (aCons (vC (.int 8)) (aNil)))) (vL (nRep (vL (lenOk (aCons (vC (.int 8)) (aCons (vC (.int 8)) (aNil))))) (vC (.int 5)))))) (vL (nRep (vL (lenOk (aCons (vC (.int 24)) (aNil)))) (vC (.int 7)))))) (vL (nRep (vL (lenOk (aCons (vC (.int 2)) (aNil)))) (vC (.int 7)))))) (aNil))) (aNil)) (aNil))) (aNil)))
def sem_law_drawn : List D → Option R := semF 4 g_law_drawn
theorem ok_law_drawn {P : Program} {w : World} {K : PySem.W.Frag} {mg : Str → Option Value} {base : Heap} (hy : Hyp K mg) : ∃ fd, FunD K d_law_drawn.name d_law_drawn.qual d_law_drawn.params d_law_drawn.body d_law_drawn.scope (d_law_drawn.dvs K) (d_law_drawn.kws K) (He.fAd K d_law_drawn.at_) fd ∧ FnOk P w K mg base (L2N.CX P w) 3 (He.fAd K d_law_drawn.at_) fd ["_law_script", "_law_at", "_law_upto"] (spF (tab K) 3 (sem_law_drawn)) := by
  obtain ⟨fd_law_valley, F_law_valley, G_law_valley⟩ := ok_law_valley (P := P) (w := w) (base := base) hy
  obtain ⟨fd_law_digits, F_law_digits, G_law_digits⟩ := ok_law_digits (P := P) (w := w) (base := base) hy
  obtain ⟨fd_law_cell, F_law_cell, G_law_cell⟩ := ok_law_cell (P := P) (w := w) (base := base) hy
  obtain ⟨fd_law_world, F_law_world, G_law_world⟩ := ok_law_world (P := P) (w := w) (base := base) hy
  have ab_law_valley_2_ : ArgB K fd_law_valley ["_law_row", "_law_upto"] 2 [] [] [0, 1] := ArgB.given F_law_valley (fun kV doc pm an cdv ct us ws l1 l2 => match us, l1, ws, l2 with | [_, _], _, [], _ => rfl)
  have ab_law_digits_2_ : ArgB K fd_law_digits ["_law_cell_here", "_law_sizes"] 2 [] [] [0, 1] := ArgB.given F_law_digits (fun kV doc pm an cdv ct us ws l1 l2 => match us, l1, ws, l2 with | [_, _], _, [], _ => rfl)
  have ab_law_cell_2_ : ArgB K fd_law_cell ["_law_script", "_law_k"] 2 [] [] [0, 1] := ArgB.given F_law_cell (fun kV doc pm an cdv ct us ws l1 l2 => match us, l1, ws, l2 with | [_, _], _, [], _ => rfl)
  have ab_law_world_2_ : ArgB K fd_law_world ["_law_valley_here", "_law_row"] 2 [] [] [0, 1] := ArgB.given F_law_world (fun kV doc pm an cdv ct us ws l1 l2 => match us, l1, ws, l2 with | [_, _], _, [], _ => rfl)
  obtain ⟨fd, F⟩ := hy.says.fn (35) (d := d_law_drawn) rfl
  exact ⟨fd, F, fn_ev F sc_law_drawn fun cdv A outer s H E hr => (ss_cons (ss_set 3 (hN := sc_law_drawn.nd) (he := ee_callP (F := G_law_valley) (hr := hr.mono (by decide)) (hm := glo__law_valley hy) (hk := F_law_valley.kp) (hb := ab_law_valley_2_) (tk := (L2N.takes_of rfl rfl rfl rfl)) (hp := rfl) (hmx := by decide) (hdd := fun _ => .nil) (ha := ea_cons (ee_callP (F := G_law_digits) (hr := hr.mono (by decide)) (hm := glo__law_digits hy) (hk := F_law_digits.kp) (hb := ab_law_digits_2_) (tk := (L2N.takes_of rfl rfl rfl rfl)) (hp := rfl) (hmx := by decide) (hdd := fun _ => .nil) (ha := ea_cons (ee_callP (F := G_law_cell) (hr := hr.mono (by decide)) (hm := glo__law_cell hy) (hk := F_law_cell.kp) (hb := ab_law_cell_2_) (tk := (L2N.takes_of rfl rfl rfl rfl)) (hp := rfl) (hmx := by decide) (hdd := fun _ => .nil) (ha := ea_cons (ee_var 0) (ea_cons (ee_var 1) (ea_nil))) (hkw := ek_nil)) (ea_cons (en_ee (en_add (ha := en_ee (en_lst (ea_cons (ee_int) (ea_cons (ee_int) (ea_cons (ee_int) (ea_nil)))))) (hb := en_ee (en_rep (ha := en_ee (en_lst (ea_cons (ee_int) (ea_cons (ee_int) (ea_nil))))) (hb := ee_int))))) (ea_nil))) (hkw := ek_nil)) (ea_cons (ee_var 2) (ea_nil))) (hkw := ek_nil))) (ss_one (ss_ret (ee_callP (F := G_law_world) (hr := hr.mono (by decide)) (hm := glo__law_world hy) (hk := F_law_world.kp) (hb := ab_law_world_2_) (tk := (L2N.takes_of rfl rfl rfl rfl)) (hp := rfl) (hmx := by decide) (hdd := fun _ => .nil) (ha := ea_cons (ee_var 3) (ea_cons (ee_callP (F := G_law_digits) (hr := hr.mono (by decide)) (hm := glo__law_digits hy) (hk := F_law_digits.kp) (hb := ab_law_digits_2_) (tk := (L2N.takes_of rfl rfl rfl rfl)) (hp := rfl) (hmx := by decide) (hdd := fun _ => .nil) (ha := ea_cons (ee_callP (F := G_law_cell) (hr := hr.mono (by decide)) (hm := glo__law_cell hy) (hk := F_law_cell.kp) (hb := ab_law_cell_2_) (tk := (L2N.takes_of rfl rfl rfl rfl)) (hp := rfl) (hmx := by decide) (hdd := fun _ => .nil) (ha := ea_cons (ee_var 0) (ea_cons (ee_add (ha := ee_var 1) (hb := ee_int)) (ea_nil))) (hkw := ek_nil)) (ea_cons (en_ee (en_add (ha := en_ee (en_add (ha := en_ee (en_add (ha := en_ee (en_lst (ea_cons (ee_int) (ea_nil)))) (hb := en_ee (en_rep (ha := en_ee (en_lst (ea_cons (ee_int) (ea_cons (ee_int) (ea_nil))))) (hb := ee_int))))) (hb := en_ee (en_rep (ha := en_ee (en_lst (ea_cons (ee_int) (ea_nil)))) (hb := ee_int))))) (hb := en_ee (en_rep (ha := en_ee (en_lst (ea_cons (ee_int) (ea_nil)))) (hb := ee_int))))) (ea_nil))) (hkw := ek_nil)) (ea_nil))) (hkw := ek_nil)))))⟩
end LW
end

section
set_option maxHeartbeats 4000000
namespace LW
open PySem L2 EV
theorem sc_law_mirrored : FnScope ["_law_world_here", "_law_pairs", "_law_low", "_law_high", "_law_mill", "_law_near", "_law_pair"] ["_law_world_here"] (defScope st_law_mirrored) := ⟨rfl, rfl, rfl, by decide +kernel, rfl, by decide +kernel, by decide +kernel⟩
def g_law_mirrored : FS := gSeq (gSet 1 (vL (nLc (iSeq (v2 ixD (vVar 0) (vC (.int 1)))) (nmG 6) (vYes) (vTup (aCons (v2 ixD (vVar 6) (vC (.int 1))) (aCons (v2 ixD (vVar 6) (vC (.int 0))) (aNil)))) [6]))) (gSeq (gOwn 2 (lenOk (aNil))) (gSeq (gOwn 3 (lenOk (aNil))) (gSeq (gFor (iRange1 (v2 ixD (vVar 0) (vC (.int 0)))) (nmG 4) (gSeq (gSet 5 (vCall lenD (aCons (vL (nLc (iSeq (vVar 1)) (nmG 6) (v2 inD (vVar 4) (vVar 6)) (vVar 6) [6])) (aNil)))) (gSeq (gIf (v2 isNonD (v2 ixD (v2 ixD (vVar 0) (vC (.int 3))) (vVar 4)) (vC .non)) (gAppO 2 (gApp 2 (vC (.int 0)))) (gAppO 2 (gApp 2 (vCall maxD (aCons (vC (.int 0)) (aCons (v2 subD (vVar 5) (v2 ixD (v2 ixD (vVar 0) (vC (.int 3))) (vVar 4))) (aNil))))))) (gIf (vAnd (v2 eqD (v2 ixD (v2 ixD (vVar 0) (vC (.int 2))) (vVar 4)) (vC (.int 0))) (v2 eqD (v2 modD (vCall intD (aCons (v2 addD (vVar 4) (vVar 5)) (aNil))) (vC (.int 2))) (vC (.int 0)))) (gAppO 3 (gApp 3 (vC .non))) (gAppO 3 (gApp 3 (v2 subD (vVar 5) (v2 ixD (v2 ixD (vVar 0) (vC (.int 2))) (vVar 4))))))))) (gRel 3 (gRel 2 (gRet (vL (lenOk (aCons (v2 ixD (vVar 0) (vC (.int 0))) (aCons (vVar 1) (aCons (vVar 2) (aCons (vVar 3) (aCons (v2 ixD (vVar 0) (vC (.int 4))) (aNil))))))))))))))
def sem_law_mirrored : List D → Option R := semF 7 g_law_mirrored
theorem ok_law_mirrored {P : Program} {w : World} {K : PySem.W.Frag} {mg : Str → Option Value} {base : Heap} (hy : Hyp K mg) : ∃ fd, FunD K d_law_mirrored.name d_law_mirrored.qual d_law_mirrored.params d_law_mirrored.body d_law_mirrored.scope (d_law_mirrored.dvs K) (d_law_mirrored.kws K) (He.fAd K d_law_mirrored.at_) fd ∧ FnOk P w K mg base (L2N.CX P w) 1 (He.fAd K d_law_mirrored.at_) fd ["_law_world_here"] (spF (tab K) 1 (sem_law_mirrored)) := by
  obtain ⟨fd, F⟩ := hy.says.fn (36) (d := d_law_mirrored) rfl
  exact ⟨fd, F, fn_ev F sc_law_mirrored fun cdv A outer s H E hr => (ss_cons (ss_lc_v (ps_lcs (i := 1) (hy := rfl) (hyl := rfl) (hsw := sw_true rfl rfl rfl (by decide +kernel)) (own := [("_law_pair", 6)]) (hc := rfl) (hN := sc_law_mirrored.nd) (ok := blkOk_by (show blkC ["_law_world_here", "_law_pairs", "_law_low", "_law_high", "_law_mill", "_law_near", "_law_pair"] (defScope st_law_mirrored) _ [("_law_pair", 6)] = true by decide +kernel)) (hi := ei_seq (he := ee_ix (ha := ee_var 0) (hb := ee_int))) (hg := fun _ _ _ _ _ => eg_name 6 sc_law_mirrored.nd) (ht := fun _ _ _ _ _ => et_nil) (he := fun _ _ _ _ _ => ee_tup (ea_cons (ee_ix (ha := ee_var 6) (hb := ee_int)) (ea_cons (ee_ix (ha := ee_var 6) (hb := ee_int)) (ea_nil))))) (w_lc (by decide))) (ss_cons (ss_own 2 (hN := sc_law_mirrored.nd) (he := en_lst (ea_nil))) (ss_cons (ss_own 3 (hN := sc_law_mirrored.nd) (he := en_lst (ea_nil))) (ss_cons (ss_for (hp := (passes_of rfl)) (hc := rfl) (hi := ei_range1 (hm := (free_range hy)) (ha := ee_ix (ha := ee_var 0) (hb := ee_int))) (hg := eg_name 4 sc_law_mirrored.nd) (hb := ss_cons (ss_set 5 (hN := sc_law_mirrored.nd) (he := ee_callB (hc := call_len_seq) (h := (o_len rfl)) (hm := (free_len hy)) (hv := by decide +kernel) (ha := ea_cons (en_ee (en_lc (own := [("_law_pair", 6)]) (hc := rfl) (hN := sc_law_mirrored.nd) (ok := blkOk_by (show blkC ["_law_world_here", "_law_pairs", "_law_low", "_law_high", "_law_mill", "_law_near", "_law_pair"] (defScope st_law_mirrored) _ [("_law_pair", 6)] = true by decide +kernel)) (hsub := by decide) (hi := ei_seq (he := ee_var 1)) (hg := fun _ _ _ _ _ => eg_name 6 sc_law_mirrored.nd) (ht := fun _ _ _ _ _ => et_one (eb_in (hr := hr) (hm := by rfl) (ha := ee_var 4) (hb := ee_var 6))) (he := fun _ _ _ _ _ => ee_var 6))) (ea_nil)))) (ss_cons (ss_if (eb_isN (ha := ee_ix (ha := ee_ix (ha := ee_var 0) (hb := ee_int)) (hb := ee_var 4)) (hb := ee_non)) (ss_one (ss_app 2 (he := ee_int))) (ss_one (ss_app 2 (he := ee_callB (hc := (call_max2 rfl)) (h := o_max) (hm := (free_max hy)) (hv := by decide +kernel) (ha := ea_cons (ee_int) (ea_cons (ee_sub (ha := ee_var 5) (hb := ee_ix (ha := ee_ix (ha := ee_var 0) (hb := ee_int)) (hb := ee_var 4))) (ea_nil))))))) (ss_one (ss_if (eb_w (ew_and (eb_eq (hr := hr) (ha := ee_ix (ha := ee_ix (ha := ee_var 0) (hb := ee_int)) (hb := ee_var 4)) (hb := ee_int)) (ew_and1 (eb_eq (hr := hr) (ha := ee_mod (ha := ee_callT (hc := call_int1) (h := o_int) (hm := (free_int hy)) (hv := by decide +kernel) (ha := ea_cons (ee_add (ha := ee_var 4) (hb := ee_var 5)) (ea_nil))) (hb := ee_int)) (hb := ee_int))))) (ss_one (ss_app 3 (he := ee_non))) (ss_one (ss_app 3 (he := ee_sub (ha := ee_var 5) (hb := ee_ix (ha := ee_ix (ha := ee_var 0) (hb := ee_int)) (hb := ee_var 4)))))))))) (ss_one (ss_rel 3 (ss_rel 2 (ss_ret (en_ee (en_lst (ea_cons (ee_ix (ha := ee_var 0) (hb := ee_int)) (ea_cons (ee_var 1) (ea_cons (ee_var 2) (ea_cons (ee_var 3) (ea_cons (ee_ix (ha := ee_var 0) (hb := ee_int)) (ea_nil))))))))))))))))⟩
end LW
end

section
set_option maxHeartbeats 4000000
namespace LW
open PySem L2 EV
theorem sc_law_either : FnScope ["_law_script", "_law_at", "_law_flag", "_law_world_here"] ["_law_script", "_law_at", "_law_flag"] (defScope st_law_either) := ⟨rfl, rfl, rfl, by decide +kernel, rfl, by decide +kernel, by decide +kernel⟩
def g_law_either : FS := gSeq (gSet 3 (vCallP 3 0 [0, 1, 2] sem_law_drawn [] (aCons (vVar 0) (aCons (vVar 1) (aCons (vC (.int 7)) (aNil)))) (aNil))) (gSeq (gIf (v2 eqD (v2 modD (vCall intD (aCons (vVar 2) (aNil))) (vC (.int 2))) (vC (.int 1))) (gRet (vCallP 1 0 [0] sem_law_mirrored [] (aCons (vVar 3) (aNil)) (aNil))) (gNext)) (gRet (vVar 3)))
def sem_law_either : List D → Option R := semF 4 g_law_either
theorem ok_law_either {P : Program} {w : World} {K : PySem.W.Frag} {mg : Str → Option Value} {base : Heap} (hy : Hyp K mg) : ∃ fd, FunD K d_law_either.name d_law_either.qual d_law_either.params d_law_either.body d_law_either.scope (d_law_either.dvs K) (d_law_either.kws K) (He.fAd K d_law_either.at_) fd ∧ FnOk P w K mg base (L2N.CX P w) 4 (He.fAd K d_law_either.at_) fd ["_law_script", "_law_at", "_law_flag"] (spF (tab K) 3 (sem_law_either)) := by
  obtain ⟨fd_law_drawn, F_law_drawn, G_law_drawn⟩ := ok_law_drawn (P := P) (w := w) (base := base) hy
  obtain ⟨fd_law_mirrored, F_law_mirrored, G_law_mirrored⟩ := ok_law_mirrored (P := P) (w := w) (base := base) hy
  have ab_law_drawn_3_ : ArgB K fd_law_drawn ["_law_script", "_law_at", "_law_upto"] 3 [] [] [0, 1, 2] := ArgB.given F_law_drawn (fun kV doc pm an cdv ct us ws l1 l2 => match us, l1, ws, l2 with | [_, _, _], _, [], _ => rfl)
  have ab_law_mirrored_1_ : ArgB K fd_law_mirrored ["_law_world_here"] 1 [] [] [0] := ArgB.given F_law_mirrored (fun kV doc pm an cdv ct us ws l1 l2 => match us, l1, ws, l2 with | [_], _, [], _ => rfl)
  obtain ⟨fd, F⟩ := hy.says.fn (37) (d := d_law_either) rfl
  exact ⟨fd, F, fn_ev F sc_law_either fun cdv A outer s H E hr => (ss_cons (ss_set 3 (hN := sc_law_either.nd) (he := ee_callP (F := G_law_drawn) (hr := hr.mono (by decide)) (hm := glo__law_drawn hy) (hk := F_law_drawn.kp) (hb := ab_law_drawn_3_) (tk := (L2N.takes_of rfl rfl rfl rfl)) (hp := rfl) (hmx := by decide) (hdd := fun _ => .nil) (ha := ea_cons (ee_var 0) (ea_cons (ee_var 1) (ea_cons (ee_int) (ea_nil)))) (hkw := ek_nil))) (ss_cons (ss_if (eb_eq (hr := hr) (ha := ee_mod (ha := ee_callT (hc := call_int1) (h := o_int) (hm := (free_int hy)) (hv := by decide +kernel) (ha := ea_cons (ee_var 2) (ea_nil))) (hb := ee_int)) (hb := ee_int)) (ss_one (ss_ret (ee_callP (F := G_law_mirrored) (hr := hr.mono (by decide)) (hm := glo__law_mirrored hy) (hk := F_law_mirrored.kp) (hb := ab_law_mirrored_1_) (tk := (L2N.takes_of rfl rfl rfl rfl)) (hp := rfl) (hmx := by decide) (hdd := fun _ => .nil) (ha := ea_cons (ee_var 3) (ea_nil)) (hkw := ek_nil)))) (ss_nil)) (ss_one (ss_ret (ee_var 3)))))⟩
end LW
end

section
set_option maxHeartbeats 4000000
namespace LW
open PySem L2 EV
theorem sc_law_settings : FnScope ["_law_many", "_law_grown", "_law_k", "_law_longer", "_law_state"] ["_law_many"] (defScope st_law_settings) := ⟨rfl, rfl, rfl, by decide +kernel, rfl, by decide +kernel, by decide +kernel⟩
def g_law_settings : FS := gSeq (gSet 1 (vL (lenOk (aCons (vTup (aNil)) (aNil))))) (gSeq (gFor (iRange1 (vVar 0)) (nmG 2) (gSeq (gOwn 3 (lenOk (aNil))) (gSeq (gFor (iSeq (vVar 1)) (nmG 4) (gSeq (gAppO 3 (gApp 3 (v2 addD (vVar 4) (vTup (aCons (vC (.int 0)) (aNil)))))) (gAppO 3 (gApp 3 (v2 addD (vVar 4) (vTup (aCons (vC (.int 1)) (aNil)))))))) (gThenRel 1 (gOwnA 1 (nCall listD (aCons (vVar 3) (aNil)))))))) (gRet (vVar 1)))
def sem_law_settings : List D → Option R := semF 5 g_law_settings
theorem ok_law_settings {P : Program} {w : World} {K : PySem.W.Frag} {mg : Str → Option Value} {base : Heap} (hy : Hyp K mg) : ∃ fd, FunD K d_law_settings.name d_law_settings.qual d_law_settings.params d_law_settings.body d_law_settings.scope (d_law_settings.dvs K) (d_law_settings.kws K) (He.fAd K d_law_settings.at_) fd ∧ FnOk P w K mg base (L2N.CX P w) 1 (He.fAd K d_law_settings.at_) fd ["_law_many"] (spF (tab K) 1 (sem_law_settings)) := by
  obtain ⟨fd, F⟩ := hy.says.fn (38) (d := d_law_settings) rfl
  exact ⟨fd, F, fn_ev F sc_law_settings fun cdv A outer s H E hr => (ss_cons (ss_set 1 (hN := sc_law_settings.nd) (he := en_ee (en_lst (ea_cons (ee_tup (ea_nil)) (ea_nil))))) (ss_cons (ss_for (hp := (passes_of rfl)) (hc := rfl) (hi := ei_range1 (hm := (free_range hy)) (ha := ee_var 0)) (hg := eg_name 2 sc_law_settings.nd) (hb := ss_cons (ss_own 3 (hN := sc_law_settings.nd) (he := en_lst (ea_nil))) (ss_cons (ss_for (hp := (passes_of rfl)) (hc := rfl) (hi := ei_seq (he := ee_var 1)) (hg := eg_name 4 sc_law_settings.nd) (hb := ss_cons (ss_app 3 (he := ee_add (ha := ee_var 4) (hb := ee_tup (ea_cons (ee_int) (ea_nil))))) (ss_one (ss_app 3 (he := ee_add (ha := ee_var 4) (hb := ee_tup (ea_cons (ee_int) (ea_nil)))))))) (ss_one (ss_thenRel 1 (ss_ownA 1 (hN := sc_law_settings.nd) (he := en_callT (hc := call_list_of) (h := (o_list rfl)) (hm := (free_list hy)) (hv := by decide +kernel) (ha := ea_cons (ee_var 3) (ea_nil))))))))) (ss_one (ss_ret (ee_var 1)))))⟩
end LW
end

section
set_option maxHeartbeats 4000000
namespace LW
open PySem L2 EV
theorem sc_law_running : FnScope ["_law_world_here", "_law_state"] ["_law_world_here"] (defScope st_law_running) := ⟨rfl, rfl, rfl, by decide +kernel, rfl, by decide +kernel, by decide +kernel⟩
def g_law_running : FS := gRet (vL (nLc (iSeq (vCallP 1 0 [0] sem_law_settings [] (aCons (vCall lenD (aCons (v2 ixD (vVar 0) (vC (.int 1))) (aNil))) (aNil)) (aNil))) (nmG 1) (vCallP 2 0 [0, 1] sem_law_runs [] (aCons (vVar 0) (aCons (vVar 1) (aNil))) (aNil)) (vVar 1) [1]))
def sem_law_running : List D → Option R := semF 2 g_law_running
theorem ok_law_running {P : Program} {w : World} {K : PySem.W.Frag} {mg : Str → Option Value} {base : Heap} (hy : Hyp K mg) : ∃ fd, FunD K d_law_running.name d_law_running.qual d_law_running.params d_law_running.body d_law_running.scope (d_law_running.dvs K) (d_law_running.kws K) (He.fAd K d_law_running.at_) fd ∧ FnOk P w K mg base (L2N.CX P w) 3 (He.fAd K d_law_running.at_) fd ["_law_world_here"] (spF (tab K) 1 (sem_law_running)) := by
  obtain ⟨fd_law_settings, F_law_settings, G_law_settings⟩ := ok_law_settings (P := P) (w := w) (base := base) hy
  obtain ⟨fd_law_runs, F_law_runs, G_law_runs⟩ := ok_law_runs (P := P) (w := w) (base := base) hy
  have ab_law_settings_1_ : ArgB K fd_law_settings ["_law_many"] 1 [] [] [0] := ArgB.given F_law_settings (fun kV doc pm an cdv ct us ws l1 l2 => match us, l1, ws, l2 with | [_], _, [], _ => rfl)
  have ab_law_runs_2_ : ArgB K fd_law_runs ["_law_world_here", "_law_state"] 2 [] [] [0, 1] := ArgB.given F_law_runs (fun kV doc pm an cdv ct us ws l1 l2 => match us, l1, ws, l2 with | [_, _], _, [], _ => rfl)
  obtain ⟨fd, F⟩ := hy.says.fn (39) (d := d_law_running) rfl
  exact ⟨fd, F, fn_ev F sc_law_running fun cdv A outer s H E hr => (ss_one (ss_ret (en_ee (en_lc (own := [("_law_state", 1)]) (hc := rfl) (hN := sc_law_running.nd) (ok := blkOk_by (show blkC ["_law_world_here", "_law_state"] (defScope st_law_running) _ [("_law_state", 1)] = true by decide +kernel)) (hsub := by decide) (hi := ei_seq (he := ee_callP (F := G_law_settings) (hr := hr.mono (by decide)) (hm := glo__law_settings hy) (hk := F_law_settings.kp) (hb := ab_law_settings_1_) (tk := (L2N.takes_of rfl rfl rfl rfl)) (hp := rfl) (hmx := by decide) (hdd := fun _ => .nil) (ha := ea_cons (ee_callB (hc := call_len_seq) (h := (o_len rfl)) (hm := (free_len hy)) (hv := by decide +kernel) (ha := ea_cons (ee_ix (ha := ee_var 0) (hb := ee_int)) (ea_nil))) (ea_nil)) (hkw := ek_nil))) (hg := fun _ _ _ _ _ => eg_name 1 sc_law_running.nd) (ht := fun _ _ _ _ _ => et_one (eb_val (ee_callP (F := G_law_runs) (hr := hr.mono (by decide)) (hm := glo__law_runs hy) (hk := F_law_runs.kp) (hb := ab_law_runs_2_) (tk := takesN) (hp := rfl) (hmx := by decide) (hdd := fun _ => .nil) (ha := ea_cons (ee_var 0) (ea_cons (ee_var 1) (ea_nil))) (hkw := ek_nil)))) (he := fun _ _ _ _ _ => ee_var 1)))))⟩
end LW
end

section
set_option maxHeartbeats 4000000
namespace LW
open PySem L2 EV
theorem sc_law_lively : FnScope ["_law_world_here", "_law_ready", "_law_at", "_law_step", "_law_state", "_law_k"] ["_law_world_here", "_law_ready", "_law_at"] (defScope st_law_lively) := ⟨rfl, rfl, rfl, by decide +kernel, rfl, by decide +kernel, by decide +kernel⟩
def g_law_lively : FS := gSeq (gFor (iRange1 (vCall lenD (aCons (vVar 1) (aNil)))) (nmG 3) (gSeq (gSet 4 (v2 ixD (vVar 1) (v2 modD (vCall intD (aCons (v2 addD (vCall intD (aCons (vVar 2) (aNil))) (vVar 3)) (aNil))) (vCall lenD (aCons (vVar 1) (aNil)))))) (gIf (v2 gtD (vCall lenD (aCons (vL (nLc (iRange1 (vCall lenD (aCons (vVar 4) (aNil)))) (nmG 5) (vCallP 2 0 [0, 1] sem_law_runs [] (aCons (vVar 0) (aCons (vCallP 2 0 [0, 1] sem_law_turn [] (aCons (vVar 4) (aCons (vVar 5) (aNil))) (aNil)) (aNil))) (aNil)) (vVar 5) [5])) (aNil))) (vC (.int 0))) (gRet (vVar 4)) (gNext)))) (gRet (v2 ixD (vVar 1) (v2 modD (vCall intD (aCons (vVar 2) (aNil))) (vCall lenD (aCons (vVar 1) (aNil))))))
def sem_law_lively : List D → Option R := semF 6 g_law_lively
theorem ok_law_lively {P : Program} {w : World} {K : PySem.W.Frag} {mg : Str → Option Value} {base : Heap} (hy : Hyp K mg) : ∃ fd, FunD K d_law_lively.name d_law_lively.qual d_law_lively.params d_law_lively.body d_law_lively.scope (d_law_lively.dvs K) (d_law_lively.kws K) (He.fAd K d_law_lively.at_) fd ∧ FnOk P w K mg base (L2N.CX P w) 3 (He.fAd K d_law_lively.at_) fd ["_law_world_here", "_law_ready", "_law_at"] (spF (tab K) 3 (sem_law_lively)) := by
  obtain ⟨fd_law_runs, F_law_runs, G_law_runs⟩ := ok_law_runs (P := P) (w := w) (base := base) hy
  obtain ⟨fd_law_turn, F_law_turn, G_law_turn⟩ := ok_law_turn (P := P) (w := w) (base := base) hy
  have ab_law_runs_2_ : ArgB K fd_law_runs ["_law_world_here", "_law_state"] 2 [] [] [0, 1] := ArgB.given F_law_runs (fun kV doc pm an cdv ct us ws l1 l2 => match us, l1, ws, l2 with | [_, _], _, [], _ => rfl)
  have ab_law_turn_2_ : ArgB K fd_law_turn ["_law_state", "_law_sluice"] 2 [] [] [0, 1] := ArgB.given F_law_turn (fun kV doc pm an cdv ct us ws l1 l2 => match us, l1, ws, l2 with | [_, _], _, [], _ => rfl)
  obtain ⟨fd, F⟩ := hy.says.fn (40) (d := d_law_lively) rfl
  exact ⟨fd, F, fn_ev F sc_law_lively fun cdv A outer s H E hr => (ss_cons (ss_for (hp := (passes_of rfl)) (hc := rfl) (hi := ei_range1 (hm := (free_range hy)) (ha := ee_callB (hc := call_len_seq) (h := (o_len rfl)) (hm := (free_len hy)) (hv := by decide +kernel) (ha := ea_cons (ee_var 1) (ea_nil)))) (hg := eg_name 3 sc_law_lively.nd) (hb := ss_cons (ss_set 4 (hN := sc_law_lively.nd) (he := ee_ix (ha := ee_var 1) (hb := ee_mod (ha := ee_callT (hc := call_int1) (h := o_int) (hm := (free_int hy)) (hv := by decide +kernel) (ha := ea_cons (ee_add (ha := ee_callT (hc := call_int1) (h := o_int) (hm := (free_int hy)) (hv := by decide +kernel) (ha := ea_cons (ee_var 2) (ea_nil))) (hb := ee_var 3)) (ea_nil))) (hb := ee_callB (hc := call_len_seq) (h := (o_len rfl)) (hm := (free_len hy)) (hv := by decide +kernel) (ha := ea_cons (ee_var 1) (ea_nil)))))) (ss_one (ss_if (eb_gt (ha := ee_callB (hc := call_len_seq) (h := (o_len rfl)) (hm := (free_len hy)) (hv := by decide +kernel) (ha := ea_cons (en_ee (en_lc (own := [("_law_k", 5)]) (hc := rfl) (hN := sc_law_lively.nd) (ok := blkOk_by (show blkC ["_law_world_here", "_law_ready", "_law_at", "_law_step", "_law_state", "_law_k"] (defScope st_law_lively) _ [("_law_k", 5)] = true by decide +kernel)) (hsub := by decide) (hi := ei_range1 (hm := (free_range hy)) (ha := ee_callB (hc := call_len_seq) (h := (o_len rfl)) (hm := (free_len hy)) (hv := by decide +kernel) (ha := ea_cons (ee_var 4) (ea_nil)))) (hg := fun _ _ _ _ _ => eg_name 5 sc_law_lively.nd) (ht := fun _ _ _ _ _ => et_one (eb_val (ee_callP (F := G_law_runs) (hr := hr.mono (by decide)) (hm := glo__law_runs hy) (hk := F_law_runs.kp) (hb := ab_law_runs_2_) (tk := takesN) (hp := rfl) (hmx := by decide) (hdd := fun _ => .nil) (ha := ea_cons (ee_var 0) (ea_cons (ee_callP (F := G_law_turn) (hr := hr.mono (by decide)) (hm := glo__law_turn hy) (hk := F_law_turn.kp) (hb := ab_law_turn_2_) (tk := takesN) (hp := rfl) (hmx := by decide) (hdd := fun _ => .nil) (ha := ea_cons (ee_var 4) (ea_cons (ee_var 5) (ea_nil))) (hkw := ek_nil)) (ea_nil))) (hkw := ek_nil)))) (he := fun _ _ _ _ _ => ee_var 5))) (ea_nil))) (hb := ee_int)) (ss_one (ss_ret (ee_var 4))) (ss_nil))))) (ss_one (ss_ret (ee_ix (ha := ee_var 1) (hb := ee_mod (ha := ee_callT (hc := call_int1) (h := o_int) (hm := (free_int hy)) (hv := by decide +kernel) (ha := ea_cons (ee_var 2) (ea_nil))) (hb := ee_callB (hc := call_len_seq) (h := (o_len rfl)) (hm := (free_len hy)) (hv := by decide +kernel) (ha := ea_cons (ee_var 1) (ea_nil))))))))⟩
end LW
end

section
set_option maxHeartbeats 4000000
namespace LW
open PySem L2 EV
theorem sc_law_barred : FnScope ["_law_world_here", "_law_at", "_law_low", "_law_high", "_law_let", "_law_mill"] ["_law_world_here", "_law_at"] (defScope st_law_barred) := ⟨rfl, rfl, rfl, by decide +kernel, rfl, by decide +kernel, by decide +kernel⟩
def g_law_barred : FS := gSeq (gOwn 2 (nCall listD (aCons (v2 ixD (vVar 0) (vC (.int 2))) (aNil)))) (gSeq (gOwn 3 (nCall listD (aCons (v2 ixD (vVar 0) (vC (.int 3))) (aNil)))) (gSeq (gOwn 4 (nCall listD (aCons (v2 ixD (vVar 0) (vC (.int 4))) (aNil)))) (gSeq (gSet 5 (v2 modD (vCall intD (aCons (vVar 1) (aNil))) (v2 ixD (vVar 0) (vC (.int 0))))) (gSeq (gIf (v2 eqD (v2 modD (vCall intD (aCons (v2 fdivD (vCall intD (aCons (vVar 1) (aNil))) (vC (.int 24))) (aNil))) (vC (.int 3))) (vC (.int 0))) (gSetIxA 2 (vVar 5) (v2 addD (v2 ixD (vVar 2) (vVar 5)) (v2 powD (vC (.int 10)) (vC (.int 20))))) (gNext)) (gSeq (gIf (v2 eqD (v2 modD (vCall intD (aCons (v2 fdivD (vCall intD (aCons (vVar 1) (aNil))) (vC (.int 24))) (aNil))) (vC (.int 3))) (vC (.int 1))) (gSeq (gSetIxA 2 (vVar 5) (v2 addD (v2 ixD (vVar 2) (vVar 5)) (vC (.int 1)))) (gRel 2 (gSetIx 3 (vVar 5) (v2 subD (v2 ixD (vVar 2) (vVar 5)) (vC (.int 1)))))) (gNext)) (gSeq (gIfA (vAnd (v2 eqD (v2 modD (vCall intD (aCons (v2 fdivD (vCall intD (aCons (vVar 1) (aNil))) (vC (.int 24))) (aNil))) (vC (.int 3))) (vC (.int 2))) (v2 gtD (vCall lenD (aCons (vVar 4) (aNil))) (vC (.int 0)))) (gSetIx 4 (v2 modD (vCall intD (aCons (v2 fdivD (vCall intD (aCons (vVar 1) (aNil))) (vC (.int 72))) (aNil))) (vCall lenD (aCons (vVar 4) (aNil)))) (vTup (aNil))) (gNext)) (gRel 4 (gRel 3 (gRel 2 (gRet (vL (lenOk (aCons (v2 ixD (vVar 0) (vC (.int 0))) (aCons (v2 ixD (vVar 0) (vC (.int 1))) (aCons (vVar 2) (aCons (vVar 3) (aCons (vVar 4) (aNil))))))))))))))))))
def sem_law_barred : List D → Option R := semF 6 g_law_barred
theorem ok_law_barred {P : Program} {w : World} {K : PySem.W.Frag} {mg : Str → Option Value} {base : Heap} (hy : Hyp K mg) : ∃ fd, FunD K d_law_barred.name d_law_barred.qual d_law_barred.params d_law_barred.body d_law_barred.scope (d_law_barred.dvs K) (d_law_barred.kws K) (He.fAd K d_law_barred.at_) fd ∧ FnOk P w K mg base (L2N.CX P w) 1 (He.fAd K d_law_barred.at_) fd ["_law_world_here", "_law_at"] (spF (tab K) 2 (sem_law_barred)) := by
  obtain ⟨fd, F⟩ := hy.says.fn (41) (d := d_law_barred) rfl
  exact ⟨fd, F, fn_ev F sc_law_barred fun cdv A outer s H E hr => (ss_cons (ss_own 2 (hN := sc_law_barred.nd) (he := en_callT (hc := call_list_of) (h := (o_list rfl)) (hm := (free_list hy)) (hv := by decide +kernel) (ha := ea_cons (ee_ix (ha := ee_var 0) (hb := ee_int)) (ea_nil)))) (ss_cons (ss_own 3 (hN := sc_law_barred.nd) (he := en_callT (hc := call_list_of) (h := (o_list rfl)) (hm := (free_list hy)) (hv := by decide +kernel) (ha := ea_cons (ee_ix (ha := ee_var 0) (hb := ee_int)) (ea_nil)))) (ss_cons (ss_own 4 (hN := sc_law_barred.nd) (he := en_callT (hc := call_list_of) (h := (o_list rfl)) (hm := (free_list hy)) (hv := by decide +kernel) (ha := ea_cons (ee_ix (ha := ee_var 0) (hb := ee_int)) (ea_nil)))) (ss_cons (ss_set 5 (hN := sc_law_barred.nd) (he := ee_mod (ha := ee_callT (hc := call_int1) (h := o_int) (hm := (free_int hy)) (hv := by decide +kernel) (ha := ea_cons (ee_var 1) (ea_nil))) (hb := ee_ix (ha := ee_var 0) (hb := ee_int)))) (ss_cons (ss_if (eb_eq (hr := hr) (ha := ee_mod (ha := ee_callT (hc := call_int1) (h := o_int) (hm := (free_int hy)) (hv := by decide +kernel) (ha := ea_cons (ee_fdiv (ha := ee_callT (hc := call_int1) (h := o_int) (hm := (free_int hy)) (hv := by decide +kernel) (ha := ea_cons (ee_var 1) (ea_nil))) (hb := ee_int)) (ea_nil))) (hb := ee_int)) (hb := ee_int)) (ss_one (ss_setIxA 2 (hg := fun h => pg_sub (pv 2) h set_list) (hk := ee_var 5) (he := ee_add (ha := ee_ix (ha := ee_var 2) (hb := ee_var 5)) (hb := ee_pow (ha := ee_int) (hb := ee_int))))) (ss_nil)) (ss_cons (ss_if (eb_eq (hr := hr) (ha := ee_mod (ha := ee_callT (hc := call_int1) (h := o_int) (hm := (free_int hy)) (hv := by decide +kernel) (ha := ea_cons (ee_fdiv (ha := ee_callT (hc := call_int1) (h := o_int) (hm := (free_int hy)) (hv := by decide +kernel) (ha := ea_cons (ee_var 1) (ea_nil))) (hb := ee_int)) (ea_nil))) (hb := ee_int)) (hb := ee_int)) (ss_cons (ss_setIxA 2 (hg := fun h => pg_sub (pv 2) h set_list) (hk := ee_var 5) (he := ee_add (ha := ee_ix (ha := ee_var 2) (hb := ee_var 5)) (hb := ee_int))) (ss_one (ss_rel 2 (ss_setIx 3 (hg := fun h => pg_sub (pv 3) h set_list) (hk := ee_var 5) (he := ee_sub (ha := ee_ix (ha := ee_var 2) (hb := ee_var 5)) (hb := ee_int)))))) (ss_nil)) (ss_cons (ss_ifA (eb_w (ew_and (eb_eq (hr := hr) (ha := ee_mod (ha := ee_callT (hc := call_int1) (h := o_int) (hm := (free_int hy)) (hv := by decide +kernel) (ha := ea_cons (ee_fdiv (ha := ee_callT (hc := call_int1) (h := o_int) (hm := (free_int hy)) (hv := by decide +kernel) (ha := ea_cons (ee_var 1) (ea_nil))) (hb := ee_int)) (ea_nil))) (hb := ee_int)) (hb := ee_int)) (ew_and1 (eb_gt (ha := ee_callB (hc := call_len_seq) (h := (o_len rfl)) (hm := (free_len hy)) (hv := by decide +kernel) (ha := ea_cons (ee_var 4) (ea_nil))) (hb := ee_int))))) (ss_one (ss_setIx 4 (hg := fun h => pg_sub (pv 4) h set_list) (hk := ee_mod (ha := ee_callT (hc := call_int1) (h := o_int) (hm := (free_int hy)) (hv := by decide +kernel) (ha := ea_cons (ee_fdiv (ha := ee_callT (hc := call_int1) (h := o_int) (hm := (free_int hy)) (hv := by decide +kernel) (ha := ea_cons (ee_var 1) (ea_nil))) (hb := ee_int)) (ea_nil))) (hb := ee_callB (hc := call_len_seq) (h := (o_len rfl)) (hm := (free_len hy)) (hv := by decide +kernel) (ha := ea_cons (ee_var 4) (ea_nil)))) (he := ee_tup (ea_nil)))) (ss_nil)) (ss_one (ss_rel 4 (ss_rel 3 (ss_rel 2 (ss_ret (en_ee (en_lst (ea_cons (ee_ix (ha := ee_var 0) (hb := ee_int)) (ea_cons (ee_ix (ha := ee_var 0) (hb := ee_int)) (ea_cons (ee_var 2) (ea_cons (ee_var 3) (ea_cons (ee_var 4) (ea_nil))))))))))))))))))))⟩
end LW
end

section
set_option maxHeartbeats 4000000
namespace LW
open PySem L2 EV
theorem sc_law_loosened : FnScope ["_law_world_here", "_law_low", "_law_high", "_law_limit", "_law_need"] ["_law_world_here"] (defScope st_law_loosened) := ⟨rfl, rfl, rfl, by decide +kernel, rfl, by decide +kernel, by decide +kernel⟩
def g_law_loosened : FS := gSeq (gSet 1 (vL (nLc (iSeq (v2 ixD (vVar 0) (vC (.int 2)))) (nmG 4) (vYes) (vCall maxD (aCons (vC (.int 0)) (aCons (v2 subD (vVar 4) (vC (.int 1))) (aNil)))) [4]))) (gSeq (gOwn 2 (lenOk (aNil))) (gSeq (gFor (iSeq (v2 ixD (vVar 0) (vC (.int 3)))) (nmG 3) (gIf (v2 isNonD (vVar 3) (vC .non)) (gAppO 2 (gApp 2 (vC .non))) (gAppO 2 (gApp 2 (v2 addD (vVar 3) (vC (.int 1))))))) (gRel 2 (gRet (vL (lenOk (aCons (v2 ixD (vVar 0) (vC (.int 0))) (aCons (v2 ixD (vVar 0) (vC (.int 1))) (aCons (vVar 1) (aCons (vVar 2) (aCons (v2 ixD (vVar 0) (vC (.int 4))) (aNil))))))))))))
def sem_law_loosened : List D → Option R := semF 5 g_law_loosened
theorem ok_law_loosened {P : Program} {w : World} {K : PySem.W.Frag} {mg : Str → Option Value} {base : Heap} (hy : Hyp K mg) : ∃ fd, FunD K d_law_loosened.name d_law_loosened.qual d_law_loosened.params d_law_loosened.body d_law_loosened.scope (d_law_loosened.dvs K) (d_law_loosened.kws K) (He.fAd K d_law_loosened.at_) fd ∧ FnOk P w K mg base (L2N.CX P w) 1 (He.fAd K d_law_loosened.at_) fd ["_law_world_here"] (spF (tab K) 1 (sem_law_loosened)) := by
  obtain ⟨fd, F⟩ := hy.says.fn (42) (d := d_law_loosened) rfl
  exact ⟨fd, F, fn_ev F sc_law_loosened fun cdv A outer s H E hr => (ss_cons (ss_lc_v (ps_lcs (i := 1) (hy := rfl) (hyl := rfl) (hsw := sw_true rfl rfl rfl (by decide +kernel)) (own := [("_law_need", 4)]) (hc := rfl) (hN := sc_law_loosened.nd) (ok := blkOk_by (show blkC ["_law_world_here", "_law_low", "_law_high", "_law_limit", "_law_need"] (defScope st_law_loosened) _ [("_law_need", 4)] = true by decide +kernel)) (hi := ei_seq (he := ee_ix (ha := ee_var 0) (hb := ee_int))) (hg := fun _ _ _ _ _ => eg_name 4 sc_law_loosened.nd) (ht := fun _ _ _ _ _ => et_nil) (he := fun _ _ _ _ _ => ee_callB (hc := (call_max2 rfl)) (h := o_max) (hm := (free_max hy)) (hv := by decide +kernel) (ha := ea_cons (ee_int) (ea_cons (ee_sub (ha := ee_var 4) (hb := ee_int)) (ea_nil))))) (w_lc (by decide))) (ss_cons (ss_own 2 (hN := sc_law_loosened.nd) (he := en_lst (ea_nil))) (ss_cons (ss_for (hp := (passes_of rfl)) (hc := rfl) (hi := ei_seq (he := ee_ix (ha := ee_var 0) (hb := ee_int))) (hg := eg_name 3 sc_law_loosened.nd) (hb := ss_one (ss_if (eb_isN (ha := ee_var 3) (hb := ee_non)) (ss_one (ss_app 2 (he := ee_non))) (ss_one (ss_app 2 (he := ee_add (ha := ee_var 3) (hb := ee_int))))))) (ss_one (ss_rel 2 (ss_ret (en_ee (en_lst (ea_cons (ee_ix (ha := ee_var 0) (hb := ee_int)) (ea_cons (ee_ix (ha := ee_var 0) (hb := ee_int)) (ea_cons (ee_var 1) (ea_cons (ee_var 2) (ea_cons (ee_ix (ha := ee_var 0) (hb := ee_int)) (ea_nil))))))))))))))⟩
end LW
end

section
set_option maxHeartbeats 4000000
namespace LW
open PySem L2 EV
theorem sc_law_sibling : FnScope ["_law_rule", "_law_world_here"] ["_law_rule", "_law_world_here"] (defScope st_law_sibling) := ⟨rfl, rfl, rfl, by decide +kernel, rfl, by decide +kernel, by decide +kernel⟩
def g_law_sibling : FS := gRet (vCallP 1 3 [0, 1, 2, 3] sem_Season__init [] (aCons (v1 (fldD 6 0) (vVar 0)) (aNil)) (aCons (vL (nCall listD (aCons (v2 ixD (vVar 1) (vC (.int 2))) (aNil)))) (aCons (vL (nCall listD (aCons (v2 ixD (vVar 1) (vC (.int 3))) (aNil)))) (aCons (vL (nCall listD (aCons (v2 ixD (vVar 1) (vC (.int 4))) (aNil)))) (aNil)))))
def sem_law_sibling : List D → Option R := semF 2 g_law_sibling
theorem ok_law_sibling {P : Program} {w : World} {K : PySem.W.Frag} {mg : Str → Option Value} {base : Heap} (hy : Hyp K mg) : ∃ fd, FunD K d_law_sibling.name d_law_sibling.qual d_law_sibling.params d_law_sibling.body d_law_sibling.scope (d_law_sibling.dvs K) (d_law_sibling.kws K) (He.fAd K d_law_sibling.at_) fd ∧ FnOk P w K mg base (L2N.CX P w) 6 (He.fAd K d_law_sibling.at_) fd ["_law_rule", "_law_world_here"] (spF (tab K) 2 (sem_law_sibling)) := by
  obtain ⟨fd_Season__init, F_Season__init, G_Season__init⟩ := ok_Season__init (P := P) (w := w) (base := base) hy
  have ab_Season__init_1_needs_limits_sides : ArgB K fd_Season__init ["self", "valley", "needs", "limits", "sides"] 2 ["needs", "limits", "sides"] [] [0, 1, 2, 3, 4] := ArgB.given F_Season__init (fun kV doc pm an cdv ct us ws l1 l2 => match us, l1, ws, l2 with | [_, _], _, [_, _, _], _ => rfl)
  obtain ⟨fd, F⟩ := hy.says.fn (43) (d := d_law_sibling) rfl
  exact ⟨fd, F, fn_ev F sc_law_sibling fun cdv A outer s H E hr => (ss_one (ss_ret (ee_makeP (hs := semI_obj) (M := mk_Season hy) (F := G_Season__init) (hr := hr.mono (by decide)) (hm := glo_Season hy) (hb := ab_Season__init_1_needs_limits_sides) (tk := (L2N.takes_of rfl rfl rfl rfl)) (hp := rfl) (hmx := by decide) (hdd := fun _ => .nil) (ha := ea_cons (ee_fld (F := fld_Season_valley hy) (ha := ee_var 0)) (ea_nil)) (hkw := ek_cons (en_ee (en_callT (hc := call_list_of) (h := (o_list rfl)) (hm := (free_list hy)) (hv := by decide +kernel) (ha := ea_cons (ee_ix (ha := ee_var 1) (hb := ee_int)) (ea_nil)))) (ek_cons (en_ee (en_callT (hc := call_list_of) (h := (o_list rfl)) (hm := (free_list hy)) (hv := by decide +kernel) (ha := ea_cons (ee_ix (ha := ee_var 1) (hb := ee_int)) (ea_nil)))) (ek_cons (en_ee (en_callT (hc := call_list_of) (h := (o_list rfl)) (hm := (free_list hy)) (hv := by decide +kernel) (ha := ea_cons (ee_ix (ha := ee_var 1) (hb := ee_int)) (ea_nil)))) (ek_nil)))))))⟩
end LW
end

section
set_option maxHeartbeats 4000000
namespace LW
open PySem L2 EV
theorem sc_law : FnScope ["_law_script", "_law_draws", "_law_far_here", "_law_world_here", "_law_start", "_law_other", "_law_k", "_law_ready", "_law_every", "_law_rule", "_law_digits_here", "_law_row", "_law_more", "_law_bare", "_law_digit"] ["_law_script"] (defScope st_law) := ⟨rfl, rfl, rfl, by decide +kernel, rfl, by decide +kernel, by decide +kernel⟩
def g_law : FS := gSeq (gSet 1 (vCallP 2 0 [0, 1] sem_law_digits [] (aCons (vCallP 2 0 [0, 1] sem_law_cell [] (aCons (vVar 0) (aCons (vC (.int 2)) (aNil))) (aNil)) (aCons (vL (lenOk (aCons (vC (.int 5)) (aCons (vC (.int 41)) (aCons (vC (.int 41)) (aCons (vC (.int 4)) (aCons (vC (.int 4)) (aCons (vC (.int 8)) (aCons (vC (.int 2)) (aCons (vC (.int 2)) (aCons (vC (.int 2)) (aCons (vC (.int 4)) (aCons (vC (.int 3456)) (aCons (vC (.int 32)) (aNil))))))))))))))) (aNil))) (aNil))) (gSeq (gIf (v2 eqD (v2 ixD (vVar 1) (vC (.int 0))) (vC (.int 4))) (gSeq (gSet 2 (vCallP 4 0 [0, 1, 2, 3] sem_law_far [] (aCons (vVar 0) (aCons (vC (.int 6)) (aCons (vC (.int 24)) (aCons (vC (.int 48)) (aNil))))) (aNil))) (gSeq (gSet 3 (v2 ixD (vVar 2) (vC (.int 0)))) (gSeq (gSet 4 (v2 ixD (vVar 2) (vC (.int 1)))) (gSeq (gSet 5 (vVar 4)) (gFor (iRange1 (vCall lenD (aCons (vVar 4) (aNil)))) (nmG 6) (gIf (v2 eqD (v2 modD (vCall intD (aCons (v2 fdivD (vCall intD (aCons (vCallP 2 0 [0, 1] sem_law_cell [] (aCons (vVar 0) (aCons (vC (.int 9)) (aNil))) (aNil)) (aNil))) (v2 addD (vVar 6) (vC (.int 1)))) (aNil))) (vC (.int 24))) (vC (.int 3))) (gSet 5 (vCallP 2 0 [0, 1] sem_law_turn [] (aCons (vVar 5) (aCons (vVar 6) (aNil))) (aNil))) (gNext))))))) (gSeq (gSet 3 (vCallP 3 0 [0, 1, 2] sem_law_either [] (aCons (vVar 0) (aCons (vC (.int 0)) (aCons (v2 ixD (vVar 1) (vC (.int 6))) (aNil)))) (aNil))) (gSeq (gIf (v2 eqD (v2 ixD (vVar 1) (vC (.int 8))) (vC (.int 1))) (gSet 3 (vCallP 1 0 [0] sem_law_loosened [] (aCons (vVar 3) (aNil)) (aNil))) (gNext)) (gSeq (gSet 7 (vCallP 1 0 [0] sem_law_running [] (aCons (vVar 3) (aNil)) (aNil))) (gSeq (gSet 8 (vCallP 1 0 [0] sem_law_settings [] (aCons (vCall lenD (aCons (v2 ixD (vVar 3) (vC (.int 1))) (aNil))) (aNil)) (aNil))) (gSeq (gIf (v2 eqD (v2 ixD (vVar 1) (vC (.int 7))) (vC (.int 0))) (gSet 8 (vVar 7)) (gNext)) (gSeq (gSet 4 (vCallP 3 0 [0, 1, 2] sem_law_lively [] (aCons (vVar 3) (aCons (vVar 7) (aCons (vCallP 2 0 [0, 1] sem_law_cell [] (aCons (vVar 0) (aCons (vC (.int 3)) (aNil))) (aNil)) (aNil)))) (aNil))) (gSet 5 (v2 ixD (vVar 8) (v2 modD (vCall intD (aCons (vCallP 2 0 [0, 1] sem_law_cell [] (aCons (vVar 0) (aCons (vC (.int 4)) (aNil))) (aNil)) (aNil))) (vCall lenD (aCons (vVar 8) (aNil))))))))))))) (gSeq (gSet 9 (vCallP 1 0 [0] sem_law_season [] (aCons (vVar 3) (aNil)) (aNil))) (gSeq (gSet 10 (vCallP 2 0 [0, 1] sem_law_digits [] (aCons (vCallP 2 0 [0, 1] sem_law_cell [] (aCons (vVar 0) (aCons (vC (.int 5)) (aNil))) (aNil)) (aCons (vL (nRep (vL (lenOk (aCons (vC (.int 540)) (aNil)))) (v2 ixD (vVar 1) (vC (.int 1))))) (aNil))) (aNil))) (gSeq (gIf (v2 eqD (v2 ixD (vVar 1) (vC (.int 11))) (vC (.int 5))) (gSet 10 (vL (nLc (iSeq (vVar 10)) (nmG 14) (vYes) (v2 mulD (v2 fdivD (vVar 14) (vC (.int 9))) (vC (.int 9))) [14]))) (gNext)) (gSeq (gSet 11 (vCallP 3 0 [0, 1, 2] sem_law_drawn_turns [] (aCons (vVar 3) (aCons (vVar 4) (aCons (vVar 10) (aNil)))) (aNil))) (gSeq (gIf (v2 eqD (v2 ixD (vVar 1) (vC (.int 11))) (vC (.int 5))) (gSet 11 (vL (nAdd (vL (nRep (vL (nAdd (vVar 11) (vL (nRev (vVar 11))))) (v2 addD (vC (.int 1)) (v2 fdivD (vC (.int 600)) (vCall maxD (aCons (vC (.int 1)) (aCons (vCall lenD (aCons (vVar 11) (aNil))) (aNil)))))))) (vVar 11)))) (gNext)) (gSeq (gSet 12 (vCallP 3 0 [0, 1, 2] sem_law_drawn_turns [] (aCons (vVar 3) (aCons (vVar 5) (aCons (vCallP 2 0 [0, 1] sem_law_digits [] (aCons (vCallP 2 0 [0, 1] sem_law_cell [] (aCons (vVar 0) (aCons (vC (.int 10)) (aNil))) (aNil)) (aCons (vL (nRep (vL (lenOk (aCons (vC (.int 540)) (aNil)))) (v2 ixD (vVar 1) (vC (.int 2))))) (aNil))) (aNil)) (aNil)))) (aNil))) (gSeq (gIf (v2 eqD (v2 ixD (vVar 1) (vC (.int 5))) (vC (.int 3))) (gSet 12 (vL (lenOk (aNil)))) (gNext)) (gSeq (gIf (v1 notD (vCallP 5 0 [0, 1, 2, 3, 4] sem_law_asked [] (aCons (vVar 3) (aCons (vVar 9) (aCons (vVar 4) (aCons (vVar 11) (aCons (v2 ixD (vVar 1) (vC (.int 3))) (aNil)))))) (aNil))) (gRet (vC (.bl false))) (gNext)) (gSeq (gIf (v1 notD (vCallP 5 0 [0, 1, 2, 3, 4] sem_law_asked [] (aCons (vVar 3) (aCons (vVar 9) (aCons (vVar 5) (aCons (vVar 12) (aCons (v2 ixD (vVar 1) (vC (.int 4))) (aNil)))))) (aNil))) (gRet (vC (.bl false))) (gNext)) (gSeq (gIf (v2 eqD (v2 ixD (vVar 1) (vC (.int 9))) (vC (.int 3))) (gSeq (gSet 13 (vCallP 2 0 [0, 1] sem_law_barred [] (aCons (vVar 3) (aCons (v2 ixD (vVar 1) (vC (.int 10))) (aNil))) (aNil))) (gIf (v1 notD (vCallP 5 0 [0, 1, 2, 3, 4] sem_law_asked [] (aCons (vVar 13) (aCons (vCallP 2 0 [0, 1] sem_law_sibling [] (aCons (vVar 9) (aCons (vVar 13) (aNil))) (aNil)) (aCons (vVar 4) (aCons (vVar 11) (aCons (v2 ixD (vVar 1) (vC (.int 3))) (aNil)))))) (aNil))) (gRet (vC (.bl false))) (gNext))) (gNext)) (gRet (vCallP 5 0 [0, 1, 2, 3, 4] sem_law_asked [] (aCons (vVar 3) (aCons (vVar 9) (aCons (vVar 4) (aCons (vVar 11) (aCons (v2 ixD (vVar 1) (vC (.int 4))) (aNil)))))) (aNil))))))))))))))
def sem_law : List D → Option R := semF 15 g_law
theorem ok_law {P : Program} {w : World} {K : PySem.W.Frag} {mg : Str → Option Value} {base : Heap} (hy : Hyp K mg) : ∃ fd, FunD K d_law.name d_law.qual d_law.params d_law.body d_law.scope (d_law.dvs K) (d_law.kws K) (He.fAd K d_law.at_) fd ∧ FnOk P w K mg base (L2N.CX P w) 7 (He.fAd K d_law.at_) fd ["_law_script"] (spF (tab K) 1 (sem_law)) := by
  obtain ⟨fd_law_digits, F_law_digits, G_law_digits⟩ := ok_law_digits (P := P) (w := w) (base := base) hy
  obtain ⟨fd_law_cell, F_law_cell, G_law_cell⟩ := ok_law_cell (P := P) (w := w) (base := base) hy
  obtain ⟨fd_law_far, F_law_far, G_law_far⟩ := ok_law_far (P := P) (w := w) (base := base) hy
  obtain ⟨fd_law_turn, F_law_turn, G_law_turn⟩ := ok_law_turn (P := P) (w := w) (base := base) hy
  obtain ⟨fd_law_either, F_law_either, G_law_either⟩ := ok_law_either (P := P) (w := w) (base := base) hy
  obtain ⟨fd_law_loosened, F_law_loosened, G_law_loosened⟩ := ok_law_loosened (P := P) (w := w) (base := base) hy
  obtain ⟨fd_law_running, F_law_running, G_law_running⟩ := ok_law_running (P := P) (w := w) (base := base) hy
  obtain ⟨fd_law_settings, F_law_settings, G_law_settings⟩ := ok_law_settings (P := P) (w := w) (base := base) hy
  obtain ⟨fd_law_lively, F_law_lively, G_law_lively⟩ := ok_law_lively (P := P) (w := w) (base := base) hy
  obtain ⟨fd_law_season, F_law_season, G_law_season⟩ := ok_law_season (P := P) (w := w) (base := base) hy
  obtain ⟨fd_law_drawn_turns, F_law_drawn_turns, G_law_drawn_turns⟩ := ok_law_drawn_turns (P := P) (w := w) (base := base) hy
  obtain ⟨fd_law_asked, F_law_asked, G_law_asked⟩ := ok_law_asked (P := P) (w := w) (base := base) hy
  obtain ⟨fd_law_barred, F_law_barred, G_law_barred⟩ := ok_law_barred (P := P) (w := w) (base := base) hy
  obtain ⟨fd_law_sibling, F_law_sibling, G_law_sibling⟩ := ok_law_sibling (P := P) (w := w) (base := base) hy
  have ab_law_digits_2_ : ArgB K fd_law_digits ["_law_cell_here", "_law_sizes"] 2 [] [] [0, 1] := ArgB.given F_law_digits (fun kV doc pm an cdv ct us ws l1 l2 => match us, l1, ws, l2 with | [_, _], _, [], _ => rfl)
  have ab_law_cell_2_ : ArgB K fd_law_cell ["_law_script", "_law_k"] 2 [] [] [0, 1] := ArgB.given F_law_cell (fun kV doc pm an cdv ct us ws l1 l2 => match us, l1, ws, l2 with | [_, _], _, [], _ => rfl)
  have ab_law_far_4_ : ArgB K fd_law_far ["_law_script", "_law_at", "_law_top", "_law_upto"] 4 [] [] [0, 1, 2, 3] := ArgB.given F_law_far (fun kV doc pm an cdv ct us ws l1 l2 => match us, l1, ws, l2 with | [_, _, _, _], _, [], _ => rfl)
  have ab_law_turn_2_ : ArgB K fd_law_turn ["_law_state", "_law_sluice"] 2 [] [] [0, 1] := ArgB.given F_law_turn (fun kV doc pm an cdv ct us ws l1 l2 => match us, l1, ws, l2 with | [_, _], _, [], _ => rfl)
  have ab_law_either_3_ : ArgB K fd_law_either ["_law_script", "_law_at", "_law_flag"] 3 [] [] [0, 1, 2] := ArgB.given F_law_either (fun kV doc pm an cdv ct us ws l1 l2 => match us, l1, ws, l2 with | [_, _, _], _, [], _ => rfl)
  have ab_law_loosened_1_ : ArgB K fd_law_loosened ["_law_world_here"] 1 [] [] [0] := ArgB.given F_law_loosened (fun kV doc pm an cdv ct us ws l1 l2 => match us, l1, ws, l2 with | [_], _, [], _ => rfl)
  have ab_law_running_1_ : ArgB K fd_law_running ["_law_world_here"] 1 [] [] [0] := ArgB.given F_law_running (fun kV doc pm an cdv ct us ws l1 l2 => match us, l1, ws, l2 with | [_], _, [], _ => rfl)
  have ab_law_settings_1_ : ArgB K fd_law_settings ["_law_many"] 1 [] [] [0] := ArgB.given F_law_settings (fun kV doc pm an cdv ct us ws l1 l2 => match us, l1, ws, l2 with | [_], _, [], _ => rfl)
  have ab_law_lively_3_ : ArgB K fd_law_lively ["_law_world_here", "_law_ready", "_law_at"] 3 [] [] [0, 1, 2] := ArgB.given F_law_lively (fun kV doc pm an cdv ct us ws l1 l2 => match us, l1, ws, l2 with | [_, _, _], _, [], _ => rfl)
  have ab_law_season_1_ : ArgB K fd_law_season ["_law_world_here"] 1 [] [] [0] := ArgB.given F_law_season (fun kV doc pm an cdv ct us ws l1 l2 => match us, l1, ws, l2 with | [_], _, [], _ => rfl)
  have ab_law_drawn_turns_3_ : ArgB K fd_law_drawn_turns ["_law_world_here", "_law_state", "_law_digits_here"] 3 [] [] [0, 1, 2] := ArgB.given F_law_drawn_turns (fun kV doc pm an cdv ct us ws l1 l2 => match us, l1, ws, l2 with | [_, _, _], _, [], _ => rfl)
  have ab_law_asked_5_ : ArgB K fd_law_asked ["_law_world_here", "_law_rule", "_law_state", "_law_row", "_law_kind"] 5 [] [] [0, 1, 2, 3, 4] := ArgB.given F_law_asked (fun kV doc pm an cdv ct us ws l1 l2 => match us, l1, ws, l2 with | [_, _, _, _, _], _, [], _ => rfl)
  have ab_law_barred_2_ : ArgB K fd_law_barred ["_law_world_here", "_law_at"] 2 [] [] [0, 1] := ArgB.given F_law_barred (fun kV doc pm an cdv ct us ws l1 l2 => match us, l1, ws, l2 with | [_, _], _, [], _ => rfl)
  have ab_law_sibling_2_ : ArgB K fd_law_sibling ["_law_rule", "_law_world_here"] 2 [] [] [0, 1] := ArgB.given F_law_sibling (fun kV doc pm an cdv ct us ws l1 l2 => match us, l1, ws, l2 with | [_, _], _, [], _ => rfl)
  obtain ⟨fd, F⟩ := hy.says.fn (44) (d := d_law) rfl
  exact ⟨fd, F, fn_ev F sc_law fun cdv A outer s H E hr => (ss_cons (ss_set 1 (hN := sc_law.nd) (he := ee_callP (F := G_law_digits) (hr := hr.mono (by decide)) (hm := glo__law_digits hy) (hk := F_law_digits.kp) (hb := ab_law_digits_2_) (tk := (L2N.takes_of rfl rfl rfl rfl)) (hp := rfl) (hmx := by decide) (hdd := fun _ => .nil) (ha := ea_cons (ee_callP (F := G_law_cell) (hr := hr.mono (by decide)) (hm := glo__law_cell hy) (hk := F_law_cell.kp) (hb := ab_law_cell_2_) (tk := (L2N.takes_of rfl rfl rfl rfl)) (hp := rfl) (hmx := by decide) (hdd := fun _ => .nil) (ha := ea_cons (ee_var 0) (ea_cons (ee_int) (ea_nil))) (hkw := ek_nil)) (ea_cons (en_ee (en_lst (ea_cons (ee_int) (ea_cons (ee_int) (ea_cons (ee_int) (ea_cons (ee_int) (ea_cons (ee_int) (ea_cons (ee_int) (ea_cons (ee_int) (ea_cons (ee_int) (ea_cons (ee_int) (ea_cons (ee_int) (ea_cons (ee_int) (ea_cons (ee_int) (ea_nil))))))))))))))) (ea_nil))) (hkw := ek_nil))) (ss_cons (ss_if (eb_eq (hr := hr) (ha := ee_ix (ha := ee_var 1) (hb := ee_int)) (hb := ee_int)) (ss_cons (ss_set 2 (hN := sc_law.nd) (he := ee_callP (F := G_law_far) (hr := hr.mono (by decide)) (hm := glo__law_far hy) (hk := F_law_far.kp) (hb := ab_law_far_4_) (tk := (L2N.takes_of rfl rfl rfl rfl)) (hp := rfl) (hmx := by decide) (hdd := fun _ => .nil) (ha := ea_cons (ee_var 0) (ea_cons (ee_int) (ea_cons (ee_int) (ea_cons (ee_int) (ea_nil))))) (hkw := ek_nil))) (ss_cons (ss_set 3 (hN := sc_law.nd) (he := ee_ix (ha := ee_var 2) (hb := ee_int))) (ss_cons (ss_set 4 (hN := sc_law.nd) (he := ee_ix (ha := ee_var 2) (hb := ee_int))) (ss_cons (ss_set 5 (hN := sc_law.nd) (he := ee_var 4)) (ss_one (ss_for (hp := (passes_of rfl)) (hc := rfl) (hi := ei_range1 (hm := (free_range hy)) (ha := ee_callB (hc := call_len_seq) (h := (o_len rfl)) (hm := (free_len hy)) (hv := by decide +kernel) (ha := ea_cons (ee_var 4) (ea_nil)))) (hg := eg_name 6 sc_law.nd) (hb := ss_one (ss_if (eb_eq (hr := hr) (ha := ee_mod (ha := ee_callT (hc := call_int1) (h := o_int) (hm := (free_int hy)) (hv := by decide +kernel) (ha := ea_cons (ee_fdiv (ha := ee_callT (hc := call_int1) (h := o_int) (hm := (free_int hy)) (hv := by decide +kernel) (ha := ea_cons (ee_callP (F := G_law_cell) (hr := hr.mono (by decide)) (hm := glo__law_cell hy) (hk := F_law_cell.kp) (hb := ab_law_cell_2_) (tk := (L2N.takes_of rfl rfl rfl rfl)) (hp := rfl) (hmx := by decide) (hdd := fun _ => .nil) (ha := ea_cons (ee_var 0) (ea_cons (ee_int) (ea_nil))) (hkw := ek_nil)) (ea_nil))) (hb := ee_add (ha := ee_var 6) (hb := ee_int))) (ea_nil))) (hb := ee_int)) (hb := ee_int)) (ss_one (ss_set 5 (hN := sc_law.nd) (he := ee_callP (F := G_law_turn) (hr := hr.mono (by decide)) (hm := glo__law_turn hy) (hk := F_law_turn.kp) (hb := ab_law_turn_2_) (tk := (L2N.takes_of rfl rfl rfl rfl)) (hp := rfl) (hmx := by decide) (hdd := fun _ => .nil) (ha := ea_cons (ee_var 5) (ea_cons (ee_var 6) (ea_nil))) (hkw := ek_nil)))) (ss_nil))))))))) (ss_cons (ss_set 3 (hN := sc_law.nd) (he := ee_callP (F := G_law_either) (hr := hr.mono (by decide)) (hm := glo__law_either hy) (hk := F_law_either.kp) (hb := ab_law_either_3_) (tk := (L2N.takes_of rfl rfl rfl rfl)) (hp := rfl) (hmx := by decide) (hdd := fun _ => .nil) (ha := ea_cons (ee_var 0) (ea_cons (ee_int) (ea_cons (ee_ix (ha := ee_var 1) (hb := ee_int)) (ea_nil)))) (hkw := ek_nil))) (ss_cons (ss_if (eb_eq (hr := hr) (ha := ee_ix (ha := ee_var 1) (hb := ee_int)) (hb := ee_int)) (ss_one (ss_set 3 (hN := sc_law.nd) (he := ee_callP (F := G_law_loosened) (hr := hr.mono (by decide)) (hm := glo__law_loosened hy) (hk := F_law_loosened.kp) (hb := ab_law_loosened_1_) (tk := (L2N.takes_of rfl rfl rfl rfl)) (hp := rfl) (hmx := by decide) (hdd := fun _ => .nil) (ha := ea_cons (ee_var 3) (ea_nil)) (hkw := ek_nil)))) (ss_nil)) (ss_cons (ss_set 7 (hN := sc_law.nd) (he := ee_callP (F := G_law_running) (hr := hr.mono (by decide)) (hm := glo__law_running hy) (hk := F_law_running.kp) (hb := ab_law_running_1_) (tk := (L2N.takes_of rfl rfl rfl rfl)) (hp := rfl) (hmx := by decide) (hdd := fun _ => .nil) (ha := ea_cons (ee_var 3) (ea_nil)) (hkw := ek_nil))) (ss_cons (ss_set 8 (hN := sc_law.nd) (he := ee_callP (F := G_law_settings) (hr := hr.mono (by decide)) (hm := glo__law_settings hy) (hk := F_law_settings.kp) (hb := ab_law_settings_1_) (tk := (L2N.takes_of rfl rfl rfl rfl)) (hp := rfl) (hmx := by decide) (hdd := fun _ => .nil) (ha := ea_cons (ee_callB (hc := call_len_seq) (h := (o_len rfl)) (hm := (free_len hy)) (hv := by decide +kernel) (ha := ea_cons (ee_ix (ha := ee_var 3) (hb := ee_int)) (ea_nil))) (ea_nil)) (hkw := ek_nil))) (ss_cons (ss_if (eb_eq (hr := hr) (ha := ee_ix (ha := ee_var 1) (hb := ee_int)) (hb := ee_int)) (ss_one (ss_set 8 (hN := sc_law.nd) (he := ee_var 7))) (ss_nil)) (ss_cons (ss_set 4 (hN := sc_law.nd) (he := ee_callP (F := G_law_lively) (hr := hr.mono (by decide)) (hm := glo__law_lively hy) (hk := F_law_lively.kp) (hb := ab_law_lively_3_) (tk := (L2N.takes_of rfl rfl rfl rfl)) (hp := rfl) (hmx := by decide) (hdd := fun _ => .nil) (ha := ea_cons (ee_var 3) (ea_cons (ee_var 7) (ea_cons (ee_callP (F := G_law_cell) (hr := hr.mono (by decide)) (hm := glo__law_cell hy) (hk := F_law_cell.kp) (hb := ab_law_cell_2_) (tk := (L2N.takes_of rfl rfl rfl rfl)) (hp := rfl) (hmx := by decide) (hdd := fun _ => .nil) (ha := ea_cons (ee_var 0) (ea_cons (ee_int) (ea_nil))) (hkw := ek_nil)) (ea_nil)))) (hkw := ek_nil))) (ss_one (ss_set 5 (hN := sc_law.nd) (he := ee_ix (ha := ee_var 8) (hb := ee_mod (ha := ee_callT (hc := call_int1) (h := o_int) (hm := (free_int hy)) (hv := by decide +kernel) (ha := ea_cons (ee_callP (F := G_law_cell) (hr := hr.mono (by decide)) (hm := glo__law_cell hy) (hk := F_law_cell.kp) (hb := ab_law_cell_2_) (tk := (L2N.takes_of rfl rfl rfl rfl)) (hp := rfl) (hmx := by decide) (hdd := fun _ => .nil) (ha := ea_cons (ee_var 0) (ea_cons (ee_int) (ea_nil))) (hkw := ek_nil)) (ea_nil))) (hb := ee_callB (hc := call_len_seq) (h := (o_len rfl)) (hm := (free_len hy)) (hv := by decide +kernel) (ha := ea_cons (ee_var 8) (ea_nil)))))))))))))) (ss_cons (ss_set 9 (hN := sc_law.nd) (he := ee_callP (F := G_law_season) (hr := hr.mono (by decide)) (hm := glo__law_season hy) (hk := F_law_season.kp) (hb := ab_law_season_1_) (tk := (L2N.takes_of rfl rfl rfl rfl)) (hp := rfl) (hmx := by decide) (hdd := fun _ => .nil) (ha := ea_cons (ee_var 3) (ea_nil)) (hkw := ek_nil))) (ss_cons (ss_set 10 (hN := sc_law.nd) (he := ee_callP (F := G_law_digits) (hr := hr.mono (by decide)) (hm := glo__law_digits hy) (hk := F_law_digits.kp) (hb := ab_law_digits_2_) (tk := (L2N.takes_of rfl rfl rfl rfl)) (hp := rfl) (hmx := by decide) (hdd := fun _ => .nil) (ha := ea_cons (ee_callP (F := G_law_cell) (hr := hr.mono (by decide)) (hm := glo__law_cell hy) (hk := F_law_cell.kp) (hb := ab_law_cell_2_) (tk := (L2N.takes_of rfl rfl rfl rfl)) (hp := rfl) (hmx := by decide) (hdd := fun _ => .nil) (ha := ea_cons (ee_var 0) (ea_cons (ee_int) (ea_nil))) (hkw := ek_nil)) (ea_cons (en_ee (en_rep (ha := en_ee (en_lst (ea_cons (ee_int) (ea_nil)))) (hb := ee_ix (ha := ee_var 1) (hb := ee_int)))) (ea_nil))) (hkw := ek_nil))) (ss_cons (ss_if (eb_eq (hr := hr) (ha := ee_ix (ha := ee_var 1) (hb := ee_int)) (hb := ee_int)) (ss_one (ss_lc_v (ps_lcs (i := 10) (hy := rfl) (hyl := rfl) (hsw := sw_true rfl rfl rfl (by decide +kernel)) (own := [("_law_digit", 14)]) (hc := rfl) (hN := sc_law.nd) (ok := blkOk_by (show blkC ["_law_script", "_law_draws", "_law_far_here", "_law_world_here", "_law_start", "_law_other", "_law_k", "_law_ready", "_law_every", "_law_rule", "_law_digits_here", "_law_row", "_law_more", "_law_bare", "_law_digit"] (defScope st_law) _ [("_law_digit", 14)] = true by decide +kernel)) (hi := ei_seq (he := ee_var 10)) (hg := fun _ _ _ _ _ => eg_name 14 sc_law.nd) (ht := fun _ _ _ _ _ => et_nil) (he := fun _ _ _ _ _ => ee_mul (ha := ee_fdiv (ha := ee_var 14) (hb := ee_int)) (hb := ee_int))) (w_lc (by decide)))) (ss_nil)) (ss_cons (ss_set 11 (hN := sc_law.nd) (he := ee_callP (F := G_law_drawn_turns) (hr := hr.mono (by decide)) (hm := glo__law_drawn_turns hy) (hk := F_law_drawn_turns.kp) (hb := ab_law_drawn_turns_3_) (tk := (L2N.takes_of rfl rfl rfl rfl)) (hp := rfl) (hmx := by decide) (hdd := fun _ => .nil) (ha := ea_cons (ee_var 3) (ea_cons (ee_var 4) (ea_cons (ee_var 10) (ea_nil)))) (hkw := ek_nil))) (ss_cons (ss_if (eb_eq (hr := hr) (ha := ee_ix (ha := ee_var 1) (hb := ee_int)) (hb := ee_int)) (ss_one (ss_set 11 (hN := sc_law.nd) (he := en_ee (en_add (ha := en_ee (en_rep (ha := en_ee (en_add (ha := ee_var 11) (hb := en_ee (en_rev (ha := ee_var 11))))) (hb := ee_add (ha := ee_int) (hb := ee_fdiv (ha := ee_int) (hb := ee_callB (hc := (call_max2 rfl)) (h := o_max) (hm := (free_max hy)) (hv := by decide +kernel) (ha := ea_cons (ee_int) (ea_cons (ee_callB (hc := call_len_seq) (h := (o_len rfl)) (hm := (free_len hy)) (hv := by decide +kernel) (ha := ea_cons (ee_var 11) (ea_nil))) (ea_nil)))))))) (hb := ee_var 11))))) (ss_nil)) (ss_cons (ss_set 12 (hN := sc_law.nd) (he := ee_callP (F := G_law_drawn_turns) (hr := hr.mono (by decide)) (hm := glo__law_drawn_turns hy) (hk := F_law_drawn_turns.kp) (hb := ab_law_drawn_turns_3_) (tk := (L2N.takes_of rfl rfl rfl rfl)) (hp := rfl) (hmx := by decide) (hdd := fun _ => .nil) (ha := ea_cons (ee_var 3) (ea_cons (ee_var 5) (ea_cons (ee_callP (F := G_law_digits) (hr := hr.mono (by decide)) (hm := glo__law_digits hy) (hk := F_law_digits.kp) (hb := ab_law_digits_2_) (tk := (L2N.takes_of rfl rfl rfl rfl)) (hp := rfl) (hmx := by decide) (hdd := fun _ => .nil) (ha := ea_cons (ee_callP (F := G_law_cell) (hr := hr.mono (by decide)) (hm := glo__law_cell hy) (hk := F_law_cell.kp) (hb := ab_law_cell_2_) (tk := (L2N.takes_of rfl rfl rfl rfl)) (hp := rfl) (hmx := by decide) (hdd := fun _ => .nil) (ha := ea_cons (ee_var 0) (ea_cons (ee_int) (ea_nil))) (hkw := ek_nil)) (ea_cons (en_ee (en_rep (ha := en_ee (en_lst (ea_cons (ee_int) (ea_nil)))) (hb := ee_ix (ha := ee_var 1) (hb := ee_int)))) (ea_nil))) (hkw := ek_nil)) (ea_nil)))) (hkw := ek_nil))) (ss_cons (ss_if (eb_eq (hr := hr) (ha := ee_ix (ha := ee_var 1) (hb := ee_int)) (hb := ee_int)) (ss_one (ss_set 12 (hN := sc_law.nd) (he := en_ee (en_lst (ea_nil))))) (ss_nil)) (ss_cons (ss_if (eb_not (eb_val (ee_callP (F := G_law_asked) (hr := hr.mono (by decide)) (hm := glo__law_asked hy) (hk := F_law_asked.kp) (hb := ab_law_asked_5_) (tk := (L2N.takes_of rfl rfl rfl rfl)) (hp := rfl) (hmx := by decide) (hdd := fun _ => .nil) (ha := ea_cons (ee_var 3) (ea_cons (ee_var 9) (ea_cons (ee_var 4) (ea_cons (ee_var 11) (ea_cons (ee_ix (ha := ee_var 1) (hb := ee_int)) (ea_nil)))))) (hkw := ek_nil)))) (ss_one (ss_ret (ee_bl))) (ss_nil)) (ss_cons (ss_if (eb_not (eb_val (ee_callP (F := G_law_asked) (hr := hr.mono (by decide)) (hm := glo__law_asked hy) (hk := F_law_asked.kp) (hb := ab_law_asked_5_) (tk := (L2N.takes_of rfl rfl rfl rfl)) (hp := rfl) (hmx := by decide) (hdd := fun _ => .nil) (ha := ea_cons (ee_var 3) (ea_cons (ee_var 9) (ea_cons (ee_var 5) (ea_cons (ee_var 12) (ea_cons (ee_ix (ha := ee_var 1) (hb := ee_int)) (ea_nil)))))) (hkw := ek_nil)))) (ss_one (ss_ret (ee_bl))) (ss_nil)) (ss_cons (ss_if (eb_eq (hr := hr) (ha := ee_ix (ha := ee_var 1) (hb := ee_int)) (hb := ee_int)) (ss_cons (ss_set 13 (hN := sc_law.nd) (he := ee_callP (F := G_law_barred) (hr := hr.mono (by decide)) (hm := glo__law_barred hy) (hk := F_law_barred.kp) (hb := ab_law_barred_2_) (tk := (L2N.takes_of rfl rfl rfl rfl)) (hp := rfl) (hmx := by decide) (hdd := fun _ => .nil) (ha := ea_cons (ee_var 3) (ea_cons (ee_ix (ha := ee_var 1) (hb := ee_int)) (ea_nil))) (hkw := ek_nil))) (ss_one (ss_if (eb_not (eb_val (ee_callP (F := G_law_asked) (hr := hr.mono (by decide)) (hm := glo__law_asked hy) (hk := F_law_asked.kp) (hb := ab_law_asked_5_) (tk := (L2N.takes_of rfl rfl rfl rfl)) (hp := rfl) (hmx := by decide) (hdd := fun _ => .nil) (ha := ea_cons (ee_var 13) (ea_cons (ee_callP (F := G_law_sibling) (hr := hr.mono (by decide)) (hm := glo__law_sibling hy) (hk := F_law_sibling.kp) (hb := ab_law_sibling_2_) (tk := (L2N.takes_of rfl rfl rfl rfl)) (hp := rfl) (hmx := by decide) (hdd := fun _ => .nil) (ha := ea_cons (ee_var 9) (ea_cons (ee_var 13) (ea_nil))) (hkw := ek_nil)) (ea_cons (ee_var 4) (ea_cons (ee_var 11) (ea_cons (ee_ix (ha := ee_var 1) (hb := ee_int)) (ea_nil)))))) (hkw := ek_nil)))) (ss_one (ss_ret (ee_bl))) (ss_nil)))) (ss_nil)) (ss_one (ss_ret (ee_callP (F := G_law_asked) (hr := hr.mono (by decide)) (hm := glo__law_asked hy) (hk := F_law_asked.kp) (hb := ab_law_asked_5_) (tk := (L2N.takes_of rfl rfl rfl rfl)) (hp := rfl) (hmx := by decide) (hdd := fun _ => .nil) (ha := ea_cons (ee_var 3) (ea_cons (ee_var 9) (ea_cons (ee_var 4) (ea_cons (ee_var 11) (ea_cons (ee_ix (ha := ee_var 1) (hb := ee_int)) (ea_nil)))))) (hkw := ek_nil))))))))))))))))⟩
end LW
end

section
set_option maxHeartbeats 4000000
namespace LW
open PySem L2 EV
local macro_rules | `(tactic| get_elem_tactic_extensible) => `(tactic| first
  | ((with_reducible apply Ev.var); exact rfl)
  | with_reducible exact Ev.c
  | assumption
  | ((with_reducible apply Ev.add) <;> get_elem_tactic_extensible)
  | ((with_reducible apply Ev.sub) <;> get_elem_tactic_extensible)
  | ((with_reducible apply Ev.mulR) <;> get_elem_tactic_extensible)
  | ((with_reducible apply Ev.mulL) <;> get_elem_tactic_extensible)
  | ((with_reducible apply Ev.mod) <;> get_elem_tactic_extensible)
  | ((with_reducible apply Ev.fdiv) <;> get_elem_tactic_extensible)
  | ((with_reducible apply Ev.pow) <;> get_elem_tactic_extensible)
  | ((with_reducible apply Ev.neg) <;> get_elem_tactic_extensible)
  | ((with_reducible apply Ev.lt) <;> get_elem_tactic_extensible)
  | ((with_reducible apply Ev.le) <;> get_elem_tactic_extensible)
  | ((with_reducible apply Ev.gt) <;> get_elem_tactic_extensible)
  | ((with_reducible apply Ev.ge) <;> get_elem_tactic_extensible)
  | ((with_reducible apply Ev.eqI) <;> get_elem_tactic_extensible)
  | ((with_reducible apply Ev.neI) <;> get_elem_tactic_extensible)
  | ((with_reducible apply Ev.isN) <;> get_elem_tactic_extensible)
  | ((with_reducible apply Ev.notN) <;> get_elem_tactic_extensible)
  | ((with_reducible apply Ev.notP) <;> get_elem_tactic_extensible)
  | ((with_reducible apply Ev.andP) <;> get_elem_tactic_extensible)
  | ((with_reducible apply Ev.orP) <;> get_elem_tactic_extensible)
  | ((with_reducible apply Ev.int_) <;> get_elem_tactic_extensible)
  | ((with_reducible apply Ev.intB) <;> get_elem_tactic_extensible)
  | ((with_reducible apply Ev.lenL) <;> get_elem_tactic_extensible)
  | ((with_reducible apply Ev.lenT) <;> get_elem_tactic_extensible)
  | ((with_reducible apply Ev.lenS) <;> get_elem_tactic_extensible)
  | ((with_reducible apply Ev.min_) <;> get_elem_tactic_extensible)
  | ((with_reducible apply Ev.max_) <;> get_elem_tactic_extensible)
  | ((with_reducible apply Ev.abs_) <;> get_elem_tactic_extensible)
  | ((with_reducible apply Ev.tupleL) <;> get_elem_tactic_extensible)
  | ((with_reducible apply Ev.tupleT) <;> get_elem_tactic_extensible)
  | ((with_reducible apply EvL.listL) <;> get_elem_tactic_extensible)
  | ((with_reducible apply EvL.listT) <;> get_elem_tactic_extensible)
  | ((with_reducible apply Ev.ixL) <;> get_elem_tactic_extensible)
  | ((with_reducible apply Ev.ixT) <;> get_elem_tactic_extensible)
  | ((with_reducible apply Ev.ixM) <;> get_elem_tactic_extensible)
  | ((with_reducible apply Ev.ixMT) <;> get_elem_tactic_extensible)
  | ((with_reducible apply Ev.tup) <;> get_elem_tactic_extensible)
  | ((with_reducible apply Ev.vL) <;> get_elem_tactic_extensible)
  | with_reducible exact EvL.nil
  | ((with_reducible apply EvL.cons) <;> get_elem_tactic_extensible)
  | ((with_reducible apply EvL.lenOk) <;> get_elem_tactic_extensible)
  | ((with_reducible apply EvL.range1) <;> get_elem_tactic_extensible)
  | ((with_reducible apply EvL.seqL) <;> get_elem_tactic_extensible)
  | ((with_reducible apply EvL.seqT) <;> get_elem_tactic_extensible)
  | ((with_reducible apply EvL.seqS) <;> get_elem_tactic_extensible)
  | (intro; get_elem_tactic_extensible)
  | exact (show GetElem?.getElem? (List.cons _ _) _ = some _ from rfl)
  | omega
  | (simp only [List.length_map, List.length_append, List.length_replicate, List.length_cons, List.length_nil, List.length_range] <;> omega))
/-- a row of digits -/
def RowOk (row sizes : List Int) : Prop := row.length = sizes.length ∧ ∀ k : Int, 0 ≤ k → k < row.length → 0 ≤ at_ row k ∧ at_ row k < at_ sizes k
theorem at_append {xs : List Int} {x : Int} {k : Int} (h0 : 0 ≤ k) (h : k < xs.length) : at_ (xs ++ [x]) k = at_ xs k := by
  have h1 := at_get h0 h
  unfold at_ at *
  rw [List.getD_eq_getElem?_getD, List.getElem?_append_left (by omega), h1]
  rfl
theorem at_last {xs : List Int} {x : Int} {k : Int} (h : k = xs.length) : at_ (xs ++ [x]) k = x := by
  subst h
  unfold at_
  simp
theorem row_grow {row sizes : List Int} {n : Nat} {z : Int} (h : row.length = n) (hr : ∀ k : Int, 0 ≤ k → k < row.length → 0 ≤ at_ row k ∧ at_ row k < at_ sizes k) (hz : 0 ≤ z ∧ z < at_ sizes n) : (row ++ [z]).length = n + 1 ∧ ∀ k : Int, 0 ≤ k → k < (row ++ [z]).length → 0 ≤ at_ (row ++ [z]) k ∧ at_ (row ++ [z]) k < at_ sizes k := by
  refine ⟨by simp [h], fun k h0 hl => ?_⟩
  rw [List.length_append, List.length_singleton] at hl
  by_cases hk : k < row.length
  · rw [at_append h0 hk]
    exact hr k h0 hk
  · have e : k = row.length := by omega
    rw [at_last e, e, h]
    exact hz
def pairD (p : Int × Int) : D := .tup [.int p.1, .int p.2]
def PairsOk (mills : Int) (ps : List (Int × Int)) : Prop := ∀ p ∈ ps, 0 ≤ p.1 ∧ p.1 < mills ∧ 0 ≤ p.2 ∧ p.2 < mills ∧ p.1 ≠ p.2
theorem PairsOk.snoc {mills : Int} {ps : List (Int × Int)} {p : Int × Int} (h : PairsOk mills ps) (hp : 0 ≤ p.1 ∧ p.1 < mills ∧ 0 ≤ p.2 ∧ p.2 < mills ∧ p.1 ≠ p.2) : PairsOk mills (ps ++ [p]) := fun q hq => by
  rcases List.mem_append.mp hq with hq | hq
  · exact h q hq
  · rw [List.mem_singleton.mp hq]; exact hp
/-- the second end is another one -/
theorem mod_ne {a b m : Int} (ha : 0 ≤ a ∧ a < m) (hb : 0 ≤ b ∧ b < m - 1) : 0 ≤ (a + 1 + b) % m ∧ (a + 1 + b) % m < m ∧ a ≠ (a + 1 + b) % m := by
  have h0 := Int.emod_nonneg (a + 1 + b) (show m ≠ 0 by omega)
  have h1 := Int.emod_lt_of_pos (a + 1 + b) (show 0 < m by omega)
  refine ⟨h0, h1, fun e => ?_⟩
  by_cases h : a + 1 + b < m
  · rw [Int.emod_eq_of_lt (by omega) h] at e
    omega
  · have e2 : (a + 1 + b) % m = a + 1 + b - m := by
      have := Int.sub_emod_right (a + 1 + b) m
      rw [← Int.emod_eq_of_lt (a := a + 1 + b - m) (b := m) (by omega) (by omega), Int.sub_emod_right]
    rw [e2] at e
    omega
def tbMills : List D := (List.replicate 2 [.int 3, .int 3, .int 4, .int 2, .int 4, .int 3, .int 5, .int 3, .int 4, .int 3, .int 2, .int 4]).flatten
def tbMany : List D := (List.replicate 2 [.int 4, .int 5, .int 3, .int 6, .int 5, .int 4, .int 7, .int 5, .int 4, .int 6, .int 5, .int 2]).flatten
theorem range0_map (n : Nat) : rangeD 0 n = (List.range n).map fun k => D.int ((k : Nat) : Int) := by
  unfold rangeD
  congr 1
  funext k
  rw [Int.zero_add]
theorem filterMap_some {α β : Type} (f : α → β) (xs : List α) : xs.filterMap (fun x => some (f x)) = xs.map f := by
  induction xs with
  | nil => rfl
  | cons x xs ih => simp [List.filterMap_cons, ih]
theorem map_zero (n : Nat) : (List.range n).map (fun _ => D.int 0) = (List.replicate n (0 : Int)).map D.int := by
  rw [List.map_replicate]
  apply List.ext_getElem
  · simp
  · intro i h1 h2
    simp
/-- [e for k in range(n)] -/
theorem EvL.lcr {fi : FL} {fe : FE} {v : Nat} {vs : List Nat} {ρ : EV.Env} {n : Nat} (o : Nat → D) (hi : EvL fi ρ (rangeD 0 n)) (hl : n ≤ 90000) (h : ∀ k, k < n → Ev fe ((mask (wipeE ρ vs)).set v (.v (.int (k : Nat)))) (o k)) : EvL (nLc fi (nmG v) vYes fe vs) ρ ((List.range n).map o) := by
  have q := EvL.lc (fi := fi) (fg := nmG v) (ft := vYes) (fe := fe) (vs := vs) (ρ := ρ) (List.range n) (fun k => D.int ((k : Nat) : Int)) (fun k => some (o k)) (by rw [← range0_map]; exact hi) (by simpa using hl) (fun k hk => item_yes rfl (h k (List.mem_range.mp hk)))
  rw [filterMap_some] at q
  exact q
/-- the counts -/
def NNs (n : Nat) (cs : List Int) : Prop := cs.length = n ∧ ∀ c ∈ cs, 0 ≤ c
theorem NNs.at {n : Nat} {cs : List Int} (h : NNs n cs) {k : Int} (h0 : 0 ≤ k) (h1 : k < n) : 0 ≤ at_ cs k := h.2 _ (at_mem h0 (by rw [h.1]; exact h1))
theorem map_set (cs : List Int) (k : Nat) (c : Int) : (cs.map D.int).set k (.int c) = (cs.set k c).map D.int := by rw [List.map_set]
theorem NNs.set {n : Nat} {cs : List Int} (h : NNs n cs) {k : Nat} {c : Int} (hc : 0 ≤ c) : NNs n (cs.set k c) := ⟨by rw [List.length_set]; exact h.1, fun x hx => by
  rcases List.mem_or_eq_of_mem_set hx with hx | hx
  · exact h.2 x hx
  · rw [hx]; exact hc⟩
def Bits (n : Nat) (bs : List Int) : Prop := bs.length = n ∧ ∀ b ∈ bs, b = 0 ∨ b = 1
theorem Bits.at {n : Nat} {bs : List Int} (h : Bits n bs) {k : Int} (h0 : 0 ≤ k) (h1 : k < n) : at_ bs k = 0 ∨ at_ bs k = 1 := h.2 _ (at_mem h0 (by rw [h.1]; exact h1))
def optD : Option Int → D
  | none => .non
  | some i => .int i
def letD (l : List Int) : D := .tup (l.map D.int)
def Pos (o : Option Int) : Prop := ∀ x, o = some x → 0 ≤ x
def lets4 : List (List Int) := [[0, 1], [0], [1], []]
def optB : D → Bool
  | .non => true
  | .int m => decide (0 ≤ m)
  | _ => false
theorem tblO_get {tb : List D} (h : tb.all optB = true) {i : Int} (hl : i.toNat < tb.length) : ∃ o : Option Int, tb[i.toNat]? = some (optD o) ∧ Pos o := by
  have hm : tb[i.toNat] ∈ tb := List.getElem_mem hl
  have q := List.all_eq_true.mp h _ hm
  rw [List.getElem?_eq_getElem hl]
  generalize tb[i.toNat] = d at q
  cases d with
  | int m => exact ⟨some m, rfl, fun x e => by cases e; exact of_decide_eq_true q⟩
  | non => exact ⟨none, rfl, fun x e => by cases e⟩
  | _ => cases q
theorem Ev.ix2 {fa fb : FE} {ρ : EV.Env} {d0 d1 : D} {P : Prop} {iP : Decidable P} (ha : Ev fa ρ (.lst [d0, d1])) (hb : Ev fb ρ (.int (if decide P then 1 else 0))) : Ev (v2 ixD fa fb) ρ (if P then d1 else d0) := by
  by_cases h : P
  · simp only [h, decide_true, if_true] at *
    exact Ev.ixL ha hb (by omega) rfl
  · simp only [h, decide_false, if_false] at *
    exact Ev.ixL ha hb (by omega) rfl
structure WOk (mills : Int) (ps : List (Int × Int)) (low : List Int) (high : List (Option Int)) (lets : List (List Int)) : Prop where
  m1 : 1 ≤ mills
  m2 : mills ≤ 24
  pl : ps.length ≤ 48
  ok : PairsOk mills ps
  lo : NNs mills.toNat low
  hl : high.length = mills.toNat
  hp : ∀ h ∈ high, Pos h
  ll : lets.length = ps.length
  lp : ∀ l ∈ lets, l ∈ lets4
theorem enum_get {ds : List D} {k : Nat} {d : D} (h : (enumFrom 0 ds)[k]? = some d) : ∃ e, ds[k]? = some e ∧ d = .tup [.int (k : Nat), e] := by
  have hl := (List.getElem?_eq_some_iff.mp h).1
  rw [enumFrom_length] at hl
  have q := enumFrom_get ds 0 k ds[k] (List.getElem?_eq_getElem hl)
  rw [h, Nat.zero_add] at q
  exact ⟨_, List.getElem?_eq_getElem hl, Option.some.inj q⟩
def landD (mills : Int) (ps : List (Int × Int)) : D := .obj 7 [.int mills, .tup (ps.map pairD)]
theorem map_true {α : Type} (xs : List α) : xs.map (fun _ => D.bl true) = List.replicate xs.length (D.bl true) := by
  apply List.ext_getElem
  · simp
  · intro i h1 h2
    simp
/-- all([.. for x in xs]) each True -/
theorem lc_true {α : Type} {fe : FE} {v : Nat} {vs : List Nat} {ρ : EV.Env} {fi : FL} (xs : List α) (A : α → D) (hi : EvL fi ρ (xs.map A)) (hl : xs.length ≤ 90000) (h : ∀ x ∈ xs, Ev fe ((mask (wipeE ρ vs)).set v (.v (A x))) (.bl true)) : EvL (nLc fi (nmG v) vYes fe vs) ρ (List.replicate xs.length (.bl true)) := by
  have q := EvL.lc (fi := fi) (fg := nmG v) (ft := vYes) (fe := fe) (vs := vs) (ρ := ρ) xs A (fun _ => some (.bl true)) hi hl (fun x hx => item_yes rfl (h x hx))
  rw [filterMap_some, map_true] at q
  exact q
theorem bl_true {f : FE} {ρ : EV.Env} {P : Prop} {iP : Decidable P} (h : Ev f ρ (.bl (decide P))) (hp : P) : Ev f ρ (.bl true) := by
  rw [decide_eq_true hp] at h
  exact h
theorem sem_ins {ci n : Nat} {g : FS} {ds : List D} {fs : List D} (h : Run g (Sl.ins ci [] :: (ds.map Sl.v ++ List.replicate (n - 1 - ds.length) Sl.no)) fun o => ∃ ρ, o = .nx ρ ∧ ρ[(0 : Nat)]? = some (.ins ci fs)) : semI ci n g ds = some (.ok (.obj ci fs)) := by
  obtain ⟨o, e, ρ, rfl, h0⟩ := h
  unfold semI
  rw [e]
  simp only [h0, if_true]
def seasonD (land : D) (low : List Int) (high : List (Option Int)) (lets : List (List Int)) : D := .obj 6 [land, .tup (low.map D.int), .tup (high.map optD), .tup (lets.map letD)]
theorem lets_len {lets : List (List Int)} (hp : ∀ l ∈ lets, l ∈ lets4) : ∀ l ∈ lets, l.length ≤ 90000 := fun l hl => by
  have hx4 := hp l hl
  simp only [lets4, List.mem_cons, List.not_mem_nil, or_false] at hx4
  rcases hx4 with rfl | rfl | rfl | rfl <;> decide
mutual
theorem eqv_refl : ∀ (n : Nat) (d : D), D.pl n d = true → D.eqv d d = true
  | _, .non, _ => by simp [D.eqv]
  | _, .bl b, _ => by simp [D.eqv]
  | _, .int i, _ => by simp [D.eqv]
  | _, .str s, _ => by simp [D.eqv]
  | n + 1, .tup xs, h => by
    simp only [D.eqv]
    exact eqvs_refl n xs (by simpa [D.pl] using h)
  | n + 1, .lst xs, h => by
    simp only [D.eqv]
    exact eqvs_refl n xs (by simpa [D.pl] using h)
  | 0, .tup _, h => by simp [D.pl] at h
  | 0, .lst _, h => by simp [D.pl] at h
  | n, .obj _ _, h => by cases n <;> simp [D.pl] at h
  | n, .scr _, h => by cases n <;> simp [D.pl] at h
theorem eqvs_refl : ∀ (n : Nat) (xs : List D), D.pls n xs = true → D.eqvs xs xs = true
  | _, [], _ => by simp [D.eqvs]
  | n, x :: xs, h => by
    rw [D.pls, Bool.and_eq_true] at h
    simp only [D.eqvs, Bool.and_eq_true]
    exact ⟨eqv_refl n x h.1, eqvs_refl n xs h.2⟩
end
theorem pls_map {α : Type} {n : Nat} {A : α → D} (h : ∀ x, D.pl n (A x) = true) (xs : List α) : D.pls n (xs.map A) = true := pls_all.mpr fun d hd => by
  obtain ⟨x, _, rfl⟩ := List.mem_map.mp hd
  exact h x
theorem pl_int (n : Nat) (i : Int) : D.pl n (.int i) = true := by cases n <;> rfl
theorem pl_opt (n : Nat) (o : Option Int) : D.pl n (optD o) = true := by cases o <;> cases n <;> rfl
theorem pl_tup {n : Nat} {xs : List D} (h : D.pls n xs = true) : D.pl (n + 1) (.tup xs) = true := by simpa [D.pl] using h
theorem pl_lst {n : Nat} {xs : List D} (h : D.pls n xs = true) : D.pl (n + 1) (.lst xs) = true := by simpa [D.pl] using h
theorem pl_let (n : Nat) (l : List Int) : D.pl (n + 1) (letD l) = true := pl_tup (pls_map (pl_int n) l)
theorem pl_pair (n : Nat) (p : Int × Int) : D.pl (n + 1) (pairD p) = true := pl_tup (pls_map (A := D.int) (pl_int n) [p.1, p.2])
theorem str_eq {f : FE} {ρ : EV.Env} {x y : Str} (h : Ev f ρ (.str x)) (hx : D.pl 8 (.str x) = true) (hy : D.pl 8 (.str y) = true) : Ev (v2 eqD f (vC (.str y))) ρ (.bl (decide (x = y))) := by
  have := Ev.eq h Ev.c hx hy
  have e : D.eqv (.str x) (.str y) = decide (x = y) := by
    simp only [D.eqv]
    rw [Bool.eq_iff_iff]
    simp
  rw [e] at this
  exact this
def overD (o : Option Int) (need : Int) : Bool := match o with
  | none => false
  | some l => decide (l < need)
theorem over_ev {f fb : FE} {ρ : EV.Env} {o : Option Int} {n : Int} (h : Ev f ρ (optD o)) (hb : Ev fb ρ (.int n)) : Ev (vAnd (v2 notNonD f (vC .non)) (v2 ltD f fb)) ρ (.bl (overD o n)) := by
  cases o with
  | none =>
    have := Ev.andP (P := False) (Q := False) (iP := instDecidableFalse) (iQ := instDecidableFalse) (fa := v2 notNonD f (vC .non)) (fb := v2 ltD f fb) (Ev.v2 h Ev.c rfl) fun h => h.elim
    exact this
  | some l =>
    have := Ev.andP (P := True) (Q := l < n) (fa := v2 notNonD f (vC .non)) (Ev.v2 h Ev.c rfl) fun _ => Ev.lt h hb
    have e : decide (True ∧ l < n) = overD (some l) n := by simp [overD]
    rw [e] at this
    exact this
theorem any_int (x : Int) : ∀ G : List Int, ((G.map D.int).any fun z => D.eqv z (.int x)) = decide (x ∈ G)
  | [] => by simp
  | g :: G => by
    rw [List.map_cons, List.any_cons, any_int x G]
    simp only [D.eqv]
    rw [Bool.eq_iff_iff]
    simp only [Bool.or_eq_true, beq_iff_eq, decide_eq_true_eq, List.mem_cons]
    constructor
    · rintro (h | h)
      · exact .inl h.symm
      · exact .inr h
    · rintro (h | h)
      · exact .inl h.symm
      · exact .inr h
theorem in_ints {f fb : FE} {ρ : EV.Env} {x : Int} {G : List Int} {V : D} (ha : Ev f ρ (.int x)) (hb : Ev fb ρ V) (hV : V = .lst (G.map D.int) ∨ V = .tup (G.map D.int)) : Ev (v2 inD f fb) ρ (.bl (decide (x ∈ G))) := by
  have := Ev.in_ ha hb hV (pl_int 8 x) (pls_map (pl_int 8) G)
  rw [any_int] at this
  exact this
def mE (p : Int × Int) (s : Int) : Int := if s = 0 then p.1 else p.2
theorem lets_bits {l : List Int} (h : l ∈ lets4) : ∀ s ∈ l, s = 0 ∨ s = 1 := by
  simp only [lets4, List.mem_cons, List.not_mem_nil, or_false] at h
  rcases h with rfl | rfl | rfl | rfl <;> simp
theorem pair_at {f fb : FE} {ρ : EV.Env} {p : Int × Int} {s : Int} (ha : Ev f ρ (pairD p)) (hb : Ev fb ρ (.int s)) (hs : s = 0 ∨ s = 1) : Ev (v2 ixD f fb) ρ (.int (mE p s)) := by
  rcases hs with rfl | rfl
  · exact Ev.ixT (ds := [.int p.1, .int p.2]) ha hb (by omega) rfl
  · exact Ev.ixT (ds := [.int p.1, .int p.2]) ha hb (by omega) rfl
theorem filterMap_if {α : Type} (f : α → D) (q : α → Prop) [DecidablePred q] (xs : List α) : xs.filterMap (fun x => if q x then some (f x) else none) = (xs.filter fun x => decide (q x)).map f := by
  induction xs with
  | nil => rfl
  | cons x xs ih =>
    by_cases h : q x
    · simp [List.filterMap_cons, List.filter_cons, h, ih]
    · simp [List.filterMap_cons, List.filter_cons, h, ih]
def addO : Option Int → Option Int → Option Int
  | some a, some b => some (a + b)
  | _, _ => none
theorem sem_retL {n : Nat} {g : FS} {ds xs : List D} (h : Run g (ds.map Sl.v ++ List.replicate (n - ds.length) Sl.no) fun o => o = .rl xs) : semL n g ds = some (.ok xs) := by
  obtain ⟨o, e, rfl⟩ := h
  unfold semL
  rw [e]
theorem NNs.snoc {n : Nat} {cs : List Int} (h : NNs n cs) {c : Int} (hc : 0 ≤ c) : NNs (n + 1) (cs ++ [c]) := ⟨by simp [h.1], fun x hx => by
  rcases List.mem_append.mp hx with hx | hx
  · exact h.2 x hx
  · rw [List.mem_singleton.mp hx]; exact hc⟩
theorem map_snoc {α : Type} (A : α → D) (xs : List α) (x : α) : xs.map A ++ [A x] = (xs ++ [x]).map A := by rw [List.map_append]; rfl
theorem WOk.setLow {mills : Int} {ps : List (Int × Int)} {low : List Int} {high : List (Option Int)} {lets : List (List Int)} (w : WOk mills ps low high lets) (k : Nat) {c : Int} (hc : 0 ≤ c) : WOk mills ps (low.set k c) high lets := { w with lo := w.lo.set hc }
theorem WOk.setHigh {mills : Int} {ps : List (Int × Int)} {low : List Int} {high : List (Option Int)} {lets : List (List Int)} (w : WOk mills ps low high lets) (k : Nat) {o : Option Int} (ho : Pos o) : WOk mills ps low (high.set k o) lets :=
  { w with
    hl := by rw [List.length_set]; exact w.hl
    hp := fun h hm => by
      rcases List.mem_or_eq_of_mem_set hm with hm | hm
      · exact w.hp h hm
      · rw [hm]; exact ho }
theorem WOk.setLet {mills : Int} {ps : List (Int × Int)} {low : List Int} {high : List (Option Int)} {lets : List (List Int)} (w : WOk mills ps low high lets) (k : Nat) {l : List Int} (h4 : l ∈ lets4) : WOk mills ps low high (lets.set k l) :=
  { w with
    ll := by rw [List.length_set]; exact w.ll
    lp := fun h hm => by
      rcases List.mem_or_eq_of_mem_set hm with hm | hm
      · exact w.lp h hm
      · rw [hm]; exact h4 }
theorem Pos.some {c : Int} (h : 0 ≤ c) : Pos (some c) := fun x e => by cases e; exact h
theorem pures_map {α : Type} {A : α → D} (h : ∀ x, (A x).pure = true) (xs : List α) : D.pures (xs.map A) = true := pures_all.mpr fun d hd => by
  obtain ⟨x, _, rfl⟩ := List.mem_map.mp hd
  exact h x
theorem at_map_range {α : Type} [Inhabited α] (f : Nat → α) (n k : Nat) (h : k < n) : at_ ((List.range n).map f) (k : Int) = f k := by
  unfold at_
  rw [List.getD_eq_getElem?_getD, List.getElem?_map]
  have : (k : Int).toNat = k := by omega
  rw [this, List.getElem?_range h]
  rfl
/-- the last one -/
theorem Ev.lastT {fa : FE} {ρ : EV.Env} {xs : List Int} (ha : Ev fa ρ (.tup (xs.map D.int))) (h : 0 < xs.length) : Ev (v2 ixD fa (v1 negD (vC (.int 1)))) ρ (.int (at_ xs ((xs.length : Int) - 1))) := by
  refine Ev.v2 ha (Ev.neg Ev.c) ?_
  show atI (xs.map D.int) (-1) = _
  unfold atI ixN
  rw [List.length_map, if_neg (by omega), if_pos (by omega)]
  show (xs.map D.int)[((-1 : Int) + (xs.length : Int)).toNat]? = _
  rw [List.getElem?_map, show ((-1 : Int) + (xs.length : Int)) = (xs.length : Int) - 1 by omega, at_get (by omega) (by omega)]
  rfl
theorem WOk.high {mills : Int} {ps : List (Int × Int)} {low : List Int} {high high' : List (Option Int)} {lets : List (List Int)} (w : WOk mills ps low high lets) (h1 : high'.length = mills.toNat) (h2 : ∀ h ∈ high', Pos h) : WOk mills ps low high' lets := { w with hl := h1, hp := h2 }
theorem cut_map (A : Int → D) (xs : List Int) (lo hi : Option Int) : cutD (xs.map A) lo hi = ((xs.drop (HT.sIx xs.length 0 lo)).take (HT.sIx xs.length xs.length hi - HT.sIx xs.length 0 lo)).map A := by
  unfold cutD
  rw [List.length_map, List.map_take, List.map_drop]
theorem slice_upto {f fk : FE} {ρ : EV.Env} {xs : List Int} {k : Int} (h : Ev f ρ (letD xs)) (hk : Ev fk ρ (.int k)) (h0 : 0 ≤ k) : Ev (vSlice f oNone (oSome fk)) ρ (letD (xs.take k.toNat)) := by
  unfold Ev vSlice
  rw [h]
  unfold oNone oSome
  rw [hk]
  show some (R.ok (D.tup (cutD (xs.map D.int) none (some k)))) = _
  rw [cut_map]
  have e : HT.sIx xs.length xs.length (some k) = min k.toNat xs.length := by
    show (if k < 0 then _ else _) = _
    rw [if_neg (by omega)]
  rw [e]
  show some (R.ok (D.tup (((xs.drop 0).take (min k.toNat xs.length - 0)).map D.int))) = _
  rw [List.drop_zero, Nat.sub_zero]
  congr 4
  rcases Nat.le_total k.toNat xs.length with h | h
  · rw [Nat.min_eq_left h]
  · rw [Nat.min_eq_right h, List.take_of_length_le h, List.take_length]
theorem slice_from {f fk : FE} {ρ : EV.Env} {xs : List Int} {k : Int} (h : Ev f ρ (letD xs)) (hk : Ev fk ρ (.int k)) (h0 : 0 ≤ k) : Ev (vSlice f (oSome fk) oNone) ρ (letD (xs.drop k.toNat)) := by
  unfold Ev vSlice
  rw [h]
  unfold oNone oSome
  rw [hk]
  show some (R.ok (D.tup (cutD (xs.map D.int) (some k) none))) = _
  rw [cut_map]
  have e : HT.sIx xs.length 0 (some k) = min k.toNat xs.length := by
    show (if k < 0 then _ else _) = _
    rw [if_neg (by omega)]
  rw [e]
  show some (R.ok (D.tup (((xs.drop (min k.toNat xs.length)).take (xs.length - min k.toNat xs.length)).map D.int))) = _
  congr 4
  rcases Nat.le_total k.toNat xs.length with h | h
  · rw [Nat.min_eq_left h, List.take_of_length_le (by rw [List.length_drop]; omega)]
  · rw [Nat.min_eq_right h, List.drop_length, List.drop_of_length_le h, List.take_nil]
theorem tup_map {f : FE} {ρ : EV.Env} {xs ys : List Int} {fb : FE} (ha : Ev f ρ (letD xs)) (hb : Ev fb ρ (letD ys)) (h : xs.length + ys.length ≤ 100000) : Ev (v2 addD f fb) ρ (letD (xs ++ ys)) := by
  show Ev _ _ (.tup ((xs ++ ys).map D.int))
  rw [List.map_append]
  exact Ev.addT ha hb (by rw [List.length_map, List.length_map]; exact h)
/-- a list or a tuple of the numbers -/
def SeqI (V : D) (ys : List Int) : Prop := V = .lst (ys.map D.int) ∨ V = .tup (ys.map D.int)
theorem ints_map : ∀ xs : List Int, intsD (xs.map D.int) = some xs
  | [] => rfl
  | x :: xs => by
    rw [List.map_cons, intsD, ints_map xs]
    rfl
theorem SeqI.seq {V : D} {ys : List Int} (h : SeqI V ys) : seqD V = some (ys.map D.int) := by rcases h with rfl | rfl <;> rfl
theorem EvL.asc {f : FE} {ρ : EV.Env} {V : D} {ys : List Int} (h : Ev f ρ V) (hV : SeqI V ys) (hl : ys.length ≤ 63) : EvL (nAsc f) ρ ((ascI ys).map D.int) := by
  unfold EvL nAsc
  rw [h]
  show ((seqD V).bind intsD).bind _ = _
  rw [hV.seq]
  show (intsD (ys.map D.int)).bind _ = _
  rw [ints_map]
  show (if ys.length ≤ 63 then _ else _) = _
  rw [if_pos hl]
variable {mills : Int} {ps : List (Int × Int)} {low : List Int} {high : List (Option Int)} {lets : List (List Int)} in
theorem addO_none : ∀ xs : List (Option Int), xs.foldl addO none = none
  | [] => rfl
  | x :: xs => by
    rw [List.foldl_cons]
    show xs.foldl addO none = none
    exact addO_none xs
variable {mills : Int} {ps : List (Int × Int)} {low : List Int} {high : List (Option Int)} {lets : List (List Int)} in
theorem addO_fold : ∀ (xs : List (Option Int)) (a : Int), none ∈ xs → xs.foldl addO (some a) = none
  | [], _, h => by simp at h
  | none :: xs, a, _ => addO_none xs
  | some x :: xs, a, h => by
    rw [List.foldl_cons]
    exact addO_fold xs (a + x) (by simpa using h)
variable {mills : Int} {ps : List (Int × Int)} {low : List Int} {high : List (Option Int)} {lets : List (List Int)} in
theorem addO_sum : ∀ (xs : List (Option Int)) (a : Int), none ∉ xs → ∃ is : List Int, xs = is.map some ∧ xs.foldl addO (some a) = some (a + is.sum)
  | [], a, _ => ⟨[], rfl, by simp⟩
  | none :: xs, a, h => by simp at h
  | some x :: xs, a, h => by
    obtain ⟨is, e, q⟩ := addO_sum xs (a + x) (by simpa using h)
    refine ⟨x :: is, by rw [List.map_cons, e], ?_⟩
    rw [List.foldl_cons]
    show xs.foldl addO (some (a + x)) = _
    rw [q, List.sum_cons, Int.add_assoc]
variable {mills : Int} {ps : List (Int × Int)} {low : List Int} {high : List (Option Int)} {lets : List (List Int)} in
theorem any_non : ∀ xs : List (Option Int), ((xs.map optD).any fun z => D.eqv z .non) = decide (none ∈ xs)
  | [] => by simp
  | none :: xs => by simp [optD, D.eqv]
  | some x :: xs => by
    rw [List.map_cons, List.any_cons, any_non xs]
    simp [optD, D.eqv]
theorem ne_self {fa fb : FE} {ρ : EV.Env} {d : D} (ha : Ev fa ρ d) (hb : Ev fb ρ d) (hp : D.pl 8 d = true) : Ev (v2 neD fa fb) ρ (.bl (decide False)) := by
  have := Ev.ne ha hb hp hp
  rw [eqv_refl 8 _ hp] at this
  exact this
theorem eq_self {fa fb : FE} {ρ : EV.Env} {d : D} (ha : Ev fa ρ d) (hb : Ev fb ρ d) (hp : D.pl 8 d = true) : Ev (v2 eqD fa fb) ρ (.bl (decide True)) := by
  have := Ev.eq ha hb hp hp
  rw [eqv_refl 8 _ hp] at this
  exact this
theorem over_ev2 {f fb : FE} {ρ : EV.Env} {o : Option Int} {n : Int} (h : Ev f ρ (optD o)) (hb : Ev fb ρ (.int n)) : Ev (vAnd (v2 notNonD f (vC .non)) (v2 gtD fb f)) ρ (.bl (overD o n)) := by
  cases o with
  | none =>
    have := Ev.andP (P := False) (Q := False) (iP := instDecidableFalse) (iQ := instDecidableFalse) (fa := v2 notNonD f (vC .non)) (fb := v2 gtD fb f) (Ev.v2 h Ev.c rfl) fun h => h.elim
    exact this
  | some l =>
    have := Ev.andP (P := True) (Q := l < n) (fa := v2 notNonD f (vC .non)) (Ev.v2 h Ev.c rfl) fun _ => Ev.gt hb h
    have e : decide (True ∧ l < n) = overD (some l) n := by simp [overD]
    rw [e] at this
    exact this
theorem SeqI.pl {V : D} {ys : List Int} (h : SeqI V ys) : D.pl 7 V = true := by
  rcases h with rfl | rfl
  · exact pl_lst (n := 6) (pls_map (pl_int 6) ys)
  · exact pl_tup (n := 6) (pls_map (pl_int 6) ys)
theorem SeqI.list {V : D} {ys : List Int} (h : SeqI V ys) {f : FE} {ρ : EV.Env} (e : Ev f ρ V) : Ev (vL (nCall listD (aCons f (aNil)))) ρ (.lst (ys.map D.int)) := by
  rcases h with rfl | rfl
  · exact Ev.vL (EvL.listL e)
  · exact Ev.vL (EvL.listT e)
variable {mills : Int} {ps : List (Int × Int)} {low : List Int} {high : List (Option Int)} {lets : List (List Int)} in
theorem ne_bl {f fb : FE} {ρ : EV.Env} {b : Bool} (h : Ev f ρ (.bl b)) (hb : Ev fb ρ (.bl b)) : Ev (v2 neD f fb) ρ (.bl (decide False)) := ne_self h hb (by cases b <;> rfl)
def LotOk (mills : Int) (G : List Int) : Prop := ∀ x ∈ G, 0 ≤ x ∧ x < mills
/-- the mills of a test, rising -/
theorem pick_ev {fm ft : FE} {v : Nat} {ρ : EV.Env} {mills : Int} (q : Nat → Prop) [DecidablePred q] (hm : Ev fm ρ (.int mills)) (m0 : 0 ≤ mills) (m2 : mills ≤ 24) (ht : ∀ k : Nat, k < mills.toNat → Ev ft ((mask (wipeE ρ [v])).set v (.v (.int (k : Nat)))) (.bl (decide (q k)))) (hv : ∀ d, Ev (vVar v) ((mask (wipeE ρ [v])).set v (.v d)) d) :
    ∃ X : List Int, EvL (nLc (iRange1 fm) (nmG v) ft (vVar v) [v]) ρ (X.map D.int) ∧ LotOk mills X ∧ X.length ≤ 24 := by
  have h := EvL.lc (fi := iRange1 fm) (fg := nmG v) (ft := ft) (fe := vVar v) (vs := [v]) (ρ := ρ) (List.range mills.toNat) (fun j => D.int ((j : Nat) : Int)) (fun j => if q j then some (.int (j : Nat)) else none) (by
    have := EvL.range1 (f := fm) (ρ := ρ) (j := mills) hm (by omega)
    rw [range0_map] at this
    exact this) (by rw [List.length_range]; omega) fun j hj => item_if rfl (ht j (List.mem_range.mp hj)) fun _ => hv _
  rw [filterMap_if (fun j : Nat => D.int (j : Nat)) q] at h
  refine ⟨((List.range mills.toNat).filter fun j : Nat => decide (q j)).map fun j : Nat => (j : Int), ?_, fun x hx => ?_, ?_⟩
  · rw [List.map_map]
    exact h
  · obtain ⟨j, hj, rfl⟩ := List.mem_map.mp hx
    have := List.mem_range.mp (List.mem_filter.mp hj).1
    omega
  · rw [List.length_map]
    refine Nat.le_trans (List.length_filter_le _ _) ?_
    rw [List.length_range]
    omega
end LW
end

section
set_option maxHeartbeats 4000000
namespace LW
open PySem L2 EV
local macro_rules | `(tactic| get_elem_tactic_extensible) => `(tactic| first
  | ((with_reducible apply Ev.var); exact rfl)
  | with_reducible exact Ev.c
  | assumption
  | ((with_reducible apply Ev.add) <;> get_elem_tactic_extensible)
  | ((with_reducible apply Ev.sub) <;> get_elem_tactic_extensible)
  | ((with_reducible apply Ev.mulR) <;> get_elem_tactic_extensible)
  | ((with_reducible apply Ev.mulL) <;> get_elem_tactic_extensible)
  | ((with_reducible apply Ev.mod) <;> get_elem_tactic_extensible)
  | ((with_reducible apply Ev.fdiv) <;> get_elem_tactic_extensible)
  | ((with_reducible apply Ev.pow) <;> get_elem_tactic_extensible)
  | ((with_reducible apply Ev.neg) <;> get_elem_tactic_extensible)
  | ((with_reducible apply Ev.lt) <;> get_elem_tactic_extensible)
  | ((with_reducible apply Ev.le) <;> get_elem_tactic_extensible)
  | ((with_reducible apply Ev.gt) <;> get_elem_tactic_extensible)
  | ((with_reducible apply Ev.ge) <;> get_elem_tactic_extensible)
  | ((with_reducible apply Ev.eqI) <;> get_elem_tactic_extensible)
  | ((with_reducible apply Ev.neI) <;> get_elem_tactic_extensible)
  | ((with_reducible apply Ev.isN) <;> get_elem_tactic_extensible)
  | ((with_reducible apply Ev.notN) <;> get_elem_tactic_extensible)
  | ((with_reducible apply Ev.notP) <;> get_elem_tactic_extensible)
  | ((with_reducible apply Ev.andP) <;> get_elem_tactic_extensible)
  | ((with_reducible apply Ev.orP) <;> get_elem_tactic_extensible)
  | ((with_reducible apply Ev.int_) <;> get_elem_tactic_extensible)
  | ((with_reducible apply Ev.intB) <;> get_elem_tactic_extensible)
  | ((with_reducible apply Ev.lenL) <;> get_elem_tactic_extensible)
  | ((with_reducible apply Ev.lenT) <;> get_elem_tactic_extensible)
  | ((with_reducible apply Ev.lenS) <;> get_elem_tactic_extensible)
  | ((with_reducible apply Ev.min_) <;> get_elem_tactic_extensible)
  | ((with_reducible apply Ev.max_) <;> get_elem_tactic_extensible)
  | ((with_reducible apply Ev.abs_) <;> get_elem_tactic_extensible)
  | ((with_reducible apply Ev.tupleL) <;> get_elem_tactic_extensible)
  | ((with_reducible apply Ev.tupleT) <;> get_elem_tactic_extensible)
  | ((with_reducible apply EvL.listL) <;> get_elem_tactic_extensible)
  | ((with_reducible apply EvL.listT) <;> get_elem_tactic_extensible)
  | ((with_reducible apply Ev.ixL) <;> get_elem_tactic_extensible)
  | ((with_reducible apply Ev.ixT) <;> get_elem_tactic_extensible)
  | ((with_reducible apply Ev.ixM) <;> get_elem_tactic_extensible)
  | ((with_reducible apply Ev.ixMT) <;> get_elem_tactic_extensible)
  | ((with_reducible apply Ev.tup) <;> get_elem_tactic_extensible)
  | ((with_reducible apply Ev.vL) <;> get_elem_tactic_extensible)
  | with_reducible exact EvL.nil
  | ((with_reducible apply EvL.cons) <;> get_elem_tactic_extensible)
  | ((with_reducible apply EvL.lenOk) <;> get_elem_tactic_extensible)
  | ((with_reducible apply EvL.range1) <;> get_elem_tactic_extensible)
  | ((with_reducible apply EvL.seqL) <;> get_elem_tactic_extensible)
  | ((with_reducible apply EvL.seqT) <;> get_elem_tactic_extensible)
  | ((with_reducible apply EvL.seqS) <;> get_elem_tactic_extensible)
  | (intro; get_elem_tactic_extensible)
  | exact (show GetElem?.getElem? (List.cons _ _) _ = some _ from rfl)
  | omega
  | (simp only [List.length_map, List.length_append, List.length_replicate, List.length_cons, List.length_nil, List.length_range] <;> omega))
section
variable {mills : Int} {ps : List (Int × Int)} {low : List Int} {high : List (Option Int)} {lets : List (List Int)}
theorem law_cell_ok (ns : List Int) (k : Int) (hk : 0 ≤ k) : ∃ z : Int, sem_law_cell [.scr ns, .int k] = some (.ok (.int z)) := by
  suffices H : Run g_law_cell [.v (.scr ns), .v (.int k), .no, .no] (Ret fun d => ∃ z : Int, d = .int z) by
    obtain ⟨d, h, z, rfl⟩ := sem_ret (n := 4) (ds := [.scr ns, .int k]) H
    exact ⟨z, h⟩
  refine Run.seq (Run.ifP (by get_elem_tactic_extensible) (fun h => ?_) fun h => ?_)
  · refine Run.ret (Ev.ixS (by get_elem_tactic_extensible) (by get_elem_tactic_extensible) hk (at_get hk h)) ⟨_, rfl⟩
  refine Run.next (Run.seq (Run.set (by get_elem_tactic_extensible) ?_))
  refine Run.seq (Run.for (fun _ ρ => ∃ (s : Int) (x : Sl), 0 ≤ s ∧ s < 1000003 ∧ ρ = [.v (.scr ns), .v (.int k), .v (.int s), x]) (by get_elem_tactic_extensible) ⟨17, .no, by omega, by omega, rfl⟩ (fun j d ρ hd hI => ?_) fun ρ hI => ?_)
  · obtain ⟨s, x, s0, s1, rfl⟩ := hI
    rw [List.getElem?_map] at hd
    obtain ⟨c, _, rfl⟩ := Option.map_eq_some_iff.mp hd
    exact ⟨_, rfl, Run.set (by get_elem_tactic_extensible) ⟨_, _, by omega, by omega, rfl⟩⟩
  · obtain ⟨s, x, s0, s1, rfl⟩ := hI
    exact Run.ret (by get_elem_tactic_extensible) ⟨_, rfl⟩

theorem law_digits_ok (z : Int) (sizes : List Int) (hs : ∀ s ∈ sizes, 0 < s ∧ s < 1073741824) (hl : sizes.length ≤ 1000) : ∃ row : List Int, sem_law_digits [.int z, .lst (sizes.map D.int)] = some (.ok (.lst (row.map D.int))) ∧ RowOk row sizes := by
  suffices H : Run g_law_digits [.v (.int z), .v (.lst (sizes.map D.int)), .no, .no, .no, .no, .no, .no] (Ret fun d => ∃ row : List Int, d = .lst (row.map D.int) ∧ RowOk row sizes) by
    obtain ⟨d, h, row, rfl, q⟩ := sem_ret (n := 8) (ds := [.int z, .lst (sizes.map D.int)]) H
    exact ⟨row, h, q⟩
  have at_s : ∀ k : Nat, k < sizes.length → 0 < at_ sizes k ∧ at_ sizes k < 1073741824 := fun k hk => hs _ (at_mem (by omega) (by omega))
  refine Run.seq (Run.own (ds := []) (by get_elem_tactic_extensible) (by simp) (Run.seq (Run.set (by get_elem_tactic_extensible) (Run.seq (Run.ifP (by get_elem_tactic_extensible) (fun h => ?_) fun h => ?_)))))
  · refine Run.seq (Run.set (by get_elem_tactic_extensible) (Run.seq (Run.for (fun n ρ => ∃ (row : List Int) (r : Int) (x : Sl), row.length = n ∧ (∀ k : Int, 0 ≤ k → k < row.length → 0 ≤ at_ row k ∧ at_ row k < at_ sizes k) ∧
      ρ = [.v (.int z), .v (.lst (sizes.map D.int)), .own (row.map D.int), .v (.int r), x, .no, .no, .no]) (by get_elem_tactic_extensible) ⟨[], _, .no, rfl, fun k h0 h1 => by simp at h1; omega, rfl⟩ (fun j d ρ hd hI => ?_) fun ρ hI => ?_)))
    · obtain ⟨row, r, x, e1, e2, rfl⟩ := hI
      rw [List.getElem?_map] at hd
      obtain ⟨c, hc, rfl⟩ := Option.map_eq_some_iff.mp hd
      have hj := (List.getElem?_eq_some_iff.mp hc).1
      have hb := at_s j hj
      have ec : at_ sizes j = c := by
        have := at_get (xs := sizes) (i := (j : Int)) (by omega) (by omega)
        rw [show ((j : Int)).toNat = j by omega, hc] at this
        exact (Option.some.inj this).symm
      rw [ec] at hb
      have g0 := Int.emod_nonneg r (show c ≠ 0 by omega)
      have g1 := Int.emod_lt_of_pos r hb.1
      refine ⟨_, rfl, Run.seq (Run.app (d := .int (r % c)) rfl (by get_elem_tactic_extensible) (by simp; omega) (Run.set (by get_elem_tactic_extensible) ?_))⟩
      obtain ⟨q1, q2⟩ := row_grow e1 e2 (z := r % c) (by rw [ec]; omega)
      exact ⟨row ++ [r % c], _, _, q1, q2, by rw [List.map_append]; rfl⟩
    · obtain ⟨row, r, x, e1, e2, rfl⟩ := hI
      refine Run.rel (Run.ret (by get_elem_tactic_extensible) ⟨row, rfl, by rw [e1, List.length_map], e2⟩)
  · refine Run.next (Run.seq (Run.set (by get_elem_tactic_extensible) (Run.seq (Run.for (fun n ρ => ∃ (row : List Int) (s : Int) (x y : Sl), 0 ≤ s ∧ s < 2147483647 ∧ row.length = n ∧ (∀ k : Int, 0 ≤ k → k < row.length → 0 ≤ at_ row k ∧ at_ row k < at_ sizes k) ∧
      ρ = [.v (.int z), .v (.lst (sizes.map D.int)), .own (row.map D.int), .v (.int z), .no, .v (.int s), x, y]) (EvL.range1 (Ev.lenL (Ev.var rfl)) (by rw [List.length_map]; omega)) ⟨[], _, .no, .no, by omega, by omega, rfl, fun k h0 h1 => by simp at h1; omega, rfl⟩ (fun j d ρ hd hI => ?_) fun ρ hI => ?_))))
    · obtain ⟨row, s, x, y, s0, s1, e1, e2, rfl⟩ := hI
      obtain ⟨rfl, hj⟩ := range0_get hd
      have hj : j < sizes.length := by rw [List.length_map] at hj; omega
      have hb := at_s j hj
      refine ⟨_, rfl, Run.seq (Run.set (by get_elem_tactic_extensible) (Run.seq (Run.set (by get_elem_tactic_extensible) ?_)))⟩
      have w0 := Int.emod_nonneg ((s * 48271 + 974711 * (j : Int) + 12345) % 2147483647 * ((s * 48271 + 974711 * (j : Int) + 12345) % 2147483647 / 65537 + 3) % 2147483629 / 19) (show at_ sizes j ≠ 0 by omega)
      have w1 := Int.emod_lt_of_pos ((s * 48271 + 974711 * (j : Int) + 12345) % 2147483647 * ((s * 48271 + 974711 * (j : Int) + 12345) % 2147483647 / 65537 + 3) % 2147483629 / 19) hb.1
      refine Run.app rfl (by get_elem_tactic_extensible) (by simp; omega) ?_
      obtain ⟨q1, q2⟩ := row_grow e1 e2 ⟨w0, w1⟩
      exact ⟨_, (s * 48271 + 974711 * (j : Int) + 12345) % 2147483647, _, _, by omega, by omega, q1, q2, by rw [List.map_append]; rfl⟩
    · obtain ⟨row, s, x, y, s0, s1, e1, e2, rfl⟩ := hI
      refine Run.rel (Run.ret (by get_elem_tactic_extensible) ⟨row, rfl, by rw [e1, rangeD_length]; simp, e2⟩)
def szOk (sizes : List Int) : Bool := sizes.all (fun s => decide (0 < s) && decide (s < 1073741824)) && decide (sizes.length ≤ 1000)
theorem dig_cell {fs fk fz : FE} {ρ : EV.Env} {ns : List Int} {k : Int} (sizes : List Int) (hs : Ev fs ρ (.scr ns)) (hk : Ev fk ρ (.int k)) (h0 : 0 ≤ k) (hz : Ev fz ρ (.lst (sizes.map D.int))) (hp : szOk sizes = true) :
    ∃ row : List Int, Ev (vCallP 2 0 [0, 1] sem_law_digits [] (aCons (vCallP 2 0 [0, 1] sem_law_cell [] (aCons fs (aCons fk (aNil))) (aNil)) (aCons fz (aNil))) (aNil)) ρ (.lst (row.map D.int)) ∧ RowOk row sizes := by
  obtain ⟨z, hc⟩ := law_cell_ok ns k h0
  unfold szOk at hp
  rw [Bool.and_eq_true] at hp
  obtain ⟨row, hd, ok⟩ := law_digits_ok z sizes (fun s h => by
    have := List.all_eq_true.mp hp.1 s h
    rw [Bool.and_eq_true] at this
    exact ⟨of_decide_eq_true this.1, of_decide_eq_true this.2⟩) (of_decide_eq_true hp.2)
  exact ⟨row, Ev.callP (ds := [.int z, .lst (sizes.map D.int)]) (EvL.cons (Ev.callP (ds := [.scr ns, .int k]) (EvL.cons hs (EvL.cons hk .nil)) .nil ⟨rfl, rfl⟩ hc) (EvL.cons hz .nil)) .nil ⟨rfl, rfl⟩ hd, ok⟩
theorem row_le {row sizes : List Int} (ro : RowOk row sizes) (b : Int) (h : sizes.all (fun s => decide (s ≤ b)) = true) {k : Int} (h0 : 0 ≤ k) (h1 : k < sizes.length) : 0 ≤ at_ row k ∧ at_ row k < b := by
  have q := ro.2 k h0 (by rw [ro.1]; exact h1)
  have := of_decide_eq_true (List.all_eq_true.mp h _ (at_mem (xs := sizes) h0 h1))
  omega
theorem dig_run {fs fk fz : FE} {ρ : EV.Env} {ns : List Int} {k : Int} {i : Nat} {g2 : FS} {Q : Out → Prop} (sizes : List Int) (hs : Ev fs ρ (.scr ns)) (hk : Ev fk ρ (.int k)) (h0 : 0 ≤ k) (hz : Ev fz ρ (.lst (sizes.map D.int))) (hp : szOk sizes = true)
    (h : ∀ row : List Int, RowOk row sizes → Run g2 (ρ.set i (.v (.lst (row.map D.int)))) Q) :
    Run (gSeq (gSet i (vCallP 2 0 [0, 1] sem_law_digits [] (aCons (vCallP 2 0 [0, 1] sem_law_cell [] (aCons fs (aCons fk (aNil))) (aNil)) (aCons fz (aNil))) (aNil))) g2) ρ Q := by
  obtain ⟨row, e, ok⟩ := dig_cell sizes hs hk h0 hz hp
  exact Run.sset e (h row ok)
end
end LW
end

section
set_option maxHeartbeats 4000000
namespace LW
open PySem L2 EV
local macro_rules | `(tactic| get_elem_tactic_extensible) => `(tactic| first
  | ((with_reducible apply Ev.var); exact rfl)
  | with_reducible exact Ev.c
  | assumption
  | ((with_reducible apply Ev.add) <;> get_elem_tactic_extensible)
  | ((with_reducible apply Ev.sub) <;> get_elem_tactic_extensible)
  | ((with_reducible apply Ev.mulR) <;> get_elem_tactic_extensible)
  | ((with_reducible apply Ev.mulL) <;> get_elem_tactic_extensible)
  | ((with_reducible apply Ev.mod) <;> get_elem_tactic_extensible)
  | ((with_reducible apply Ev.fdiv) <;> get_elem_tactic_extensible)
  | ((with_reducible apply Ev.pow) <;> get_elem_tactic_extensible)
  | ((with_reducible apply Ev.neg) <;> get_elem_tactic_extensible)
  | ((with_reducible apply Ev.lt) <;> get_elem_tactic_extensible)
  | ((with_reducible apply Ev.le) <;> get_elem_tactic_extensible)
  | ((with_reducible apply Ev.gt) <;> get_elem_tactic_extensible)
  | ((with_reducible apply Ev.ge) <;> get_elem_tactic_extensible)
  | ((with_reducible apply Ev.eqI) <;> get_elem_tactic_extensible)
  | ((with_reducible apply Ev.neI) <;> get_elem_tactic_extensible)
  | ((with_reducible apply Ev.isN) <;> get_elem_tactic_extensible)
  | ((with_reducible apply Ev.notN) <;> get_elem_tactic_extensible)
  | ((with_reducible apply Ev.notP) <;> get_elem_tactic_extensible)
  | ((with_reducible apply Ev.andP) <;> get_elem_tactic_extensible)
  | ((with_reducible apply Ev.orP) <;> get_elem_tactic_extensible)
  | ((with_reducible apply Ev.int_) <;> get_elem_tactic_extensible)
  | ((with_reducible apply Ev.intB) <;> get_elem_tactic_extensible)
  | ((with_reducible apply Ev.lenL) <;> get_elem_tactic_extensible)
  | ((with_reducible apply Ev.lenT) <;> get_elem_tactic_extensible)
  | ((with_reducible apply Ev.lenS) <;> get_elem_tactic_extensible)
  | ((with_reducible apply Ev.min_) <;> get_elem_tactic_extensible)
  | ((with_reducible apply Ev.max_) <;> get_elem_tactic_extensible)
  | ((with_reducible apply Ev.abs_) <;> get_elem_tactic_extensible)
  | ((with_reducible apply Ev.tupleL) <;> get_elem_tactic_extensible)
  | ((with_reducible apply Ev.tupleT) <;> get_elem_tactic_extensible)
  | ((with_reducible apply EvL.listL) <;> get_elem_tactic_extensible)
  | ((with_reducible apply EvL.listT) <;> get_elem_tactic_extensible)
  | ((with_reducible apply Ev.ixL) <;> get_elem_tactic_extensible)
  | ((with_reducible apply Ev.ixT) <;> get_elem_tactic_extensible)
  | ((with_reducible apply Ev.ixM) <;> get_elem_tactic_extensible)
  | ((with_reducible apply Ev.ixMT) <;> get_elem_tactic_extensible)
  | ((with_reducible apply Ev.tup) <;> get_elem_tactic_extensible)
  | ((with_reducible apply Ev.vL) <;> get_elem_tactic_extensible)
  | with_reducible exact EvL.nil
  | ((with_reducible apply EvL.cons) <;> get_elem_tactic_extensible)
  | ((with_reducible apply EvL.lenOk) <;> get_elem_tactic_extensible)
  | ((with_reducible apply EvL.range1) <;> get_elem_tactic_extensible)
  | ((with_reducible apply EvL.seqL) <;> get_elem_tactic_extensible)
  | ((with_reducible apply EvL.seqT) <;> get_elem_tactic_extensible)
  | ((with_reducible apply EvL.seqS) <;> get_elem_tactic_extensible)
  | (intro; get_elem_tactic_extensible)
  | exact (show GetElem?.getElem? (List.cons _ _) _ = some _ from rfl)
  | omega
  | (simp only [List.length_map, List.length_append, List.length_replicate, List.length_cons, List.length_nil, List.length_range] <;> omega))
section
variable {mills : Int} {ps : List (Int × Int)} {low : List Int} {high : List (Option Int)} {lets : List (List Int)}
theorem law_valley_ok (row : List Int) (upto : Int) (hu : 0 ≤ upto) (hl : row.length = 17) (r0 : 0 ≤ at_ row 0 ∧ at_ row 0 < 24) (r1 : 0 ≤ at_ row 1 ∧ at_ row 1 < 24) : ∃ (mills : Int) (ps : List (Int × Int)), sem_law_valley [.lst (row.map D.int), .int upto] = some (.ok (.lst [.int mills, .lst (ps.map pairD), .int (at_ row 2)])) ∧ 1 ≤ mills ∧ mills ≤ 5 ∧ ps.length ≤ 7 ∧ PairsOk mills ps := by
  suffices H : Run g_law_valley [.v (.lst (row.map D.int)), .v (.int upto), .no, .no, .no, .no, .no, .no] (Ret fun d => ∃ (mills : Int) (ps : List (Int × Int)), d = .lst [.int mills, .lst (ps.map pairD), .int (at_ row 2)] ∧ 1 ≤ mills ∧ mills ≤ 5 ∧ ps.length ≤ 7 ∧ PairsOk mills ps) by
    obtain ⟨d, h, mills, ps, rfl, q⟩ := sem_ret (n := 8) (ds := [.lst (row.map D.int), .int upto]) H
    exact ⟨mills, ps, h, q⟩
  have lm : tbMills.length = 24 := rfl
  have lk : tbMany.length = 24 := rfl
  obtain ⟨m, hm, pm⟩ := tbl_get (tb := tbMills) (fun m => decide (2 ≤ m ∧ m ≤ 5)) (by decide) (i := at_ row 0 % 24) (by omega)
  obtain ⟨k, hk, pk⟩ := tbl_get (tb := tbMany) (fun m => decide (2 ≤ m ∧ m ≤ 7)) (by decide) (i := at_ row 1 % 24) (by omega)
  have pm := of_decide_eq_true pm
  have pk := of_decide_eq_true pk
  refine Run.cut (fun ρ => ρ = [.v (.lst (row.map D.int)), .v (.int upto), .v (.int m), .no, .no, .no, .no, .no]) (Run.set (Ev.ixL (ds := tbMills) (i := at_ row 0 % 24) (Ev.vL (EvL.rep (i := 2) (ds := [.int 3, .int 3, .int 4, .int 2, .int 4, .int 3, .int 5, .int 3, .int 4, .int 3, .int 2, .int 4]) (by get_elem_tactic_extensible) (by get_elem_tactic_extensible) (by simp))) (by get_elem_tactic_extensible) (by omega) hm) ⟨_, rfl, rfl⟩) fun ρ hρ => ?_
  subst hρ
  refine Run.cut (fun ρ => ∃ m, 1 ≤ m ∧ m ≤ 5 ∧ ρ = [.v (.lst (row.map D.int)), .v (.int upto), .v (.int m), .no, .no, .no, .no, .no]) (Run.ifP (by get_elem_tactic_extensible) (fun h => Run.set (by get_elem_tactic_extensible) ⟨_, rfl, 1, by omega, by omega, rfl⟩) fun h => Run.next ⟨_, rfl, m, by omega, by omega, rfl⟩) fun ρ hρ => ?_
  clear hm pm
  obtain ⟨m, m1, m5, rfl⟩ := hρ
  refine Run.cut (fun ρ => ρ = [.v (.lst (row.map D.int)), .v (.int upto), .v (.int m), .v (.int k), .no, .no, .no, .no]) (Run.set (Ev.ixL (ds := tbMany) (i := at_ row 1 % 24) (Ev.vL (EvL.rep (i := 2) (ds := [.int 4, .int 5, .int 3, .int 6, .int 5, .int 4, .int 7, .int 5, .int 4, .int 6, .int 5, .int 2]) (by get_elem_tactic_extensible) (by get_elem_tactic_extensible) (by simp))) (by get_elem_tactic_extensible) (by omega) hk) ⟨_, rfl, rfl⟩) fun ρ hρ => ?_
  subst hρ
  refine Run.cut (fun ρ => ∃ k, 0 ≤ k ∧ k ≤ 7 ∧ ρ = [.v (.lst (row.map D.int)), .v (.int upto), .v (.int m), .v (.int k), .no, .no, .no, .no]) (Run.ifP (by get_elem_tactic_extensible) (fun h => Run.set (by get_elem_tactic_extensible) ⟨_, rfl, 23 - at_ row 1, by omega, by omega, rfl⟩) fun h => Run.next ⟨_, rfl, k, by omega, by omega, rfl⟩) fun ρ hρ => ?_
  clear hk pk
  obtain ⟨k, k0, k7, rfl⟩ := hρ
  refine Run.seq (Run.own (ds := []) (by get_elem_tactic_extensible) (by simp) ?_)
  refine Run.cut (fun ρ => ∃ (ps : List (Int × Int)) (a b c : Sl), ps.length ≤ 7 ∧ PairsOk m ps ∧ ρ = [.v (.lst (row.map D.int)), .v (.int upto), .v (.int m), .v (.int k), .own (ps.map pairD), a, b, c]) ?_ fun ρ hρ => ?_
  · refine Run.ifP (by get_elem_tactic_extensible) (fun h => ?_) fun h => Run.next ⟨_, rfl, [], .no, .no, .no, by simp, fun p hp => by simp at hp, rfl⟩
    refine Run.for (fun n ρ => ∃ (ps : List (Int × Int)) (a b c : Sl), ps.length = n ∧ PairsOk m ps ∧ ρ = [.v (.lst (row.map D.int)), .v (.int upto), .v (.int m), .v (.int k), .own (ps.map pairD), a, b, c]) (EvL.range1 (Ev.min_ (by get_elem_tactic_extensible) (by get_elem_tactic_extensible)) (by omega)) ⟨[], .no, .no, .no, rfl, fun p hp => by simp at hp, rfl⟩ (fun j d ρ hd hI => ?_) fun ρ hI => ?_
    · obtain ⟨ps, a, b, c, e1, ok, rfl⟩ := hI
      obtain ⟨rfl, hj⟩ := range0_get hd
      have j7 : j < 7 := by omega
      refine ⟨_, rfl, ?_⟩
      generalize ex : at_ row (3 + 2 * (j : Int)) = x
      generalize ey : at_ row (4 + 2 * (j : Int)) = y
      have hx0 := Int.emod_nonneg x (show m ≠ 0 by omega)
      have hx1 := Int.emod_lt_of_pos x (show 0 < m by omega)
      have hy0 := Int.emod_nonneg y (show m - 1 ≠ 0 by omega)
      have hy1 := Int.emod_lt_of_pos y (show 0 < m - 1 by omega)
      obtain ⟨z0, z1, z2⟩ := mod_ne (a := x % m) (b := y % (m - 1)) (m := m) ⟨hx0, hx1⟩ ⟨hy0, hy1⟩
      have eX : Ev (v2 modD (vCall intD (aCons (v2 ixD (vVar 0) (v2 addD (vC (.int 3)) (v2 mulD (vC (.int 2)) (vVar 5)))) (aNil))) (vVar 2)) [.v (.lst (row.map D.int)), .v (.int upto), .v (.int m), .v (.int k), .own (ps.map pairD), .v (.int j), b, c] (.int (x % m)) := by
        rw [← ex]; get_elem_tactic_extensible
      refine Run.seq (Run.set eX (Run.seq (Run.set (d := .int ((x % m + 1 + y % (m - 1)) % m)) (by rw [← ey]; get_elem_tactic_extensible) ?_)))
      refine Run.cut (fun ρ => ∃ f s : Int, 0 ≤ f ∧ f < m ∧ 0 ≤ s ∧ s < m ∧ f ≠ s ∧ ρ = [.v (.lst (row.map D.int)), .v (.int upto), .v (.int m), .v (.int k), .own (ps.map pairD), .v (.int j), .v (.int f), .v (.int s)]) ?_ fun ρ hρ => ?_
      · refine Run.ifP (by get_elem_tactic_extensible) (fun h => ?_) fun h => Run.next ⟨_, rfl, _, _, hx0, hx1, z0, z1, z2, rfl⟩
        obtain ⟨w0, w1, w2⟩ := mod_ne (a := (j : Int)) (b := 0) (m := m) ⟨by omega, h.2⟩ ⟨by omega, by omega⟩
        rw [Int.add_zero] at w0 w1 w2
        exact Run.seq (Run.set (by get_elem_tactic_extensible) (Run.set (by get_elem_tactic_extensible) ⟨_, rfl, (j : Int), _, by omega, h.2, w0, w1, w2, rfl⟩))
      obtain ⟨f, s, f0, f1, s0, s1, ne, rfl⟩ := hρ
      refine Run.cut (fun ρ => ∃ f s : Int, 0 ≤ f ∧ f < m ∧ 0 ≤ s ∧ s < m ∧ f ≠ s ∧ ρ = [.v (.lst (row.map D.int)), .v (.int upto), .v (.int m), .v (.int k), .own (ps.map pairD), .v (.int j), .v (.int f), .v (.int s)]) ?_ fun ρ hρ => ?_
      · refine Run.ifP (by get_elem_tactic_extensible) (fun h => ?_) fun h => Run.next ⟨_, rfl, _, _, f0, f1, s0, s1, ne, rfl⟩
        have hj1 : 1 ≤ j := by omega
        have hm := ok _ (at_mem (xs := ps) (i := (j : Int) - 1) (by omega) (by omega))
        exact Run.seq (Run.setA (d := .int (at_ ps ((j : Int) - 1)).2) (Ev.ixT (ds := [.int (at_ ps ((j : Int) - 1)).1, .int (at_ ps ((j : Int) - 1)).2]) (Ev.ixM (A := pairD) (by get_elem_tactic_extensible) (by get_elem_tactic_extensible) (by omega) (by omega)) (by get_elem_tactic_extensible) (by omega) rfl) rfl
          (Run.setA (d := .int (at_ ps ((j : Int) - 1)).1) (Ev.ixT (ds := [.int (at_ ps ((j : Int) - 1)).1, .int (at_ ps ((j : Int) - 1)).2]) (Ev.ixM (A := pairD) (by get_elem_tactic_extensible) (by get_elem_tactic_extensible) (by omega) (by omega)) (by get_elem_tactic_extensible) (by omega) rfl) rfl
            ⟨_, rfl, _, _, hm.2.2.1, hm.2.2.2.1, hm.1, hm.2.1, Ne.symm hm.2.2.2.2, rfl⟩))
      obtain ⟨f, s, f0, f1, s0, s1, ne, rfl⟩ := hρ
      exact Run.app (xs := ps.map pairD) rfl (by get_elem_tactic_extensible) (by simp; omega) ⟨ps ++ [(f, s)], _, _, _, by simp [e1], ok.snoc ⟨f0, f1, s0, s1, ne⟩, by rw [List.map_append]; rfl⟩
    · obtain ⟨ps, a, b, c, e1, ok, rfl⟩ := hI
      refine ⟨_, rfl, ps, a, b, c, ?_, ok, rfl⟩
      rw [e1, rangeD_length]; omega
  · obtain ⟨ps, a, b, c, p7, ok, rfl⟩ := hρ
    exact Run.rel (Run.ret (by get_elem_tactic_extensible) ⟨m, ps, rfl, m1, m5, p7, ok⟩)
theorem law_fed_ok (mills : Int) (ps : List (Int × Int)) (bs : List Int) (S : D) (m1 : 1 ≤ mills) (m2 : mills ≤ 1000) (ok : PairsOk mills ps) (hp : ps.length ≤ 1000) (hb : Bits ps.length bs) (hS : S = .lst (bs.map D.int) ∨ S = .tup (bs.map D.int)) :
    ∃ cs : List Int, sem_law_fed [.int mills, .lst (ps.map pairD), S] = some (.ok (.lst (cs.map D.int))) ∧ NNs mills.toNat cs := by
  suffices H : Run g_law_fed [.v (.int mills), .v (.lst (ps.map pairD)), .v S, .no, .no, .no] (Ret fun d => ∃ cs : List Int, d = .lst (cs.map D.int) ∧ NNs mills.toNat cs) by
    obtain ⟨d, h, cs, rfl, q⟩ := sem_ret (n := 6) (ds := [.int mills, .lst (ps.map pairD), S]) H
    exact ⟨cs, h, q⟩
  have hx : ∀ (ρ : EV.Env) (j : Nat), j < ps.length → ρ[2]? = some (.v S) → ρ[4]? = some (.v (.int j)) → Ev (v2 ixD (vVar 2) (vVar 4)) ρ (.int (at_ bs j)) := fun ρ j hj h2 h4 => by
    rcases hS with rfl | rfl
    · exact Ev.ixM (A := D.int) (Ev.var h2) (Ev.var h4) (by omega) (by rw [hb.1]; omega)
    · exact Ev.ixMT (A := D.int) (Ev.var h2) (Ev.var h4) (by omega) (by rw [hb.1]; omega)
  refine Run.seq (Run.own (EvL.lcr (fun _ => .int 0) (EvL.range1 (by get_elem_tactic_extensible) (by omega)) (by omega) fun k hk => by get_elem_tactic_extensible) (by simp) ?_)
  rw [map_zero]
  refine Run.seq (Run.for (fun n ρ => ∃ (cs : List Int) (a b : Sl), NNs mills.toNat cs ∧ ρ = [.v (.int mills), .v (.lst (ps.map pairD)), .v S, .own (cs.map D.int), a, b]) (EvL.range1 (by get_elem_tactic_extensible) (by rw [List.length_map]; omega)) ⟨List.replicate mills.toNat 0, .no, .no, ⟨by simp, fun c hc => by rw [(List.mem_replicate.mp hc).2]; omega⟩, rfl⟩ (fun j d ρ hd hI => ?_) fun ρ hI => ?_)
  · obtain ⟨cs, a, b, nn, rfl⟩ := hI
    obtain ⟨rfl, hj⟩ := range0_get hd
    have hj : j < ps.length := by rw [List.length_map] at hj; omega
    have hm := ok _ (at_mem (xs := ps) (i := (j : Int)) (by omega) (by omega))
    have hbit := hb.at (k := (j : Int)) (by omega) (by omega)
    have hq : ∃ mi : Int, 0 ≤ mi ∧ mi < mills ∧ [D.int (at_ ps (j : Int)).1, D.int (at_ ps (j : Int)).2][(at_ bs (j : Int)).toNat]? = some (.int mi) := by
      rcases hbit with e | e
      · rw [e]; exact ⟨_, hm.1, hm.2.1, rfl⟩
      · rw [e]; exact ⟨_, hm.2.2.1, hm.2.2.2.1, rfl⟩
    obtain ⟨mi, i0, i1, hi⟩ := hq
    refine ⟨_, rfl, Run.seq (Run.set (d := .int mi) (Ev.ixT (ds := [D.int (at_ ps (j : Int)).1, D.int (at_ ps (j : Int)).2]) (Ev.ixM (A := pairD) (by get_elem_tactic_extensible) (by get_elem_tactic_extensible) (by omega) (by omega)) (hx _ j hj rfl rfl) (by omega) hi) ?_)⟩
    have c0 := nn.at (k := mi) i0 (by omega)
    refine Run.setIxA (xs := cs.map D.int) (k := mi) (d := .int (at_ cs mi + 1)) rfl (Ev.add (Ev.ixM (A := D.int) (by get_elem_tactic_extensible) (by get_elem_tactic_extensible) i0 (by rw [nn.1]; omega)) (by get_elem_tactic_extensible)) rfl (by get_elem_tactic_extensible) i0 (by rw [List.length_map, nn.1]; omega) ⟨cs.set mi.toNat (at_ cs mi + 1), _, _, nn.set (by omega), by rw [map_set]; rfl⟩
  · obtain ⟨cs, a, b, nn, rfl⟩ := hI
    exact Run.rel (Run.ret (by get_elem_tactic_extensible) ⟨cs, rfl, nn⟩)
end
end LW
end

section
set_option maxHeartbeats 4000000
namespace LW
open PySem L2 EV
local macro_rules | `(tactic| get_elem_tactic_extensible) => `(tactic| first
  | ((with_reducible apply Ev.var); exact rfl)
  | with_reducible exact Ev.c
  | assumption
  | ((with_reducible apply Ev.add) <;> get_elem_tactic_extensible)
  | ((with_reducible apply Ev.sub) <;> get_elem_tactic_extensible)
  | ((with_reducible apply Ev.mulR) <;> get_elem_tactic_extensible)
  | ((with_reducible apply Ev.mulL) <;> get_elem_tactic_extensible)
  | ((with_reducible apply Ev.mod) <;> get_elem_tactic_extensible)
  | ((with_reducible apply Ev.fdiv) <;> get_elem_tactic_extensible)
  | ((with_reducible apply Ev.pow) <;> get_elem_tactic_extensible)
  | ((with_reducible apply Ev.neg) <;> get_elem_tactic_extensible)
  | ((with_reducible apply Ev.lt) <;> get_elem_tactic_extensible)
  | ((with_reducible apply Ev.le) <;> get_elem_tactic_extensible)
  | ((with_reducible apply Ev.gt) <;> get_elem_tactic_extensible)
  | ((with_reducible apply Ev.ge) <;> get_elem_tactic_extensible)
  | ((with_reducible apply Ev.eqI) <;> get_elem_tactic_extensible)
  | ((with_reducible apply Ev.neI) <;> get_elem_tactic_extensible)
  | ((with_reducible apply Ev.isN) <;> get_elem_tactic_extensible)
  | ((with_reducible apply Ev.notN) <;> get_elem_tactic_extensible)
  | ((with_reducible apply Ev.notP) <;> get_elem_tactic_extensible)
  | ((with_reducible apply Ev.andP) <;> get_elem_tactic_extensible)
  | ((with_reducible apply Ev.orP) <;> get_elem_tactic_extensible)
  | ((with_reducible apply Ev.int_) <;> get_elem_tactic_extensible)
  | ((with_reducible apply Ev.intB) <;> get_elem_tactic_extensible)
  | ((with_reducible apply Ev.lenL) <;> get_elem_tactic_extensible)
  | ((with_reducible apply Ev.lenT) <;> get_elem_tactic_extensible)
  | ((with_reducible apply Ev.lenS) <;> get_elem_tactic_extensible)
  | ((with_reducible apply Ev.min_) <;> get_elem_tactic_extensible)
  | ((with_reducible apply Ev.max_) <;> get_elem_tactic_extensible)
  | ((with_reducible apply Ev.abs_) <;> get_elem_tactic_extensible)
  | ((with_reducible apply Ev.tupleL) <;> get_elem_tactic_extensible)
  | ((with_reducible apply Ev.tupleT) <;> get_elem_tactic_extensible)
  | ((with_reducible apply EvL.listL) <;> get_elem_tactic_extensible)
  | ((with_reducible apply EvL.listT) <;> get_elem_tactic_extensible)
  | ((with_reducible apply Ev.ixL) <;> get_elem_tactic_extensible)
  | ((with_reducible apply Ev.ixT) <;> get_elem_tactic_extensible)
  | ((with_reducible apply Ev.ixM) <;> get_elem_tactic_extensible)
  | ((with_reducible apply Ev.ixMT) <;> get_elem_tactic_extensible)
  | ((with_reducible apply Ev.tup) <;> get_elem_tactic_extensible)
  | ((with_reducible apply Ev.vL) <;> get_elem_tactic_extensible)
  | with_reducible exact EvL.nil
  | ((with_reducible apply EvL.cons) <;> get_elem_tactic_extensible)
  | ((with_reducible apply EvL.lenOk) <;> get_elem_tactic_extensible)
  | ((with_reducible apply EvL.range1) <;> get_elem_tactic_extensible)
  | ((with_reducible apply EvL.seqL) <;> get_elem_tactic_extensible)
  | ((with_reducible apply EvL.seqT) <;> get_elem_tactic_extensible)
  | ((with_reducible apply EvL.seqS) <;> get_elem_tactic_extensible)
  | (intro; get_elem_tactic_extensible)
  | exact (show GetElem?.getElem? (List.cons _ _) _ = some _ from rfl)
  | omega
  | (simp only [List.length_map, List.length_append, List.length_replicate, List.length_cons, List.length_nil, List.length_range] <;> omega))
section
variable {mills : Int} {ps : List (Int × Int)} {low : List Int} {high : List (Option Int)} {lets : List (List Int)}
def wD (mills : Int) (ps : List (Int × Int)) (low : List Int) (high : List (Option Int)) (lets : List (List Int)) (rest : List D) : D := .lst (.int mills :: .lst (ps.map pairD) :: .lst (low.map D.int) :: .lst (high.map optD) :: .lst (lets.map letD) :: rest)
def tbSlack : List D := [.int 0, .int 0, .int 1, .int 0, .int 1, .int 2, .int 0, .int 1]
def tbTop : List D := [.non, .int 1, .non, .int 0, .int 1, .int 2, .int 1, .non]
def tbTop2 : List D := [.int 0, .int 0, .int 0, .int 1]
theorem law_world_ok (mills : Int) (ps : List (Int × Int)) (r2 : Int) (row : List Int) (m1 : 1 ≤ mills) (m5 : mills ≤ 5) (p7 : ps.length ≤ 7) (ok : PairsOk mills ps) (hl : row.length = 25) :
    ∃ low high lets, sem_law_world [.lst [.int mills, .lst (ps.map pairD), .int r2], .lst (row.map D.int)] = some (.ok (wD mills ps low high lets [])) ∧ WOk mills ps low high lets := by
  suffices H : Run g_law_world [.v (.lst [.int mills, .lst (ps.map pairD), .int r2]), .v (.lst (row.map D.int)), .no, .no, .no, .no, .no, .no, .no, .no, .no, .no, .no] (Ret fun d => ∃ low high lets, d = wD mills ps low high lets [] ∧ WOk mills ps low high lets) by
    obtain ⟨d, h, low, high, lets, rfl, q⟩ := sem_ret (n := 13) (ds := [.lst [.int mills, .lst (ps.map pairD), .int r2], .lst (row.map D.int)]) H
    exact ⟨low, high, lets, h, q⟩
  generalize hV : D.lst [.int mills, .lst (ps.map pairD), .int r2] = V
  refine Run.sset (d := .int mills) (by subst hV; get_elem_tactic_extensible) (Run.sset (d := .lst (ps.map pairD)) (by subst hV; get_elem_tactic_extensible) ?_)
  refine Run.sown (EvL.lcr (fun k => .int (at_ row (18 + (k : Int)) % 2)) (EvL.range1 (by get_elem_tactic_extensible) (by rw [List.length_map]; omega)) (by rw [List.length_map]; omega) fun k hk => by
    rw [List.length_map] at hk
    get_elem_tactic_extensible) (by simp) ?_
  have eb : (List.range (Int.toNat ((ps.map pairD).length : Nat))).map (fun k : Nat => D.int (at_ row (18 + (k : Int)) % 2)) = ((List.range ps.length).map fun k : Nat => at_ row (18 + (k : Int)) % 2).map D.int := by
    rw [List.length_map, List.map_map]; rfl
  rw [eb]
  have hb0 : Bits ps.length ((List.range ps.length).map fun k : Nat => at_ row (18 + (k : Int)) % 2) := ⟨by simp, fun b hb => by
    obtain ⟨k, _, rfl⟩ := List.mem_map.mp hb
    omega⟩
  generalize (List.range ps.length).map (fun k : Nat => at_ row (18 + (k : Int)) % 2) = bs0 at hb0 ⊢
  refine Run.cut (fun ρ => ∃ (bs : List Int) (a : Sl), Bits ps.length bs ∧ ρ = [.v V, .v (.lst (row.map D.int)), .v (.int mills), .v (.lst (ps.map pairD)), .own (bs.map D.int), a, .no, .no, .no, .no, .no, .no, .no]) ?_ fun ρ hρ => ?_
  · refine Run.for (fun n ρ => ∃ (bs : List Int) (a : Sl), Bits ps.length bs ∧ ρ = [.v V, .v (.lst (row.map D.int)), .v (.int mills), .v (.lst (ps.map pairD)), .own (bs.map D.int), a, .no, .no, .no, .no, .no, .no, .no]) (EvL.range1 (by get_elem_tactic_extensible) (by rw [List.length_map]; omega)) ⟨bs0, .no, hb0, rfl⟩ (fun j d ρ hd hI => ?_) fun ρ hI => ?_
    · obtain ⟨bs, a, hb, rfl⟩ := hI
      obtain ⟨rfl, hj⟩ := range0_get hd
      have hj : j < ps.length := by rw [List.length_map] at hj; omega
      have set_ok : ∀ (bs : List Int) (v : Int), Bits ps.length bs → (v = 0 ∨ v = 1) → Bits ps.length (bs.set (Int.toNat (j : Int)) v) := fun bs v h hv => ⟨by rw [List.length_set]; exact h.1, fun x hx => by
        rcases List.mem_or_eq_of_mem_set hx with hx | hx
        · exact h.2 x hx
        · rw [hx]; exact hv⟩
      refine ⟨_, rfl, Run.cut (fun ρ => ∃ (bs : List Int), Bits ps.length bs ∧ ρ = [.v V, .v (.lst (row.map D.int)), .v (.int mills), .v (.lst (ps.map pairD)), .own (bs.map D.int), .v (.int j), .no, .no, .no, .no, .no, .no, .no]) ?_ fun ρ hρ => ?_⟩
      · refine Run.ifP (by subst hV; get_elem_tactic_extensible) (fun h => ?_) fun h => Run.next ⟨_, rfl, bs, hb, rfl⟩
        exact Run.setIxA (xs := bs.map D.int) (k := (j : Int)) (d := .int (at_ bs 0)) rfl (Ev.ixM (A := D.int) (by get_elem_tactic_extensible) (by get_elem_tactic_extensible) (by omega) (by rw [hb.1]; omega)) rfl (by get_elem_tactic_extensible) (by omega) (by rw [List.length_map, hb.1]; omega) ⟨_, rfl, _, set_ok bs (at_ bs 0) hb (hb.at (k := 0) (by omega) (by omega)), by rw [map_set]; rfl⟩
      · obtain ⟨bs, hb, rfl⟩ := hρ
        refine Run.ifP (by subst hV; get_elem_tactic_extensible) (fun h => ?_) fun h => Run.next ⟨bs, _, hb, rfl⟩
        exact Run.setIxA (xs := bs.map D.int) (k := (j : Int)) (d := .int (at_ bs ((j : Int) - 1))) rfl (Ev.ixM (A := D.int) (by get_elem_tactic_extensible) (by get_elem_tactic_extensible) (by omega) (by rw [hb.1]; omega)) rfl (by get_elem_tactic_extensible) (by omega) (by rw [List.length_map, hb.1]; omega) ⟨_, _, set_ok bs (at_ bs ((j : Int) - 1)) hb (hb.at (k := (j : Int) - 1) (by omega) (by omega)), by rw [map_set]; rfl⟩
    · obtain ⟨bs, a, hb, rfl⟩ := hI
      exact ⟨_, rfl, bs, a, hb, rfl⟩
  obtain ⟨bs, a, hb, rfl⟩ := hρ
  obtain ⟨cs, hc, nn⟩ := law_fed_ok mills ps bs (.lst (bs.map D.int)) m1 (by omega) ok (by omega) hb (.inl rfl)
  refine Run.srel (Run.sset (Ev.callP (ds := [.int mills, .lst (ps.map pairD), .lst (bs.map D.int)]) (by get_elem_tactic_extensible) EvL.nil ⟨rfl, rfl⟩ hc) (Run.sown (ds := []) (by get_elem_tactic_extensible) (show (7 : Nat) < 13 by decide) (Run.sown (ds := []) (by get_elem_tactic_extensible) (show (8 : Nat) < 13 by decide) ?_)))
  show Run (gSeq _ _) [.v V, .v (.lst (row.map D.int)), .v (.int mills), .v (.lst (ps.map pairD)), .v (.lst (bs.map D.int)), a, .v (.lst (cs.map D.int)), .own [], .own [], .no, .no, .no, .no] _
  refine Run.cut (fun ρ => ∃ (low : List Int) (hi : List (Option Int)) (x y z : Sl), NNs mills.toNat low ∧ hi.length = mills.toNat ∧ (∀ h ∈ hi, Pos h) ∧ ρ = [.v V, .v (.lst (row.map D.int)), .v (.int mills), .v (.lst (ps.map pairD)), .v (.lst (bs.map D.int)), a, .v (.lst (cs.map D.int)), .own (low.map D.int), .own (hi.map optD), x, y, z, .no]) ?_ fun ρ hρ => ?_
  · refine Run.for (fun n ρ => ∃ (low : List Int) (hi : List (Option Int)) (x y z : Sl), NNs n low ∧ hi.length = n ∧ (∀ h ∈ hi, Pos h) ∧ ρ = [.v V, .v (.lst (row.map D.int)), .v (.int mills), .v (.lst (ps.map pairD)), .v (.lst (bs.map D.int)), a, .v (.lst (cs.map D.int)), .own (low.map D.int), .own (hi.map optD), x, y, z, .no]) (EvL.range1 (by get_elem_tactic_extensible) (by omega)) ⟨[], [], .no, .no, .no, ⟨rfl, fun c hc => by simp at hc⟩, rfl, fun c hc => by simp at hc, rfl⟩ (fun j d ρ hd hI => ?_) fun ρ hI => ?_
    · obtain ⟨low, hi, x, y, z, nl, hh, hp, rfl⟩ := hI
      obtain ⟨rfl, hj⟩ := range0_get hd
      have hj5 : j < 5 := by omega
      have ls : tbSlack.length = 8 := rfl
      have lt : tbTop.length = 8 := rfl
      have lt2 : tbTop2.length = 4 := rfl
      obtain ⟨sl, hsl, _⟩ := tbl_get (tb := tbSlack) (fun _ => true) (by decide) (i := at_ row (1 + 2 * (j : Int)) % 8) (by omega)
      obtain ⟨tp, htp, ptp⟩ := tblO_get (tb := tbTop) (by decide) (i := at_ row (2 + 2 * (j : Int)) % 8) (by omega)
      obtain ⟨t2, ht2, pt2⟩ := tblO_get (tb := tbTop2) (by decide) (i := at_ row (2 + 2 * (j : Int)) % 4) (by omega)
      refine ⟨_, rfl, Run.sset (Ev.ixL (ds := tbSlack) (i := at_ row (1 + 2 * (j : Int)) % 8) (by get_elem_tactic_extensible) (by get_elem_tactic_extensible) (by omega) hsl) (Run.sset (Ev.ixL (ds := tbTop) (i := at_ row (2 + 2 * (j : Int)) % 8) (by get_elem_tactic_extensible) (by get_elem_tactic_extensible) (by omega) htp) ?_)⟩
      have cj := nn.at (k := (j : Int)) (by omega) (by omega)
      have hcs : cs.length = mills.toNat := nn.1
      refine Run.cut (fun ρ => ∃ s : Int, ρ = [.v V, .v (.lst (row.map D.int)), .v (.int mills), .v (.lst (ps.map pairD)), .v (.lst (bs.map D.int)), a, .v (.lst (cs.map D.int)), .own (low.map D.int), .own (hi.map optD), .v (.int j), .v (.int s), .v (optD tp), .no]) (Run.ifP (by get_elem_tactic_extensible) (fun h => Run.set (by get_elem_tactic_extensible) ⟨_, rfl, 0, rfl⟩) fun h => Run.next ⟨_, rfl, sl, rfl⟩) fun ρ hρ => ?_
      obtain ⟨s, rfl⟩ := hρ
      refine Run.cut (fun ρ => ∃ t : Option Int, Pos t ∧ ρ = [.v V, .v (.lst (row.map D.int)), .v (.int mills), .v (.lst (ps.map pairD)), .v (.lst (bs.map D.int)), a, .v (.lst (cs.map D.int)), .own (low.map D.int), .own (hi.map optD), .v (.int j), .v (.int s), .v (optD t), .no]) (Run.ifP (by get_elem_tactic_extensible) (fun h => Run.set (d := .int 1) (by get_elem_tactic_extensible) ⟨_, rfl, some 1, fun x e => by cases e; decide, rfl⟩) fun h => Run.next ⟨_, rfl, tp, ptp, rfl⟩) fun ρ hρ => ?_
      obtain ⟨t, pt, rfl⟩ := hρ
      refine Run.cut (fun ρ => ∃ t : Option Int, Pos t ∧ ρ = [.v V, .v (.lst (row.map D.int)), .v (.int mills), .v (.lst (ps.map pairD)), .v (.lst (bs.map D.int)), a, .v (.lst (cs.map D.int)), .own (low.map D.int), .own (hi.map optD), .v (.int j), .v (.int s), .v (optD t), .no]) (Run.ifP (by get_elem_tactic_extensible) (fun h => Run.set (d := .non) (by get_elem_tactic_extensible) ⟨_, rfl, none, fun x e => (by cases e), rfl⟩) fun h => Run.next ⟨_, rfl, t, pt, rfl⟩) fun ρ hρ => ?_
      obtain ⟨t, pt, rfl⟩ := hρ
      refine Run.sapp (xs := low.map D.int) (d := .int (max 0 (at_ cs (j : Int) - s))) rfl (by get_elem_tactic_extensible) (by rw [List.length_map, nl.1]; omega) ?_
      have nl1 : NNs (j + 1) (low ++ [max 0 (at_ cs (j : Int) - s)]) := ⟨by simp [nl.1], fun c hc => by
        rcases List.mem_append.mp hc with hc | hc
        · exact nl.2 c hc
        · rw [List.mem_singleton.mp hc]; omega⟩
      have em : low.map D.int ++ [D.int (max 0 (at_ cs (j : Int) - s))] = (low ++ [max 0 (at_ cs (j : Int) - s)]).map D.int := by rw [List.map_append]; rfl
      rw [em]
      generalize low ++ [max 0 (at_ cs (j : Int) - s)] = low1 at nl1 ⊢
      show Run (gSeq _ _) [.v V, .v (.lst (row.map D.int)), .v (.int mills), .v (.lst (ps.map pairD)), .v (.lst (bs.map D.int)), a, .v (.lst (cs.map D.int)), .own (low1.map D.int), .own (hi.map optD), .v (.int j), .v (.int s), .v (optD t), .no] _
      refine Run.cut (fun ρ => ∃ (low2 : List Int) (t : Option Int), NNs (j + 1) low2 ∧ Pos t ∧ ρ = [.v V, .v (.lst (row.map D.int)), .v (.int mills), .v (.lst (ps.map pairD)), .v (.lst (bs.map D.int)), a, .v (.lst (cs.map D.int)), .own (low2.map D.int), .own (hi.map optD), .v (.int j), .v (.int s), .v (optD t), .no]) ?_ fun ρ hρ => ?_
      · refine Run.ifP (by get_elem_tactic_extensible) (fun h => ?_) fun h => Run.next ⟨_, rfl, low1, t, nl1, pt, rfl⟩
        refine Run.ssetIx (xs := low1.map D.int) (k := (j : Int)) (d := .int 0) rfl (by get_elem_tactic_extensible) (by get_elem_tactic_extensible) (by omega) (by rw [List.length_map, nl1.1]; omega) ?_
        rw [map_set]
        exact Run.set (Ev.ixL (ds := tbTop2) (i := at_ row (2 + 2 * (j : Int)) % 4) (by get_elem_tactic_extensible) (by get_elem_tactic_extensible) (by omega) ht2) ⟨_, rfl, low1.set (Int.toNat j) 0, t2, nl1.set (by omega), pt2, rfl⟩
      obtain ⟨low2, t, nl2, pt, rfl⟩ := hρ
      refine Run.cut (fun ρ => ∃ t : Option Int, Pos t ∧ ρ = [.v V, .v (.lst (row.map D.int)), .v (.int mills), .v (.lst (ps.map pairD)), .v (.lst (bs.map D.int)), a, .v (.lst (cs.map D.int)), .own (low2.map D.int), .own (hi.map optD), .v (.int j), .v (.int s), .v (optD t), .no]) ?_ fun ρ hρ => ?_
      · cases t with
        | none => exact Run.ifP (P := False) (iP := instDecidableFalse) (by exact Ev.v2 (Ev.var rfl) .c rfl) (fun h => h.elim) fun h => Run.next ⟨_, rfl, none, pt, rfl⟩
        | some v =>
          have hv := pt v rfl
          exact Run.ifP (P := True) (iP := instDecidableTrue) (by exact Ev.v2 (Ev.var rfl) .c rfl) (fun h => Run.set (d := .int (at_ cs (j : Int) + v)) (Ev.add (Ev.ixM (A := D.int) (by get_elem_tactic_extensible) (by get_elem_tactic_extensible) (by omega) (by rw [hcs]; omega)) (Ev.var rfl)) ⟨_, rfl, some (at_ cs (j : Int) + v), fun x e => by cases e; omega, rfl⟩) fun h => (h trivial).elim
      obtain ⟨t, pt, rfl⟩ := hρ
      refine Run.app (xs := hi.map optD) (d := optD t) rfl (Ev.var rfl) (by rw [List.length_map, hh]; omega) ⟨low2, hi ++ [t], _, _, _, nl2, by simp [hh], fun h hm => ?_, by rw [List.map_append]; rfl⟩
      rcases List.mem_append.mp hm with hm | hm
      · exact hp h hm
      · rw [List.mem_singleton.mp hm]; exact pt
    · obtain ⟨low, hi, x, y, z, nl, hh, hp, rfl⟩ := hI
      rw [rangeD_length] at nl hh
      exact ⟨_, rfl, low, hi, x, y, z, nl, hh, hp, rfl⟩
  · obtain ⟨low, hi, x, y, z, nl, hh, hp, rfl⟩ := hρ
    refine Run.sown (ds := []) (by get_elem_tactic_extensible) (show (12 : Nat) < 13 by decide) ?_
    show Run (gSeq _ _) [.v V, .v (.lst (row.map D.int)), .v (.int mills), .v (.lst (ps.map pairD)), .v (.lst (bs.map D.int)), a, .v (.lst (cs.map D.int)), .own (low.map D.int), .own (hi.map optD), x, y, z, .own []] _
    refine Run.cut (fun ρ => ∃ (ls : List (List Int)) (a : Sl), ls.length = ps.length ∧ (∀ l ∈ ls, l ∈ lets4) ∧ ρ = [.v V, .v (.lst (row.map D.int)), .v (.int mills), .v (.lst (ps.map pairD)), .v (.lst (bs.map D.int)), a, .v (.lst (cs.map D.int)), .own (low.map D.int), .own (hi.map optD), x, y, z, .own (ls.map letD)]) ?_ fun ρ hρ => ?_
    · refine Run.for (fun n ρ => ∃ (ls : List (List Int)) (a : Sl), ls.length = n ∧ (∀ l ∈ ls, l ∈ lets4) ∧ ρ = [.v V, .v (.lst (row.map D.int)), .v (.int mills), .v (.lst (ps.map pairD)), .v (.lst (bs.map D.int)), a, .v (.lst (cs.map D.int)), .own (low.map D.int), .own (hi.map optD), x, y, z, .own (ls.map letD)]) (EvL.range1 (by get_elem_tactic_extensible) (by rw [List.length_map]; omega)) ⟨[], a, rfl, fun l hl => by simp at hl, rfl⟩ (fun j d ρ hd hI => ?_) fun ρ hI => ?_
      · obtain ⟨ls, a, h1, h2, rfl⟩ := hI
        obtain ⟨rfl, hj⟩ := range0_get hd
        have hj : j < ps.length := by rw [List.length_map] at hj; omega
        have hbl : bs.length = ps.length := hb.1
        have hbit := hb.at (k := (j : Int)) (by omega) (by omega)
        have e0 : (if at_ row (11 + (j : Int)) = 5 then D.tup [.int (at_ bs (j : Int))] else D.tup [.int 0, .int 1]) = letD (if at_ row (11 + (j : Int)) = 5 then [at_ bs (j : Int)] else [0, 1]) := by split <;> rfl
        refine ⟨_, rfl, Run.rel (Run.app (xs := ls.map letD) (d := letD (if at_ row (11 + (j : Int)) = 5 then [at_ bs (j : Int)] else [0, 1])) rfl ?_ (by rw [List.length_map]; omega) ⟨ls ++ [if at_ row (11 + (j : Int)) = 5 then [at_ bs (j : Int)] else [0, 1]], _, by simp [h1], fun l hl => ?_, by rw [List.map_append]; rfl⟩)⟩
        · rw [← e0]
          exact Ev.ix2 (d0 := .tup [.int 0, .int 1]) (d1 := .tup [.int (at_ bs (j : Int))]) (Ev.vL (EvL.lenOk (EvL.cons (Ev.tup (by get_elem_tactic_extensible) (by simp)) (EvL.cons (Ev.tup (EvL.cons (Ev.ixM (A := D.int) (by get_elem_tactic_extensible) (by get_elem_tactic_extensible) (by omega) (by omega)) .nil) (by simp)) .nil)) (by simp))) (Ev.intB (Ev.eqI (i := at_ row (11 + (j : Int))) (Ev.ixM (A := D.int) (by get_elem_tactic_extensible) (by get_elem_tactic_extensible) (by omega) (by omega)) (by get_elem_tactic_extensible)))
        · rcases List.mem_append.mp hl with hl | hl
          · exact h2 l hl
          · rw [List.mem_singleton.mp hl]
            split
            · rcases hbit with e | e <;> rw [e] <;> decide
            · decide
      · obtain ⟨ls, a, h1, h2, rfl⟩ := hI
        rw [rangeD_length, List.length_map] at h1
        exact ⟨_, rfl, ls, a, by omega, h2, rfl⟩
    · obtain ⟨ls, a, h1, h2, rfl⟩ := hρ
      refine Run.rel (Run.rel (Run.rel (Run.ret (d := wD mills ps low hi ls []) (by unfold wD; get_elem_tactic_extensible) ⟨low, hi, ls, rfl, ⟨m1, by omega, by omega, ok, nl, hh, hp, h1, h2⟩⟩)))
def sz1 : List Int := [24, 24, 6, 12, 12, 12, 12, 12, 12, 12, 12, 12, 12, 12, 12, 12, 12]
def sz2 : List Int := [8, 8, 8, 8, 8, 8, 8, 8, 8, 8, 8, 24, 24, 24, 24, 24, 24, 24, 2, 2, 2, 2, 2, 2, 2]
theorem law_drawn_ok (ns : List Int) (at0 upto : Int) (h0 : 0 ≤ at0) (hu : 0 ≤ upto) : ∃ mills ps low high lets, sem_law_drawn [.scr ns, .int at0, .int upto] = some (.ok (wD mills ps low high lets [])) ∧ WOk mills ps low high lets := by
  suffices H : Run g_law_drawn [.v (.scr ns), .v (.int at0), .v (.int upto), .no] (Ret fun d => ∃ mills ps low high lets, d = wD mills ps low high lets [] ∧ WOk mills ps low high lets) by
    obtain ⟨d, h, mills, ps, low, high, lets, rfl, q⟩ := sem_ret (n := 4) (ds := [.scr ns, .int at0, .int upto]) H
    exact ⟨mills, ps, low, high, lets, h, q⟩
  obtain ⟨row, er, ro⟩ := dig_cell (fs := vVar 0) (fk := vVar 1) (fz := vL (nAdd (vL (lenOk (aCons (vC (.int 24)) (aCons (vC (.int 24)) (aCons (vC (.int 6)) (aNil)))))) (vL (nRep (vL (lenOk (aCons (vC (.int 12)) (aCons (vC (.int 12)) (aNil))))) (vC (.int 7)))))) (ρ := [.v (.scr ns), .v (.int at0), .v (.int upto), .no]) sz1 (Ev.var rfl) (Ev.var rfl) h0 rfl (by decide)
  have l1 : sz1.length = 17 := rfl
  have b0 := ro.2 0 (by omega) (by rw [ro.1]; omega)
  have b1 := ro.2 1 (by omega) (by rw [ro.1]; omega)
  obtain ⟨mills, ps, hv, m1, m5, p7, ok⟩ := law_valley_ok row upto hu (by rw [ro.1]; rfl) b0 b1
  refine Run.sset (Ev.callP (ds := [.lst (row.map D.int), .int upto]) (EvL.cons er (EvL.cons (Ev.var rfl) .nil)) .nil ⟨rfl, rfl⟩ hv) ?_
  show Run _ [.v (.scr ns), .v (.int at0), .v (.int upto), .v (.lst [.int mills, .lst (ps.map pairD), .int (at_ row 2)])] _
  obtain ⟨row2, er2, ro2⟩ := dig_cell (fs := vVar 0) (fk := v2 addD (vVar 1) (vC (.int 1))) (fz := vL (nAdd (vL (nAdd (vL (nAdd (vL (lenOk (aCons (vC (.int 8)) (aNil)))) (vL (nRep (vL (lenOk (aCons (vC (.int 8)) (aCons (vC (.int 8)) (aNil))))) (vC (.int 5)))))) (vL (nRep (vL (lenOk (aCons (vC (.int 24)) (aNil)))) (vC (.int 7)))))) (vL (nRep (vL (lenOk (aCons (vC (.int 2)) (aNil)))) (vC (.int 7))))))
    (ρ := [.v (.scr ns), .v (.int at0), .v (.int upto), .v (.lst [.int mills, .lst (ps.map pairD), .int (at_ row 2)])]) sz2 (Ev.var rfl) (Ev.add (Ev.var rfl) Ev.c) (by omega) rfl (by decide)
  obtain ⟨low, high, lets, hw, wk⟩ := law_world_ok mills ps (at_ row 2) row2 m1 m5 p7 ok (by rw [ro2.1]; rfl)
  exact Run.ret (Ev.callP (ds := [.lst [.int mills, .lst (ps.map pairD), .int (at_ row 2)], .lst (row2.map D.int)]) (EvL.cons (Ev.var rfl) (EvL.cons er2 .nil)) .nil ⟨rfl, rfl⟩ hw) ⟨mills, ps, low, high, lets, rfl, wk⟩
end
end LW
end

section
set_option maxHeartbeats 4000000
namespace LW
open PySem L2 EV
local macro_rules | `(tactic| get_elem_tactic_extensible) => `(tactic| first
  | ((with_reducible apply Ev.var); exact rfl)
  | with_reducible exact Ev.c
  | assumption
  | ((with_reducible apply Ev.add) <;> get_elem_tactic_extensible)
  | ((with_reducible apply Ev.sub) <;> get_elem_tactic_extensible)
  | ((with_reducible apply Ev.mulR) <;> get_elem_tactic_extensible)
  | ((with_reducible apply Ev.mulL) <;> get_elem_tactic_extensible)
  | ((with_reducible apply Ev.mod) <;> get_elem_tactic_extensible)
  | ((with_reducible apply Ev.fdiv) <;> get_elem_tactic_extensible)
  | ((with_reducible apply Ev.pow) <;> get_elem_tactic_extensible)
  | ((with_reducible apply Ev.neg) <;> get_elem_tactic_extensible)
  | ((with_reducible apply Ev.lt) <;> get_elem_tactic_extensible)
  | ((with_reducible apply Ev.le) <;> get_elem_tactic_extensible)
  | ((with_reducible apply Ev.gt) <;> get_elem_tactic_extensible)
  | ((with_reducible apply Ev.ge) <;> get_elem_tactic_extensible)
  | ((with_reducible apply Ev.eqI) <;> get_elem_tactic_extensible)
  | ((with_reducible apply Ev.neI) <;> get_elem_tactic_extensible)
  | ((with_reducible apply Ev.isN) <;> get_elem_tactic_extensible)
  | ((with_reducible apply Ev.notN) <;> get_elem_tactic_extensible)
  | ((with_reducible apply Ev.notP) <;> get_elem_tactic_extensible)
  | ((with_reducible apply Ev.andP) <;> get_elem_tactic_extensible)
  | ((with_reducible apply Ev.orP) <;> get_elem_tactic_extensible)
  | ((with_reducible apply Ev.int_) <;> get_elem_tactic_extensible)
  | ((with_reducible apply Ev.intB) <;> get_elem_tactic_extensible)
  | ((with_reducible apply Ev.lenL) <;> get_elem_tactic_extensible)
  | ((with_reducible apply Ev.lenT) <;> get_elem_tactic_extensible)
  | ((with_reducible apply Ev.lenS) <;> get_elem_tactic_extensible)
  | ((with_reducible apply Ev.min_) <;> get_elem_tactic_extensible)
  | ((with_reducible apply Ev.max_) <;> get_elem_tactic_extensible)
  | ((with_reducible apply Ev.abs_) <;> get_elem_tactic_extensible)
  | ((with_reducible apply Ev.tupleL) <;> get_elem_tactic_extensible)
  | ((with_reducible apply Ev.tupleT) <;> get_elem_tactic_extensible)
  | ((with_reducible apply EvL.listL) <;> get_elem_tactic_extensible)
  | ((with_reducible apply EvL.listT) <;> get_elem_tactic_extensible)
  | ((with_reducible apply Ev.ixL) <;> get_elem_tactic_extensible)
  | ((with_reducible apply Ev.ixT) <;> get_elem_tactic_extensible)
  | ((with_reducible apply Ev.ixM) <;> get_elem_tactic_extensible)
  | ((with_reducible apply Ev.ixMT) <;> get_elem_tactic_extensible)
  | ((with_reducible apply Ev.tup) <;> get_elem_tactic_extensible)
  | ((with_reducible apply Ev.vL) <;> get_elem_tactic_extensible)
  | with_reducible exact EvL.nil
  | ((with_reducible apply EvL.cons) <;> get_elem_tactic_extensible)
  | ((with_reducible apply EvL.lenOk) <;> get_elem_tactic_extensible)
  | ((with_reducible apply EvL.range1) <;> get_elem_tactic_extensible)
  | ((with_reducible apply EvL.seqL) <;> get_elem_tactic_extensible)
  | ((with_reducible apply EvL.seqT) <;> get_elem_tactic_extensible)
  | ((with_reducible apply EvL.seqS) <;> get_elem_tactic_extensible)
  | (intro; get_elem_tactic_extensible)
  | exact (show GetElem?.getElem? (List.cons _ _) _ = some _ from rfl)
  | omega
  | (simp only [List.length_map, List.length_append, List.length_replicate, List.length_cons, List.length_nil, List.length_range] <;> omega))
section
variable {mills : Int} {ps : List (Int × Int)} {low : List Int} {high : List (Option Int)} {lets : List (List Int)}
theorem eqv_int (i j : Int) : D.eqv (.int i) (.int j) = decide (i = j) := by
  simp only [D.eqv]
  rw [Bool.eq_iff_iff]
  simp
theorem eqv_opt : ∀ a b : Option Int, D.eqv (optD a) (optD b) = decide (a = b)
  | none, none => by simp [optD, D.eqv]
  | none, some b => by simp [optD, D.eqv]
  | some a, none => by simp [optD, D.eqv]
  | some a, some b => by
    show D.eqv (.int a) (.int b) = _
    rw [eqv_int, Bool.eq_iff_iff]
    simp
theorem eqvs_map {α : Type} [DecidableEq α] {A : α → D} (h : ∀ x y, D.eqv (A x) (A y) = decide (x = y)) : ∀ xs ys : List α, D.eqvs (xs.map A) (ys.map A) = decide (xs = ys)
  | [], [] => by simp [D.eqvs]
  | [], y :: ys => by simp [D.eqvs]
  | x :: xs, [] => by simp [D.eqvs]
  | x :: xs, y :: ys => by
    simp only [List.map_cons, D.eqvs]
    rw [h, eqvs_map h xs ys, Bool.eq_iff_iff]
    simp
theorem eqv_tup {α : Type} [DecidableEq α] {A : α → D} (h : ∀ x y, D.eqv (A x) (A y) = decide (x = y)) (xs ys : List α) : D.eqv (.tup (xs.map A)) (.tup (ys.map A)) = decide (xs = ys) := by
  simp only [D.eqv]
  exact eqvs_map h xs ys
theorem eqv_lst {α : Type} [DecidableEq α] {A : α → D} (h : ∀ x y, D.eqv (A x) (A y) = decide (x = y)) (xs ys : List α) : D.eqv (.lst (xs.map A)) (.lst (ys.map A)) = decide (xs = ys) := by
  simp only [D.eqv]
  exact eqvs_map h xs ys
theorem eqv_let (a b : List Int) : D.eqv (letD a) (letD b) = decide (a = b) := eqv_tup eqv_int a b
theorem eqv_pair (p q : Int × Int) : D.eqv (pairD p) (pairD q) = decide (p = q) := by
  have := eqv_tup eqv_int [p.1, p.2] [q.1, q.2]
  rw [show pairD p = .tup ([p.1, p.2].map D.int) from rfl, show pairD q = .tup ([q.1, q.2].map D.int) from rfl, this, Bool.eq_iff_iff]
  obtain ⟨a, b⟩ := p
  obtain ⟨c, d⟩ := q
  simp
theorem Ev.eqT {α : Type} [DecidableEq α] {A : α → D} {f fb : FE} {ρ : EV.Env} {xs ys : List α} (h : ∀ x y, D.eqv (A x) (A y) = decide (x = y)) (hp : ∀ x, D.pl 7 (A x) = true) (ha : Ev f ρ (.tup (xs.map A))) (hb : Ev fb ρ (.tup (ys.map A))) : Ev (v2 eqD f fb) ρ (.bl (decide (xs = ys))) := by
  have := Ev.eq ha hb (pl_tup (n := 7) (pls_map hp xs)) (pl_tup (n := 7) (pls_map hp ys))
  rw [eqv_tup h] at this
  exact this
theorem okD_ok (d : D) : okD (some (.ok d)) = some d := rfl
theorem law_whole_int (i : Int) : sem_law_whole [.int i] = some (.ok (.bl true)) := rfl
/-- a list or a tuple of these -/
def SeqA {α : Type} (A : α → D) (V : D) (xs : List α) : Prop := V = .lst (xs.map A) ∨ V = .tup (xs.map A)
theorem SeqA.ix {α : Type} [Inhabited α] {A : α → D} {V : D} {xs : List α} (h : SeqA A V xs) {f fb : FE} {ρ : EV.Env} {i : Int} (ha : Ev f ρ V) (hb : Ev fb ρ (.int i)) (h0 : 0 ≤ i) (h1 : i < xs.length) : Ev (v2 ixD f fb) ρ (A (at_ xs i)) := by
  rcases h with rfl | rfl
  · exact Ev.ixM ha hb h0 h1
  · exact Ev.ixMT ha hb h0 h1
theorem SeqA.len {α : Type} {A : α → D} {V : D} {xs : List α} (h : SeqA A V xs) {f : FE} {ρ : EV.Env} (ha : Ev f ρ V) : Ev (vCall lenD (aCons f (aNil))) ρ (.int (xs.length : Nat)) := by
  rw [show (xs.length : Nat) = (xs.map A).length by rw [List.length_map]]
  rcases h with rfl | rfl
  · exact Ev.lenL ha
  · exact Ev.lenT ha
theorem neI_self {f fb : FE} {ρ : EV.Env} {i : Int} (ha : Ev f ρ (.int i)) (hb : Ev fb ρ (.int i)) : Ev (v2 neD f fb) ρ (.bl (decide False)) := ne_self ha hb (pl_int 8 i)
theorem range_n {f : FE} {ρ : EV.Env} {n : Nat} (h : Ev f ρ (.int (n : Nat))) (hn : n ≤ 90000) : EvL (iRange1 f) ρ (rangeD 0 n) := by
  have := EvL.range1 (f := f) (ρ := ρ) (j := (n : Nat)) h (by omega)
  exact this
theorem law_same_ok {xs : List Int} {E : D} (h : SeqA D.int E xs) (hn : xs.length ≤ 90000) : sem_law_same [.tup (xs.map D.int), E] = some (.ok (.bl true)) := by
  suffices H : Run g_law_same [.v (.tup (xs.map D.int)), .v E, .no] (Ret fun d => d = .bl true) by
    obtain ⟨d, h, rfl⟩ := sem_ret (n := 3) (ds := [.tup (xs.map D.int), E]) H
    exact h
  have hT : SeqA D.int (.tup (xs.map D.int)) xs := .inr rfl
  refine Run.seq (Run.ifP (P := ¬ True ∨ False) (Ev.orP (Ev.notP (P := True) (Ev.v1 (Ev.var rfl) rfl)) fun _ => neI_self (hT.len (Ev.var rfl)) (h.len (Ev.var rfl))) (fun h => ?_) fun _ => Run.next ?_)
  · rcases h with h | h
    · exact (h trivial).elim
    · exact h.elim
  refine Run.cut (fun ρ => ∃ a, ρ = [.v (.tup (xs.map D.int)), .v E, a]) ?_ fun ρ hρ => Run.ret Ev.c rfl
  refine Run.for (fun _ ρ => ∃ a, ρ = [.v (.tup (xs.map D.int)), .v E, a]) (range_n (h.len (Ev.var rfl)) hn) ⟨.no, rfl⟩ (fun k d ρ hd hI => ?_) fun ρ hI => ⟨_, rfl, hI⟩
  obtain ⟨a, rfl⟩ := hI
  obtain ⟨rfl, hk⟩ := range0_get hd
  refine ⟨_, rfl, Run.ifP (P := ¬ True ∨ False) (Ev.orP (Ev.notP (P := True) (Ev.callP (ds := [.int (at_ xs (k : Int))]) (EvL.cons (hT.ix (Ev.var rfl) (Ev.var rfl) (by omega) (by omega)) .nil) .nil ⟨rfl, rfl⟩ (law_whole_int _))) fun _ => neI_self (hT.ix (Ev.var rfl) (Ev.var rfl) (by omega) (by omega)) (h.ix (Ev.var rfl) (Ev.var rfl) (by omega) (by omega))) (fun h => ?_) fun _ => Run.next ⟨_, rfl⟩⟩
  rcases h with h | h
  · exact (h trivial).elim
  · exact h.elim
theorem law_same_rows_ok {xs : List (List Int)} {E : D} (h : SeqA letD E xs) (hn : xs.length ≤ 90000) (hx : ∀ x ∈ xs, x.length ≤ 90000) : sem_law_same_rows [.tup (xs.map letD), E] = some (.ok (.bl true)) := by
  suffices H : Run g_law_same_rows [.v (.tup (xs.map letD)), .v E, .no] (Ret fun d => d = .bl true) by
    obtain ⟨d, h, rfl⟩ := sem_ret (n := 3) (ds := [.tup (xs.map letD), E]) H
    exact h
  have hT : SeqA letD (.tup (xs.map letD)) xs := .inr rfl
  refine Run.seq (Run.ifP (P := ¬ True ∨ False) (Ev.orP (Ev.notP (P := True) (Ev.v1 (Ev.var rfl) rfl)) fun _ => neI_self (hT.len (Ev.var rfl)) (h.len (Ev.var rfl))) (fun h => ?_) fun _ => Run.next ?_)
  · rcases h with h | h
    · exact (h trivial).elim
    · exact h.elim
  refine Run.cut (fun ρ => ∃ a, ρ = [.v (.tup (xs.map letD)), .v E, a]) ?_ fun ρ hρ => Run.ret Ev.c rfl
  refine Run.for (fun _ ρ => ∃ a, ρ = [.v (.tup (xs.map letD)), .v E, a]) (range_n (h.len (Ev.var rfl)) hn) ⟨.no, rfl⟩ (fun k d ρ hd hI => ?_) fun ρ hI => ⟨_, rfl, hI⟩
  obtain ⟨a, rfl⟩ := hI
  obtain ⟨rfl, hk⟩ := range0_get hd
  have hs := law_same_ok (xs := at_ xs (k : Int)) (E := letD (at_ xs (k : Int))) (.inr rfl) (hx _ (at_mem (by omega) (by omega)))
  exact ⟨_, rfl, Run.ifP (Ev.notP (P := True) (Ev.callP (ds := [letD (at_ xs (k : Int)), letD (at_ xs (k : Int))]) (EvL.cons (hT.ix (Ev.var rfl) (Ev.var rfl) (by omega) (by omega)) (EvL.cons (h.ix (Ev.var rfl) (Ev.var rfl) (by omega) (by omega)) .nil)) .nil ⟨rfl, rfl⟩ hs)) (fun h => (h trivial).elim) fun _ => Run.next ⟨_, rfl⟩⟩
end
end LW
end

section
set_option maxHeartbeats 4000000
namespace LW
open PySem L2 EV
local macro_rules | `(tactic| get_elem_tactic_extensible) => `(tactic| first
  | ((with_reducible apply Ev.var); exact rfl)
  | with_reducible exact Ev.c
  | assumption
  | ((with_reducible apply Ev.add) <;> get_elem_tactic_extensible)
  | ((with_reducible apply Ev.sub) <;> get_elem_tactic_extensible)
  | ((with_reducible apply Ev.mulR) <;> get_elem_tactic_extensible)
  | ((with_reducible apply Ev.mulL) <;> get_elem_tactic_extensible)
  | ((with_reducible apply Ev.mod) <;> get_elem_tactic_extensible)
  | ((with_reducible apply Ev.fdiv) <;> get_elem_tactic_extensible)
  | ((with_reducible apply Ev.pow) <;> get_elem_tactic_extensible)
  | ((with_reducible apply Ev.neg) <;> get_elem_tactic_extensible)
  | ((with_reducible apply Ev.lt) <;> get_elem_tactic_extensible)
  | ((with_reducible apply Ev.le) <;> get_elem_tactic_extensible)
  | ((with_reducible apply Ev.gt) <;> get_elem_tactic_extensible)
  | ((with_reducible apply Ev.ge) <;> get_elem_tactic_extensible)
  | ((with_reducible apply Ev.eqI) <;> get_elem_tactic_extensible)
  | ((with_reducible apply Ev.neI) <;> get_elem_tactic_extensible)
  | ((with_reducible apply Ev.isN) <;> get_elem_tactic_extensible)
  | ((with_reducible apply Ev.notN) <;> get_elem_tactic_extensible)
  | ((with_reducible apply Ev.notP) <;> get_elem_tactic_extensible)
  | ((with_reducible apply Ev.andP) <;> get_elem_tactic_extensible)
  | ((with_reducible apply Ev.orP) <;> get_elem_tactic_extensible)
  | ((with_reducible apply Ev.int_) <;> get_elem_tactic_extensible)
  | ((with_reducible apply Ev.intB) <;> get_elem_tactic_extensible)
  | ((with_reducible apply Ev.lenL) <;> get_elem_tactic_extensible)
  | ((with_reducible apply Ev.lenT) <;> get_elem_tactic_extensible)
  | ((with_reducible apply Ev.lenS) <;> get_elem_tactic_extensible)
  | ((with_reducible apply Ev.min_) <;> get_elem_tactic_extensible)
  | ((with_reducible apply Ev.max_) <;> get_elem_tactic_extensible)
  | ((with_reducible apply Ev.abs_) <;> get_elem_tactic_extensible)
  | ((with_reducible apply Ev.tupleL) <;> get_elem_tactic_extensible)
  | ((with_reducible apply Ev.tupleT) <;> get_elem_tactic_extensible)
  | ((with_reducible apply EvL.listL) <;> get_elem_tactic_extensible)
  | ((with_reducible apply EvL.listT) <;> get_elem_tactic_extensible)
  | ((with_reducible apply Ev.ixL) <;> get_elem_tactic_extensible)
  | ((with_reducible apply Ev.ixT) <;> get_elem_tactic_extensible)
  | ((with_reducible apply Ev.ixM) <;> get_elem_tactic_extensible)
  | ((with_reducible apply Ev.ixMT) <;> get_elem_tactic_extensible)
  | ((with_reducible apply Ev.tup) <;> get_elem_tactic_extensible)
  | ((with_reducible apply Ev.vL) <;> get_elem_tactic_extensible)
  | with_reducible exact EvL.nil
  | ((with_reducible apply EvL.cons) <;> get_elem_tactic_extensible)
  | ((with_reducible apply EvL.lenOk) <;> get_elem_tactic_extensible)
  | ((with_reducible apply EvL.range1) <;> get_elem_tactic_extensible)
  | ((with_reducible apply EvL.seqL) <;> get_elem_tactic_extensible)
  | ((with_reducible apply EvL.seqT) <;> get_elem_tactic_extensible)
  | ((with_reducible apply EvL.seqS) <;> get_elem_tactic_extensible)
  | (intro; get_elem_tactic_extensible)
  | exact (show GetElem?.getElem? (List.cons _ _) _ = some _ from rfl)
  | omega
  | (simp only [List.length_map, List.length_append, List.length_replicate, List.length_cons, List.length_nil, List.length_range] <;> omega))
section
variable {mills : Int} {ps : List (Int × Int)} {low : List Int} {high : List (Option Int)} {lets : List (List Int)}
theorem frz_seq {α : Type} (sm : List D → Option R) (A B : α → D) (xs : List α) (hl : xs.length ≤ 90000) (h : ∀ x ∈ xs, sm [A x] = some (.ok (B x))) (S : D) (hS : S = .lst (xs.map A) ∨ S = .tup (xs.map A)) :
    semF 2 (g_frozen sm) [S] = some (.ok (.tup (xs.map B))) := by
  have hc : Ev (v1 (isD [.lst, .tup]) (vVar 0)) [.v S, .no] (.bl (decide True)) := by
    rcases hS with rfl | rfl <;> exact Ev.v1 (Ev.var rfl) rfl
  have hi : EvL (iSeq (vVar 0)) [.v S, .no] (xs.map A) := by
    rcases hS with rfl | rfl
    · exact EvL.seqL (Ev.var rfl)
    · exact EvL.seqT (Ev.var rfl)
  have hlc := EvL.lc (fi := iSeq (vVar 0)) (fg := nmG 1) (ft := vYes) (fe := vCallP 1 0 [0] sm [] (aCons (vVar 1) (aNil)) (aNil)) (vs := [1]) (ρ := [.v S, .no]) xs A (fun x => some (B x)) hi hl fun x hx =>
    item_yes (ρ1 := [.v S, .v (A x)]) rfl (Ev.callP (ds := [A x]) (EvL.cons (Ev.var rfl) .nil) .nil ⟨rfl, rfl⟩ (h x hx))
  rw [filterMap_some] at hlc
  suffices H : Run (g_frozen sm) [.v S, .no] (Ret fun d => d = .tup (xs.map B)) by
    obtain ⟨d, h, rfl⟩ := sem_ret (n := 2) (ds := [S]) H
    exact h
  exact Run.seq (Run.ifP hc (fun _ => Run.ret (Ev.tupleL (Ev.vL hlc)) rfl) fun h => (h trivial).elim)
theorem frz_int {sm : List D → Option R} (i : Int) : semF 2 (g_frozen sm) [.int i] = some (.ok (.int i)) := rfl
theorem frz_non {sm : List D → Option R} : semF 2 (g_frozen sm) [.non] = some (.ok .non) := rfl
theorem frozen_ints (S : D) (xs : List Int) (hl : xs.length ≤ 90000) (hS : S = .lst (xs.map D.int) ∨ S = .tup (xs.map D.int)) : sem_frozen [S] = some (.ok (.tup (xs.map D.int))) :=
  frz_seq sem_frozen_2 D.int D.int xs hl (fun x _ => frz_int x) S hS
theorem frozen_opts (S : D) (xs : List (Option Int)) (hl : xs.length ≤ 90000) (hS : S = .lst (xs.map optD) ∨ S = .tup (xs.map optD)) : sem_frozen [S] = some (.ok (.tup (xs.map optD))) :=
  frz_seq sem_frozen_2 optD optD xs hl (fun x _ => by cases x; exact frz_non; exact frz_int _) S hS
theorem bad_index_ok (n : Nat) : sem_bad_index [.lst (List.replicate n (.bl true)), .int n] = some (.ok .non) := by
  suffices H : Run g_bad_index [.v (.lst (List.replicate n (.bl true))), .v (.int n), .no, .no] (Ret fun d => d = .non) by
    obtain ⟨d, h, rfl⟩ := sem_ret (n := 4) (ds := [.lst (List.replicate n (.bl true)), .int n]) H
    exact h
  refine Run.cut (fun ρ => ∃ a b, ρ = [.v (.lst (List.replicate n (.bl true))), .v (.int n), a, b]) ?_ fun ρ hρ => ?_
  · refine Run.for (fun _ ρ => ∃ a b, ρ = [.v (.lst (List.replicate n (.bl true))), .v (.int n), a, b]) (EvL.enumL (Ev.var rfl)) ⟨.no, .no, rfl⟩ (fun k d ρ hd hI => ?_) fun ρ hI => ?_
    · obtain ⟨a, b, rfl⟩ := hI
      obtain ⟨e, he, rfl⟩ := enum_get hd
      have hk := (List.getElem?_eq_some_iff.mp he).1
      rw [List.length_replicate] at hk
      have ee : e = .bl true := (List.mem_replicate.mp (List.mem_of_getElem? he)).2
      subst ee
      refine ⟨_, rfl, Run.ifP (P := (n : Int) ≤ (k : Int) ∨ ¬ True) (Ev.orP (Ev.ge (Ev.var rfl) (Ev.var rfl)) fun _ => Ev.notP (P := True) (Ev.var rfl)) (fun h => ?_) fun _ => Run.next ⟨_, _, rfl⟩⟩
      rcases h with h | h
      · omega
      · exact (h trivial).elim
    · obtain ⟨a, b, rfl⟩ := hI
      exact ⟨_, rfl, a, b, rfl⟩
  · obtain ⟨a, b, rfl⟩ := hρ
    refine Run.seq (Run.ifP (Ev.lt (Ev.lenL (Ev.var rfl)) (Ev.var rfl)) (fun h => ?_) fun _ => Run.next (Run.ret Ev.c rfl))
    rw [List.length_replicate] at h
    omega
theorem check_needs_ok (mills : Int) (ps : List (Int × Int)) (low : List Int) (m0 : 0 ≤ mills) (m2 : mills ≤ 1000) (nn : NNs mills.toNat low) : sem_check_needs [landD mills ps, .tup (low.map D.int)] = some (.ok .non) := by
  suffices H : Run g_check_needs [.v (landD mills ps), .v (.tup (low.map D.int)), .no, .no] (Ret fun d => d = .non) by
    obtain ⟨d, h, rfl⟩ := sem_ret (n := 4) (ds := [landD mills ps, .tup (low.map D.int)]) H
    exact h
  have hl : (mills.toNat : Int) = mills := by omega
  refine Run.sset (d := .non) (Ev.callP (ds := [.lst (List.replicate low.length (.bl true)), .int mills]) (EvL.cons (Ev.vL (lc_true low D.int (EvL.seqT (Ev.var rfl)) (by rw [nn.1]; omega) fun x hx => ?_)) (EvL.cons (Ev.v1 (Ev.var rfl) rfl) .nil)) .nil ⟨rfl, rfl⟩ (by
    have q := bad_index_ok low.length
    rw [nn.1, hl] at q
    rw [nn.1]
    exact q)) (Run.ifP (P := False) (iP := instDecidableFalse) (Ev.v2 (Ev.var rfl) Ev.c rfl) (fun h => h.elim) fun _ => Run.next rfl)
  exact bl_true (Ev.andP (P := True) (Q := 0 ≤ x) (Ev.v2 (Ev.var rfl) Ev.c rfl) fun _ => Ev.ge (Ev.var rfl) Ev.c) ⟨trivial, nn.2 x hx⟩
theorem check_limits_ok (mills : Int) (ps : List (Int × Int)) (high : List (Option Int)) (m0 : 0 ≤ mills) (m2 : mills ≤ 1000) (hh : high.length = mills.toNat) (hp : ∀ h ∈ high, Pos h) : sem_check_limits [landD mills ps, .tup (high.map optD)] = some (.ok .non) := by
  suffices H : Run g_check_limits [.v (landD mills ps), .v (.tup (high.map optD)), .no, .no] (Ret fun d => d = .non) by
    obtain ⟨d, h, rfl⟩ := sem_ret (n := 4) (ds := [landD mills ps, .tup (high.map optD)]) H
    exact h
  have hl : (mills.toNat : Int) = mills := by omega
  refine Run.sset (d := .non) (Ev.callP (ds := [.lst (List.replicate high.length (.bl true)), .int mills]) (EvL.cons (Ev.vL (lc_true high optD (EvL.seqT (Ev.var rfl)) (by rw [hh]; omega) fun x hx => ?_)) (EvL.cons (Ev.v1 (Ev.var rfl) rfl) .nil)) .nil ⟨rfl, rfl⟩ (by
    have q := bad_index_ok high.length
    rw [hh, hl] at q
    rw [hh]
    exact q)) (Run.ifP (P := False) (iP := instDecidableFalse) (Ev.v2 (Ev.var rfl) Ev.c rfl) (fun h => h.elim) fun _ => Run.next rfl)
  cases x with
  | none => exact bl_true (Ev.orP (P := True) (Q := True) (iP := instDecidableTrue) (iQ := instDecidableTrue) (Ev.v2 (Ev.var rfl) Ev.c rfl) fun h => absurd trivial h) (.inl trivial)
  | some v => exact bl_true (Ev.orP (P := False) (Q := 0 ≤ v) (Ev.v2 (Ev.var rfl) Ev.c rfl) fun _ => Ev.ge (Ev.var rfl) Ev.c) (.inr (hp _ hx v rfl))
theorem check_pairs_ok (mills : Int) (ps : List (Int × Int)) (ok : PairsOk mills ps) : sem_check_pairs [.int mills, .tup (ps.map pairD)] = some (.ok .non) := by
  suffices H : Run g_check_pairs [.v (.int mills), .v (.tup (ps.map pairD)), .no, .no, .no] (Ret fun d => d = .non) by
    obtain ⟨d, h, rfl⟩ := sem_ret (n := 5) (ds := [.int mills, .tup (ps.map pairD)]) H
    exact h
  refine Run.for (fun _ ρ => ∃ a b c, ρ = [.v (.int mills), .v (.tup (ps.map pairD)), a, b, c]) (EvL.enumT (Ev.var rfl)) ⟨.no, .no, .no, rfl⟩ (fun k d ρ hd hI => ?_) fun ρ hI => rfl
  obtain ⟨a, b, c, rfl⟩ := hI
  obtain ⟨e, he, rfl⟩ := enum_get hd
  rw [List.getElem?_map] at he
  obtain ⟨p, hp, rfl⟩ := Option.map_eq_some_iff.mp he
  have hm := ok p (List.mem_of_getElem? hp)
  refine ⟨_, rfl, Run.ifP (P := p.1 < 0 ∨ mills ≤ p.1 ∨ p.2 < 0 ∨ mills ≤ p.2 ∨ p.1 = p.2) (by get_elem_tactic_extensible) (fun h => ?_) fun _ => Run.next ⟨_, _, _, rfl⟩⟩
  omega
theorem check_sides_ok (mills : Int) (ps : List (Int × Int)) (lets : List (List Int)) (hl : lets.length = ps.length) (h2 : ps.length ≤ 1000) (hp : ∀ l ∈ lets, l ∈ lets4) : sem_check_sides [landD mills ps, .tup (lets.map letD)] = some (.ok .non) := by
  suffices H : Run g_check_sides [.v (landD mills ps), .v (.tup (lets.map letD)), .no, .no] (Ret fun d => d = .non) by
    obtain ⟨d, h, rfl⟩ := sem_ret (n := 4) (ds := [landD mills ps, .tup (lets.map letD)]) H
    exact h
  refine Run.sset (d := .non) (Ev.callP (ds := [.lst (List.replicate lets.length (.bl true)), .int ((ps.map pairD).length : Nat)]) (EvL.cons (Ev.vL (lc_true lets letD (EvL.seqT (Ev.var rfl)) (by omega) fun x hx => ?_)) (EvL.cons (Ev.lenT (Ev.v1 (Ev.var rfl) rfl)) .nil)) .nil ⟨rfl, rfl⟩ (by
    have q := bad_index_ok lets.length
    rw [hl] at q ⊢
    rw [List.length_map]
    exact q)) (Run.ifP (P := False) (iP := instDecidableFalse) (Ev.v2 (Ev.var rfl) Ev.c rfl) (fun h => h.elim) fun _ => Run.next rfl)
  have hx4 := hp x hx
  simp only [lets4, List.mem_cons, List.not_mem_nil, or_false] at hx4
  rcases hx4 with rfl | rfl | rfl | rfl <;> exact Ev.v2 (Ev.var rfl) Ev.c rfl
def RowsI (n : Nat) (es : List D) (xs : List (List Int)) : Prop := es.length = n ∧ ∀ (k : Nat) (e : D) (x : List Int), es[k]? = some e → xs[k]? = some x → SeqA D.int e x
def RowsV (V : D) (xs : List (List Int)) : Prop := ∃ es : List D, (V = .lst es ∨ V = .tup es) ∧ RowsI xs.length es xs
theorem RowsI.snoc {n : Nat} {es : List D} {xs : List (List Int)} {e : D} {x : List Int} (h : RowsI n es xs) (hx : xs[n]? = some x) (he : SeqA D.int e x) : RowsI (n + 1) (es ++ [e]) xs := ⟨by simp [h.1], fun k e' x' h1 h2 => by
  have hl := h.1
  rcases Nat.lt_trichotomy k n with hk | hk | hk
  · rw [List.getElem?_append_left (by omega)] at h1
    exact h.2 k e' x' h1 h2
  · subst hk
    rw [List.getElem?_append_right (by omega), hl, Nat.sub_self] at h1
    rw [hx] at h2
    cases h1
    cases h2
    exact he
  · rw [List.getElem?_append_right (by omega), List.getElem?_eq_none (by simp; omega)] at h1
    cases h1⟩
theorem frozen_rows {V : D} {xs : List (List Int)} (hl : xs.length ≤ 90000) (hx : ∀ x ∈ xs, x.length ≤ 90000) (h : RowsV V xs) : sem_frozen [V] = some (.ok (.tup (xs.map letD))) := by
  obtain ⟨es, hV, hes⟩ := h
  have e1 : (es.zip xs).map Prod.fst = es := List.map_fst_zip (by have := hes.1; omega)
  have e2 : (es.zip xs).map Prod.snd = xs := List.map_snd_zip (by have := hes.1; omega)
  have hc : Ev (v1 (isD [.lst, .tup]) (vVar 0)) [.v V, .no] (.bl (decide True)) := by
    rcases hV with rfl | rfl <;> exact Ev.v1 (Ev.var rfl) rfl
  have hi : EvL (iSeq (vVar 0)) [.v V, .no] ((es.zip xs).map Prod.fst) := by
    rw [e1]
    rcases hV with rfl | rfl
    · exact EvL.seqL (Ev.var rfl)
    · exact EvL.seqT (Ev.var rfl)
  have hlc := EvL.lc (fi := iSeq (vVar 0)) (fg := nmG 1) (ft := vYes) (fe := vCallP 1 0 [0] sem_frozen_2 [] (aCons (vVar 1) (aNil)) (aNil)) (vs := [1]) (ρ := [.v V, .no]) (es.zip xs) Prod.fst (fun z => some (letD z.2)) hi (by rw [List.length_zip, hes.1]; omega) fun z hz => by
    obtain ⟨k, hk, rfl⟩ := List.mem_iff_getElem.mp hz
    rw [List.length_zip] at hk
    have hkx : k < xs.length := by omega
    have hke : k < es.length := by omega
    rw [List.getElem_zip]
    refine item_yes (ρ1 := [.v V, .v es[k]]) rfl (Ev.callP (ds := [es[k]]) (EvL.cons (Ev.var rfl) .nil) .nil ⟨rfl, rfl⟩ ?_)
    exact frz_seq sem_frozen_1 D.int D.int xs[k] (hx _ (List.getElem_mem hkx)) (fun y _ => frz_int y) _ (hes.2 k _ _ (List.getElem?_eq_getElem hke) (List.getElem?_eq_getElem hkx))
  rw [filterMap_some] at hlc
  have e3 : (es.zip xs).map (fun z => letD z.2) = xs.map letD := by
    have : (es.zip xs).map (fun z => letD z.2) = ((es.zip xs).map Prod.snd).map letD := by rw [List.map_map]; rfl
    rw [this, e2]
  rw [e3] at hlc
  suffices H : Run (g_frozen sem_frozen_2) [.v V, .no] (Ret fun d => d = .tup (xs.map letD)) by
    obtain ⟨d, h, rfl⟩ := sem_ret (n := 2) (ds := [V]) H
    exact h
  exact Run.seq (Run.ifP hc (fun _ => Run.ret (Ev.tupleL (Ev.vL hlc)) rfl) fun h => (h trivial).elim)
def pr2 (ps : List (Int × Int)) : List (List Int) := ps.map fun p => [p.1, p.2]
theorem pr2_map (ps : List (Int × Int)) : (pr2 ps).map letD = ps.map pairD := by
  unfold pr2
  rw [List.map_map]
  rfl
theorem pr2_len (ps : List (Int × Int)) : (pr2 ps).length = ps.length := List.length_map _
theorem pr2_row (ps : List (Int × Int)) : ∀ x ∈ pr2 ps, x.length ≤ 90000 := fun x hx => by
  obtain ⟨p, _, rfl⟩ := List.mem_map.mp hx
  simp
theorem Valley_okR {mills : Int} {ps : List (Int × Int)} {V : D} (ok : PairsOk mills ps) (hl : ps.length ≤ 1000) (hV : RowsV V (pr2 ps)) : sem_Valley__init [.int mills, V] = some (.ok (landD mills ps)) := by
  refine sem_ins (n := 4) (ds := [.int mills, V]) ?_
  show Run g_Valley__init [.ins 7 [], .v (.int mills), .v V, .no] _
  have ef := frozen_rows (by rw [pr2_len]; omega) (pr2_row ps) hV
  rw [pr2_map] at ef
  refine Run.sset (Ev.callP (ds := [V]) (EvL.cons (Ev.var rfl) .nil) .nil ⟨rfl, rfl⟩ ef) (Run.sdrop (Ev.callP (ds := [.int mills, .tup (ps.map pairD)]) (EvL.cons (Ev.var rfl) (EvL.cons (Ev.var rfl) .nil)) .nil ⟨rfl, rfl⟩ (check_pairs_ok mills ps ok)) ?_)
  exact Run.sfld (xs := []) rfl rfl (Ev.var rfl) (Run.fld (xs := [.int mills]) rfl rfl (Ev.var rfl) ⟨_, rfl, rfl⟩)
theorem SeqA.isNon {α : Type} {A : α → D} {V : D} {xs : List α} (h : SeqA A V xs) : V.isNon = false := by rcases h with rfl | rfl <;> rfl
theorem RowsV.isNon {V : D} {xs : List (List Int)} (h : RowsV V xs) : V.isNon = false := by
  obtain ⟨es, h, _⟩ := h
  rcases h with rfl | rfl <;> rfl
theorem Season_okR {mills : Int} {ps : List (Int × Int)} {low : List Int} {high : List (Option Int)} {lets : List (List Int)} {N B L : D} (w : WOk mills ps low high lets) (hN : SeqA D.int N low) (hB : SeqA optD B high) (hL : RowsV L lets) : sem_Season__init [landD mills ps, N, B, L] = some (.ok (seasonD (landD mills ps) low high lets)) := by
  refine sem_ins (n := 6) (ds := [landD mills ps, N, B, L]) ?_
  show Run g_Season__init [.ins 6 [], .v (landD mills ps), .v N, .v B, .v L, .no] _
  have m1 := w.m1
  have m2 := w.m2
  have e1 := frozen_ints N low (by rw [w.lo.1]; omega) hN
  have e2 := frozen_opts B high (by rw [w.hl]; omega) hB
  have e3 := frozen_rows (V := L) (xs := lets) (by rw [w.ll]; have := w.pl; omega) (lets_len w.lp) hL
  have c1 := check_needs_ok mills ps low (by omega) (by omega) w.lo
  have c2 := check_limits_ok mills ps high (by omega) (by omega) w.hl w.hp
  have c3 := check_sides_ok mills ps lets w.ll (by have := w.pl; omega) w.lp
  have no : ∀ (i : Nat) (ρ : EV.Env) (d : D), ρ[i]? = some (.v d) → d.isNon = false → Ev (v2 isNonD (vVar i) (vC .non)) ρ (.bl (decide False)) := fun i ρ d h hd => Ev.v2 (Ev.var h) Ev.c (by show some (D.bl d.isNon) = _; rw [hd]; rfl)
  refine Run.seq (Run.ifP (P := False) (no 2 _ _ rfl hN.isNon) (fun h => h.elim) fun _ => Run.next ?_)
  refine Run.seq (Run.ifP (P := False) (no 3 _ _ rfl hB.isNon) (fun h => h.elim) fun _ => Run.next ?_)
  refine Run.seq (Run.ifP (P := False) (no 4 _ _ rfl hL.isNon) (fun h => h.elim) fun _ => Run.next ?_)
  refine Run.sfld (xs := []) rfl rfl (Ev.var rfl) (Run.sfld (xs := [landD mills ps]) rfl rfl (Ev.callP (ds := [N]) (EvL.cons (Ev.var rfl) .nil) .nil ⟨rfl, rfl⟩ e1) ?_)
  refine Run.sfld (xs := [landD mills ps, .tup (low.map D.int)]) rfl rfl (Ev.callP (ds := [B]) (EvL.cons (Ev.var rfl) .nil) .nil ⟨rfl, rfl⟩ e2) ?_
  refine Run.sfld (xs := [landD mills ps, .tup (low.map D.int), .tup (high.map optD)]) rfl rfl (Ev.callP (ds := [L]) (EvL.cons (Ev.var rfl) .nil) .nil ⟨rfl, rfl⟩ e3) ?_
  refine Run.sdropA (Ev.callP (ds := [landD mills ps, .tup (low.map D.int)]) (EvL.cons (Ev.var rfl) (EvL.cons (Ev.v1 (Ev.var rfl) rfl) .nil)) .nil ⟨rfl, rfl⟩ c1) rfl ?_
  refine Run.sdropA (Ev.callP (ds := [landD mills ps, .tup (high.map optD)]) (EvL.cons (Ev.var rfl) (EvL.cons (Ev.v1 (Ev.var rfl) rfl) .nil)) .nil ⟨rfl, rfl⟩ c2) rfl ?_
  exact Run.dropA (Ev.callP (ds := [landD mills ps, .tup (lets.map letD)]) (EvL.cons (Ev.var rfl) (EvL.cons (Ev.v1 (Ev.var rfl) rfl) .nil)) .nil ⟨rfl, rfl⟩ c3) rfl ⟨_, rfl, rfl⟩
end
end LW
end

section
set_option maxHeartbeats 4000000
namespace LW
open PySem L2 EV
local macro_rules | `(tactic| get_elem_tactic_extensible) => `(tactic| first
  | ((with_reducible apply Ev.var); exact rfl)
  | with_reducible exact Ev.c
  | assumption
  | ((with_reducible apply Ev.add) <;> get_elem_tactic_extensible)
  | ((with_reducible apply Ev.sub) <;> get_elem_tactic_extensible)
  | ((with_reducible apply Ev.mulR) <;> get_elem_tactic_extensible)
  | ((with_reducible apply Ev.mulL) <;> get_elem_tactic_extensible)
  | ((with_reducible apply Ev.mod) <;> get_elem_tactic_extensible)
  | ((with_reducible apply Ev.fdiv) <;> get_elem_tactic_extensible)
  | ((with_reducible apply Ev.pow) <;> get_elem_tactic_extensible)
  | ((with_reducible apply Ev.neg) <;> get_elem_tactic_extensible)
  | ((with_reducible apply Ev.lt) <;> get_elem_tactic_extensible)
  | ((with_reducible apply Ev.le) <;> get_elem_tactic_extensible)
  | ((with_reducible apply Ev.gt) <;> get_elem_tactic_extensible)
  | ((with_reducible apply Ev.ge) <;> get_elem_tactic_extensible)
  | ((with_reducible apply Ev.eqI) <;> get_elem_tactic_extensible)
  | ((with_reducible apply Ev.neI) <;> get_elem_tactic_extensible)
  | ((with_reducible apply Ev.isN) <;> get_elem_tactic_extensible)
  | ((with_reducible apply Ev.notN) <;> get_elem_tactic_extensible)
  | ((with_reducible apply Ev.notP) <;> get_elem_tactic_extensible)
  | ((with_reducible apply Ev.andP) <;> get_elem_tactic_extensible)
  | ((with_reducible apply Ev.orP) <;> get_elem_tactic_extensible)
  | ((with_reducible apply Ev.int_) <;> get_elem_tactic_extensible)
  | ((with_reducible apply Ev.intB) <;> get_elem_tactic_extensible)
  | ((with_reducible apply Ev.lenL) <;> get_elem_tactic_extensible)
  | ((with_reducible apply Ev.lenT) <;> get_elem_tactic_extensible)
  | ((with_reducible apply Ev.lenS) <;> get_elem_tactic_extensible)
  | ((with_reducible apply Ev.min_) <;> get_elem_tactic_extensible)
  | ((with_reducible apply Ev.max_) <;> get_elem_tactic_extensible)
  | ((with_reducible apply Ev.abs_) <;> get_elem_tactic_extensible)
  | ((with_reducible apply Ev.tupleL) <;> get_elem_tactic_extensible)
  | ((with_reducible apply Ev.tupleT) <;> get_elem_tactic_extensible)
  | ((with_reducible apply EvL.listL) <;> get_elem_tactic_extensible)
  | ((with_reducible apply EvL.listT) <;> get_elem_tactic_extensible)
  | ((with_reducible apply Ev.ixL) <;> get_elem_tactic_extensible)
  | ((with_reducible apply Ev.ixT) <;> get_elem_tactic_extensible)
  | ((with_reducible apply Ev.ixM) <;> get_elem_tactic_extensible)
  | ((with_reducible apply Ev.ixMT) <;> get_elem_tactic_extensible)
  | ((with_reducible apply Ev.tup) <;> get_elem_tactic_extensible)
  | ((with_reducible apply Ev.vL) <;> get_elem_tactic_extensible)
  | with_reducible exact EvL.nil
  | ((with_reducible apply EvL.cons) <;> get_elem_tactic_extensible)
  | ((with_reducible apply EvL.lenOk) <;> get_elem_tactic_extensible)
  | ((with_reducible apply EvL.range1) <;> get_elem_tactic_extensible)
  | ((with_reducible apply EvL.seqL) <;> get_elem_tactic_extensible)
  | ((with_reducible apply EvL.seqT) <;> get_elem_tactic_extensible)
  | ((with_reducible apply EvL.seqS) <;> get_elem_tactic_extensible)
  | (intro; get_elem_tactic_extensible)
  | exact (show GetElem?.getElem? (List.cons _ _) _ = some _ from rfl)
  | omega
  | (simp only [List.length_map, List.length_append, List.length_replicate, List.length_cons, List.length_nil, List.length_range] <;> omega))
section
variable {mills : Int} {ps : List (Int × Int)} {low : List Int} {high : List (Option Int)} {lets : List (List Int)}
def cntL (m : Nat) (ps : List (Int × Int)) (bs : List Int) : Nat → List Int
  | 0 => List.replicate m 0
  | n + 1 => (cntL m ps bs n).set (mE (at_ ps (n : Int)) (at_ bs (n : Int))).toNat (at_ (cntL m ps bs n) (mE (at_ ps (n : Int)) (at_ bs (n : Int))) + 1)
theorem mE_ok {mills : Int} {p : Int × Int} (h : 0 ≤ p.1 ∧ p.1 < mills ∧ 0 ≤ p.2 ∧ p.2 < mills ∧ p.1 ≠ p.2) (s : Int) : 0 ≤ mE p s ∧ mE p s < mills := by
  unfold mE
  split
  · exact ⟨h.1, h.2.1⟩
  · exact ⟨h.2.2.1, h.2.2.2.1⟩
theorem cntL_len (m : Nat) (ps : List (Int × Int)) (bs : List Int) : ∀ n, (cntL m ps bs n).length = m
  | 0 => by simp [cntL]
  | n + 1 => by rw [cntL, List.length_set, cntL_len m ps bs n]
theorem zip2_get {α β : Type} [Inhabited α] [Inhabited β] {A : α → D} {B : β → D} {xs : List α} {ys : List β} {k : Nat} {d : D} (h : (zipW2 (xs.map A) (ys.map B))[k]? = some d) : d = .tup [A (at_ xs (k : Int)), B (at_ ys (k : Int))] ∧ k < xs.length ∧ k < ys.length := by
  have hl := (List.getElem?_eq_some_iff.mp h).1
  rw [zipW2_length, List.length_map, List.length_map] at hl
  have g1 := at_get (xs := xs) (i := (k : Int)) (by omega) (by omega)
  have g2 := at_get (xs := ys) (i := (k : Int)) (by omega) (by omega)
  rw [Int.toNat_natCast] at g1 g2
  have q := zipW2_get (xs.map A) (ys.map B) k (A (at_ xs (k : Int))) (B (at_ ys (k : Int))) (by rw [List.getElem?_map, g1]; rfl) (by rw [List.getElem?_map, g2]; rfl)
  rw [h] at q
  exact ⟨Option.some.inj q, by omega, by omega⟩
theorem zip3_get {α β γ : Type} [Inhabited α] [Inhabited β] [Inhabited γ] {A : α → D} {B : β → D} {C : γ → D} {xs : List α} {ys : List β} {zs : List γ} {k : Nat} {d : D} (h : (zipW3 (xs.map A) (ys.map B) (zs.map C))[k]? = some d) : d = .tup [A (at_ xs (k : Int)), B (at_ ys (k : Int)), C (at_ zs (k : Int))] ∧ k < xs.length ∧ k < ys.length ∧ k < zs.length := by
  have hl := (List.getElem?_eq_some_iff.mp h).1
  rw [zipW3_length, List.length_map, List.length_map, List.length_map] at hl
  have g1 := at_get (xs := xs) (i := (k : Int)) (by omega) (by omega)
  have g2 := at_get (xs := ys) (i := (k : Int)) (by omega) (by omega)
  have g3 := at_get (xs := zs) (i := (k : Int)) (by omega) (by omega)
  rw [Int.toNat_natCast] at g1 g2 g3
  have q := zipW3_get (xs.map A) (ys.map B) (zs.map C) k (A (at_ xs (k : Int))) (B (at_ ys (k : Int))) (C (at_ zs (k : Int))) (by rw [List.getElem?_map, g1]; rfl) (by rw [List.getElem?_map, g2]; rfl) (by rw [List.getElem?_map, g3]; rfl)
  rw [h] at q
  exact ⟨Option.some.inj q, by omega, by omega, by omega⟩
theorem SeqA.seqD {α : Type} {A : α → D} {V : D} {xs : List α} (h : SeqA A V xs) : EV.seqD V = some (xs.map A) := by rcases h with rfl | rfl <;> rfl
theorem EvL.zip2 {α β : Type} {A : α → D} {B : β → D} {V U : D} {xs : List α} {ys : List β} {fa fb : FE} {ρ : EV.Env} (ha : Ev fa ρ V) (hb : Ev fb ρ U) (hV : SeqA A V xs) (hU : SeqA B U ys) : EvL (iZip2 fa fb) ρ (zipW2 (xs.map A) (ys.map B)) := by
  unfold EvL iZip2
  rw [ha, hb]
  show (EV.seqD V).bind _ = _
  rw [hV.seqD]
  show (EV.seqD U).map _ = _
  rw [hU.seqD]
  rfl
theorem EvL.zip3 {α β γ : Type} {A : α → D} {B : β → D} {C : γ → D} {V U Z : D} {xs : List α} {ys : List β} {zs : List γ} {fa fb fc : FE} {ρ : EV.Env} (ha : Ev fa ρ V) (hb : Ev fb ρ U) (hc : Ev fc ρ Z) (hV : SeqA A V xs) (hU : SeqA B U ys) (hZ : SeqA C Z zs) : EvL (iZip3 fa fb fc) ρ (zipW3 (xs.map A) (ys.map B) (zs.map C)) := by
  unfold EvL iZip3
  rw [ha, hb, hc]
  show (EV.seqD V).bind _ = _
  rw [hV.seqD]
  show (EV.seqD U).bind _ = _
  rw [hU.seqD]
  show (EV.seqD Z).map _ = _
  rw [hZ.seqD]
  rfl
theorem enum_map {α : Type} [Inhabited α] (A : α → D) (xs : List α) : enumFrom 0 (xs.map A) = (List.range xs.length).map fun k : Nat => D.tup [.int (k : Nat), A (at_ xs (k : Int))] := by
  apply List.ext_getElem?
  intro i
  by_cases h : i < xs.length
  · have g1 := at_get (xs := xs) (i := (i : Int)) (by omega) (by omega)
    rw [Int.toNat_natCast] at g1
    rw [enumFrom_get (xs.map A) 0 i (A (at_ xs (i : Int))) (by rw [List.getElem?_map, g1]; rfl), List.getElem?_map, List.getElem?_range h, Nat.zero_add]
    rfl
  · rw [List.getElem?_eq_none (by rw [enumFrom_length, List.length_map]; omega), List.getElem?_eq_none (by rw [List.length_map, List.length_range]; omega)]
theorem EvL.enumS {α : Type} [Inhabited α] {A : α → D} {V : D} {xs : List α} {f : FE} {ρ : EV.Env} (h : SeqA A V xs) (e : Ev f ρ V) : EvL (iEnum f) ρ ((List.range xs.length).map fun k : Nat => D.tup [.int (k : Nat), A (at_ xs (k : Int))]) := by
  rw [← enum_map]
  rcases h with rfl | rfl
  · exact EvL.enumL e
  · exact EvL.enumT e
/-- the numbers below n that pass, as ints -/
def pickL (n : Nat) (q : Nat → Bool) : List Int := ((List.range n).filter q).map fun k : Nat => (k : Int)
theorem pickL_of {n : Nat} {q : Nat → Prop} [DecidablePred q] : (List.range n).filterMap (fun k : Nat => if q k then some (D.int (k : Nat)) else none) = (pickL n fun k => decide (q k)).map D.int := by
  rw [filterMap_if (fun k : Nat => D.int (k : Nat)) q]
  unfold pickL
  rw [List.map_map]
  rfl
theorem pickL_nil {n : Nat} {q : Nat → Bool} : pickL n q = [] ↔ ∀ k, k < n → q k = false := by
  unfold pickL
  rw [List.map_eq_nil_iff, List.filter_eq_nil_iff]
  constructor
  · intro h k hk
    have := h k (List.mem_range.mpr hk)
    simpa using this
  · intro h k hk
    rw [h k (List.mem_range.mp hk)]
    simp
theorem pickL_len (n : Nat) (q : Nat → Bool) : (pickL n q).length ≤ n := by
  unfold pickL
  rw [List.length_map]
  refine Nat.le_trans (List.length_filter_le _ _) ?_
  rw [List.length_range]
  exact Nat.le_refl n
def outB (c n : Int) (o : Option Int) : Bool := decide (c < n) || overD o c
theorem out_ev {fc fn fo : FE} {ρ : EV.Env} {c n : Int} {o : Option Int} (hc : Ev fc ρ (.int c)) (hn : Ev fn ρ (.int n)) (ho : Ev fo ρ (optD o)) : Ev (vOr (v2 ltD fc fn) (vAnd (v2 notNonD fo (vC .non)) (v2 gtD fc fo))) ρ (.bl (decide (outB c n o = true))) := by
  have q := over_ev2 ho hc
  have e : D.bl (overD o c) = .bl (decide (overD o c = true)) := by simp
  rw [e] at q
  have := Ev.orP (P := c < n) (Ev.lt hc hn) fun _ => q
  have e2 : decide (c < n ∨ overD o c = true) = decide (outB c n o = true) := by
    unfold outB
    rw [Bool.eq_iff_iff]
    simp
  rw [e2] at this
  exact this
theorem nin_ints {f fb : FE} {ρ : EV.Env} {x : Int} {G : List Int} {V : D} (ha : Ev f ρ (.int x)) (hb : Ev fb ρ V) (hV : V = .lst (G.map D.int) ∨ V = .tup (G.map D.int)) : Ev (v2 ninD f fb) ρ (.bl (decide (x ∉ G))) := by
  have := Ev.nin ha hb hV (pl_int 8 x) (pls_map (pl_int 8) G)
  rw [any_int] at this
  rw [show decide (x ∉ G) = !decide (x ∈ G) by simp]
  exact this
def outL (mills : Int) (ps : List (Int × Int)) (low : List Int) (high : List (Option Int)) (bs : List Int) : List Int := pickL mills.toNat fun k => decide (outB (at_ (cntL mills.toNat ps bs ps.length) (k : Int)) (at_ low (k : Int)) (at_ high (k : Int)) = true)
def strayL (ps : List (Int × Int)) (lets : List (List Int)) (bs : List Int) : List Int := pickL ps.length fun k => decide (at_ bs (k : Int) ∉ at_ lets (k : Int))
theorem contains_ok (w : WOk mills ps low high lets) {bs : List Int} {V : D} (hb : Bits ps.length bs) (hV : SeqA D.int V bs) : sem_Season__contains [seasonD (landD mills ps) low high lets, V] = some (.ok (.bl (decide (strayL ps lets bs = [] ∧ outL mills ps low high bs = [])))) := by
  generalize hS : seasonD (landD mills ps) low high lets = S
  suffices H : Run g_Season__contains [.v S, .v V, .no, .no, .no, .no, .no, .no, .no, .no, .no] (Ret fun d => d = .bl (decide (strayL ps lets bs = [] ∧ outL mills ps low high bs = []))) by
    obtain ⟨d, h, rfl⟩ := sem_ret (n := 11) (ds := [S, V]) H
    exact h
  have m1 := w.m1
  have m2 := w.m2
  have pl := w.pl
  have ll := w.ll
  have hl := w.lo.1
  have hh := w.hl
  have hbl : bs.length = ps.length := hb.1
  have f1 : ∀ ρ : EV.Env, ρ[0]? = some (.v S) → Ev (v1 (fldD 6 1) (vVar 0)) ρ (.tup (low.map D.int)) := fun ρ h => by subst hS; exact Ev.v1 (Ev.var h) rfl
  have f2 : ∀ ρ : EV.Env, ρ[0]? = some (.v S) → Ev (v1 (fldD 6 2) (vVar 0)) ρ (.tup (high.map optD)) := fun ρ h => by subst hS; exact Ev.v1 (Ev.var h) rfl
  have f3 : ∀ ρ : EV.Env, ρ[0]? = some (.v S) → Ev (v1 (fldD 6 3) (vVar 0)) ρ (.tup (lets.map letD)) := fun ρ h => by subst hS; exact Ev.v1 (Ev.var h) rfl
  have f0 : ∀ ρ : EV.Env, ρ[0]? = some (.v S) → Ev (v1 (fldD 7 1) (v1 (fldD 6 0) (vVar 0))) ρ (.tup (ps.map pairD)) := fun ρ h => by subst hS; exact Ev.v1 (Ev.v1 (Ev.var h) rfl) rfl
  clear hS
  have q0 := EvL.lc (fi := iSeq (v1 (fldD 6 1) (vVar 0))) (fg := nmG 10) (ft := vYes) (fe := vC (.int 0)) (vs := [10]) (ρ := [.v S, .v V, .no, .no, .no, .no, .no, .no, .no, .no, .no]) low D.int (fun _ => some (.int 0)) (EvL.seqT (f1 _ rfl)) (by omega) fun x hx => item_yes rfl Ev.c
  rw [filterMap_some] at q0
  have e0 : low.map (fun _ => D.int 0) = (cntL mills.toNat ps bs 0).map D.int := by
    rw [cntL, List.map_replicate]
    apply List.ext_getElem
    · simp [hl]
    · intro i h1 h2
      simp
  rw [e0] at q0
  refine Run.sown q0 (show (2 : Nat) < 11 by decide) ?_
  show Run (gSeq _ _) [.v S, .v V, .own ((cntL mills.toNat ps bs 0).map D.int), .no, .no, .no, .no, .no, .no, .no, .no] _
  refine Run.seq (Run.for (fun n ρ => (∀ i : Nat, i < n → at_ bs (i : Int) ∈ at_ lets (i : Int)) ∧ ∃ a b c d, ρ = [.v S, .v V, .own ((cntL mills.toNat ps bs n).map D.int), a, b, c, d, .no, .no, .no, .no]) (EvL.zip3 (f0 _ rfl) (Ev.var rfl) (f3 _ rfl) (.inr (rfl : D.tup (ps.map pairD) = _)) hV (.inr (rfl : D.tup (lets.map letD) = _))) ⟨fun i hi => by omega, .no, .no, .no, .no, rfl⟩ (fun k d ρ hd hI => ?_) fun ρ hI => ?_)
  · obtain ⟨hin, a, b, c, d, rfl⟩ := hI
    obtain ⟨rfl, hk, hk2, hk3⟩ := zip3_get hd
    have hm := w.ok _ (at_mem (xs := ps) (i := (k : Int)) (by omega) (by omega))
    have hr := mE_ok hm (at_ bs (k : Int))
    have hcl := cntL_len mills.toNat ps bs k
    refine ⟨_, rfl, Run.seq (Run.ifP (P := at_ bs (k : Int) ∉ at_ lets (k : Int)) (nin_ints (Ev.var rfl) (Ev.var rfl) (.inr rfl)) (fun h => ?_) fun h => Run.next ?_)⟩
    · refine Run.ret Ev.c ?_
      show D.bl false = D.bl _
      rw [decide_eq_false]
      rintro ⟨h1, _⟩
      have := (pickL_nil.mp h1) k hk
      simp only [decide_eq_false_iff_not, Decidable.not_not] at this
      exact h this
    · refine Run.sset (pair_at (Ev.var rfl) (Ev.var rfl) (hb.at (k := (k : Int)) (by omega) (by omega))) ?_
      refine Run.setIxA (xs := (cntL mills.toNat ps bs k).map D.int) (k := mE (at_ ps (k : Int)) (at_ bs (k : Int))) (d := .int (at_ (cntL mills.toNat ps bs k) (mE (at_ ps (k : Int)) (at_ bs (k : Int))) + 1)) rfl (Ev.add (Ev.ixM (A := D.int) (Ev.var rfl) (Ev.var rfl) hr.1 (by omega)) Ev.c) rfl (Ev.var rfl) hr.1 (by rw [List.length_map]; omega) ⟨fun i hi => ?_, _, _, _, _, by rw [cntL, ← map_set]; rfl⟩
      by_cases e : i = k
      · subst e
        exact Decidable.not_not.mp h
      · exact hin i (by omega)
  · obtain ⟨hin, a, b, c, d, rfl⟩ := hI
    rw [zipW3_length, List.length_map, List.length_map, List.length_map, hbl, ll, Nat.min_self, Nat.min_self] at hin ⊢
    have hst : strayL ps lets bs = [] := pickL_nil.mpr fun k hk => by
      simp only [decide_eq_false_iff_not, Decidable.not_not]
      exact hin k hk
    have hcl := cntL_len mills.toNat ps bs ps.length
    have ho : ∀ q, outL mills ps low high bs = q ↔ (pickL mills.toNat fun k => decide (outB (at_ (cntL mills.toNat ps bs ps.length) (k : Int)) (at_ low (k : Int)) (at_ high (k : Int)) = true)) = q := fun q => Iff.rfl
    simp only [ho]
    show Run (gSeq (gRel 2 _) _) [.v S, .v V, .own ((cntL mills.toNat ps bs ps.length).map D.int), a, b, c, d, .no, .no, .no, .no] _
    generalize cntL mills.toNat ps bs ps.length = cs at hcl ⊢
    refine Run.srel (Run.seq (Run.for (fun n ρ => (∀ i : Nat, i < n → outB (at_ cs (i : Int)) (at_ low (i : Int)) (at_ high (i : Int)) = false) ∧ ∃ x y z, ρ = [.v S, .v V, .v (.lst (cs.map D.int)), a, b, c, d, x, y, z, .no]) (EvL.zip3 (Ev.var rfl) (f1 _ rfl) (f2 _ rfl) (.inl (rfl : D.lst (cs.map D.int) = _)) (.inr (rfl : D.tup (low.map D.int) = _)) (.inr (rfl : D.tup (high.map optD) = _))) ⟨fun i hi => by omega, .no, .no, .no, rfl⟩ (fun k d' ρ hd hI => ?_) fun ρ hI => ?_))
    · obtain ⟨hno, x, y, z, rfl⟩ := hI
      obtain ⟨rfl, hk, hk2, hk3⟩ := zip3_get hd
      refine ⟨_, rfl, Run.ifP (out_ev (Ev.var rfl) (Ev.var rfl) (Ev.var rfl)) (fun h => ?_) fun h => Run.next ⟨fun i hi => ?_, _, _, _, rfl⟩⟩
      · refine Run.ret Ev.c ?_
        show D.bl false = D.bl _
        rw [decide_eq_false]
        rintro ⟨_, h1⟩
        have := (pickL_nil.mp h1) k (by omega)
        simp only [decide_eq_false_iff_not] at this
        exact this h
      · by_cases e : i = k
        · subst e
          exact Bool.eq_false_iff.mpr h
        · exact hno i (by omega)
    · obtain ⟨hno, x, y, z, rfl⟩ := hI
      rw [zipW3_length, List.length_map, List.length_map, List.length_map, hcl, hl, hh, Nat.min_self, Nat.min_self] at hno
      refine Run.ret Ev.c ?_
      show D.bl true = D.bl _
      rw [decide_eq_true]
      exact ⟨hst, pickL_nil.mpr fun k hk => by rw [hno k hk]; simp⟩
theorem pickL_succ (n : Nat) (q : Nat → Bool) : pickL (n + 1) q = pickL n q ++ if q n then [(n : Int)] else [] := by
  unfold pickL
  rw [List.range_succ, List.filter_append, List.map_append]
  by_cases h : q n = true
  · simp [h]
  · simp [h]
theorem law_fed_eq (m1 : 1 ≤ mills) (m2 : mills ≤ 1000) (ok : PairsOk mills ps) (hp : ps.length ≤ 1000) {bs : List Int} {V : D} (hb : Bits ps.length bs) (hV : SeqA D.int V bs) : sem_law_fed [.int mills, .lst (ps.map pairD), V] = some (.ok (.lst ((cntL mills.toNat ps bs ps.length).map D.int))) := by
  suffices H : Run g_law_fed [.v (.int mills), .v (.lst (ps.map pairD)), .v V, .no, .no, .no] (Ret fun d => d = .lst ((cntL mills.toNat ps bs ps.length).map D.int)) by
    obtain ⟨d, h, rfl⟩ := sem_ret (n := 6) (ds := [.int mills, .lst (ps.map pairD), V]) H
    exact h
  have hbl : bs.length = ps.length := hb.1
  refine Run.seq (Run.own (EvL.lcr (fun _ => .int 0) (EvL.range1 (j := mills) (Ev.var rfl) (by omega)) (by omega) fun k hk => by get_elem_tactic_extensible) (by simp) ?_)
  rw [map_zero]
  refine Run.seq (Run.for (fun n ρ => ∃ a b, ρ = [.v (.int mills), .v (.lst (ps.map pairD)), .v V, .own ((cntL mills.toNat ps bs n).map D.int), a, b]) (EvL.range1 (j := ((ps.map pairD).length : Nat)) (Ev.lenL (Ev.var rfl)) (by rw [List.length_map]; omega)) ⟨.no, .no, rfl⟩ (fun k d ρ hd hI => ?_) fun ρ hI => ?_)
  · obtain ⟨a, b, rfl⟩ := hI
    obtain ⟨rfl, hk⟩ := range0_get hd
    have hk : k < ps.length := by rw [List.length_map] at hk; omega
    have hm := ok _ (at_mem (xs := ps) (i := (k : Int)) (by omega) (by omega))
    have hr := mE_ok hm (at_ bs (k : Int))
    have hcl := cntL_len mills.toNat ps bs k
    refine ⟨_, rfl, Run.sset (pair_at (Ev.ixM (A := pairD) (Ev.var rfl) (Ev.var rfl) (by omega) (by omega)) (hV.ix (Ev.var rfl) (Ev.var rfl) (by omega) (by omega)) (hb.at (k := (k : Int)) (by omega) (by omega))) ?_⟩
    exact Run.setIxA (xs := (cntL mills.toNat ps bs k).map D.int) (k := mE (at_ ps (k : Int)) (at_ bs (k : Int))) (d := .int (at_ (cntL mills.toNat ps bs k) (mE (at_ ps (k : Int)) (at_ bs (k : Int))) + 1)) rfl (Ev.add (Ev.ixM (A := D.int) (Ev.var rfl) (Ev.var rfl) hr.1 (by omega)) Ev.c) rfl (Ev.var rfl) hr.1 (by rw [List.length_map]; omega) ⟨_, _, by rw [cntL, ← map_set]; rfl⟩
  · obtain ⟨a, b, rfl⟩ := hI
    rw [rangeD_length, Int.toNat_natCast, List.length_map]
    exact Run.rel (Run.ret (Ev.var rfl) rfl)
theorem pick_lc {n : Nat} {fi : FL} {ft : FE} {v : Nat} {ρ : EV.Env} (q : Nat → Prop) [DecidablePred q] (hi : EvL fi ρ (rangeD 0 n)) (hn : n ≤ 90000) (ht : ∀ k : Nat, k < n → Ev ft ((mask (wipeE ρ [v])).set v (.v (.int (k : Nat)))) (.bl (decide (q k)))) (hv : ∀ d, Ev (vVar v) ((mask (wipeE ρ [v])).set v (.v d)) d) :
    EvL (nLc fi (nmG v) ft (vVar v) [v]) ρ ((pickL n fun k => decide (q k)).map D.int) := by
  have h := EvL.lc (fi := fi) (fg := nmG v) (ft := ft) (fe := vVar v) (vs := [v]) (ρ := ρ) (List.range n) (fun j => D.int ((j : Nat) : Int)) (fun j => if q j then some (.int (j : Nat)) else none) (by rw [← range0_map]; exact hi) (by rw [List.length_range]; omega) fun j hj => item_if rfl (ht j (List.mem_range.mp hj)) fun _ => hv _
  rw [pickL_of] at h
  exact h
end
end LW
end

section
set_option maxHeartbeats 4000000
namespace LW
open PySem L2 EV
local macro_rules | `(tactic| get_elem_tactic_extensible) => `(tactic| first
  | ((with_reducible apply Ev.var); exact rfl)
  | with_reducible exact Ev.c
  | assumption
  | ((with_reducible apply Ev.add) <;> get_elem_tactic_extensible)
  | ((with_reducible apply Ev.sub) <;> get_elem_tactic_extensible)
  | ((with_reducible apply Ev.mulR) <;> get_elem_tactic_extensible)
  | ((with_reducible apply Ev.mulL) <;> get_elem_tactic_extensible)
  | ((with_reducible apply Ev.mod) <;> get_elem_tactic_extensible)
  | ((with_reducible apply Ev.fdiv) <;> get_elem_tactic_extensible)
  | ((with_reducible apply Ev.pow) <;> get_elem_tactic_extensible)
  | ((with_reducible apply Ev.neg) <;> get_elem_tactic_extensible)
  | ((with_reducible apply Ev.lt) <;> get_elem_tactic_extensible)
  | ((with_reducible apply Ev.le) <;> get_elem_tactic_extensible)
  | ((with_reducible apply Ev.gt) <;> get_elem_tactic_extensible)
  | ((with_reducible apply Ev.ge) <;> get_elem_tactic_extensible)
  | ((with_reducible apply Ev.eqI) <;> get_elem_tactic_extensible)
  | ((with_reducible apply Ev.neI) <;> get_elem_tactic_extensible)
  | ((with_reducible apply Ev.isN) <;> get_elem_tactic_extensible)
  | ((with_reducible apply Ev.notN) <;> get_elem_tactic_extensible)
  | ((with_reducible apply Ev.notP) <;> get_elem_tactic_extensible)
  | ((with_reducible apply Ev.andP) <;> get_elem_tactic_extensible)
  | ((with_reducible apply Ev.orP) <;> get_elem_tactic_extensible)
  | ((with_reducible apply Ev.int_) <;> get_elem_tactic_extensible)
  | ((with_reducible apply Ev.intB) <;> get_elem_tactic_extensible)
  | ((with_reducible apply Ev.lenL) <;> get_elem_tactic_extensible)
  | ((with_reducible apply Ev.lenT) <;> get_elem_tactic_extensible)
  | ((with_reducible apply Ev.lenS) <;> get_elem_tactic_extensible)
  | ((with_reducible apply Ev.min_) <;> get_elem_tactic_extensible)
  | ((with_reducible apply Ev.max_) <;> get_elem_tactic_extensible)
  | ((with_reducible apply Ev.abs_) <;> get_elem_tactic_extensible)
  | ((with_reducible apply Ev.tupleL) <;> get_elem_tactic_extensible)
  | ((with_reducible apply Ev.tupleT) <;> get_elem_tactic_extensible)
  | ((with_reducible apply EvL.listL) <;> get_elem_tactic_extensible)
  | ((with_reducible apply EvL.listT) <;> get_elem_tactic_extensible)
  | ((with_reducible apply Ev.ixL) <;> get_elem_tactic_extensible)
  | ((with_reducible apply Ev.ixT) <;> get_elem_tactic_extensible)
  | ((with_reducible apply Ev.ixM) <;> get_elem_tactic_extensible)
  | ((with_reducible apply Ev.ixMT) <;> get_elem_tactic_extensible)
  | ((with_reducible apply Ev.tup) <;> get_elem_tactic_extensible)
  | ((with_reducible apply Ev.vL) <;> get_elem_tactic_extensible)
  | with_reducible exact EvL.nil
  | ((with_reducible apply EvL.cons) <;> get_elem_tactic_extensible)
  | ((with_reducible apply EvL.lenOk) <;> get_elem_tactic_extensible)
  | ((with_reducible apply EvL.range1) <;> get_elem_tactic_extensible)
  | ((with_reducible apply EvL.seqL) <;> get_elem_tactic_extensible)
  | ((with_reducible apply EvL.seqT) <;> get_elem_tactic_extensible)
  | ((with_reducible apply EvL.seqS) <;> get_elem_tactic_extensible)
  | (intro; get_elem_tactic_extensible)
  | exact (show GetElem?.getElem? (List.cons _ _) _ = some _ from rfl)
  | omega
  | (simp only [List.length_map, List.length_append, List.length_replicate, List.length_cons, List.length_nil, List.length_range] <;> omega))
section
variable {mills : Int} {ps : List (Int × Int)} {low : List Int} {high : List (Option Int)} {lets : List (List Int)}
theorem cut_mapA {α : Type} (A : α → D) (xs : List α) (lo hi : Option Int) : cutD (xs.map A) lo hi = ((xs.drop (HT.sIx xs.length 0 lo)).take (HT.sIx xs.length xs.length hi - HT.sIx xs.length 0 lo)).map A := by
  unfold cutD
  rw [List.length_map, List.map_take, List.map_drop]
theorem cut_upto {α : Type} (A : α → D) (xs : List α) {k : Int} (h0 : 0 ≤ k) : cutD (xs.map A) none (some k) = (xs.take k.toNat).map A := by
  rw [cut_mapA]
  have e : HT.sIx xs.length xs.length (some k) = min k.toNat xs.length := by
    show (if k < 0 then _ else _) = _
    rw [if_neg (by omega)]
  rw [e]
  show ((xs.drop 0).take (min k.toNat xs.length - 0)).map A = _
  rw [List.drop_zero, Nat.sub_zero]
  congr 1
  rcases Nat.le_total k.toNat xs.length with h | h
  · rw [Nat.min_eq_left h]
  · rw [Nat.min_eq_right h, List.take_of_length_le h, List.take_length]
theorem cut_from {α : Type} (A : α → D) (xs : List α) {k : Int} (h0 : 0 ≤ k) : cutD (xs.map A) (some k) none = (xs.drop k.toNat).map A := by
  rw [cut_mapA]
  have e : HT.sIx xs.length 0 (some k) = min k.toNat xs.length := by
    show (if k < 0 then _ else _) = _
    rw [if_neg (by omega)]
  rw [e]
  show ((xs.drop (min k.toNat xs.length)).take (xs.length - min k.toNat xs.length)).map A = _
  congr 1
  rcases Nat.le_total k.toNat xs.length with h | h
  · rw [Nat.min_eq_left h, List.take_of_length_le (by rw [List.length_drop]; omega)]
  · rw [Nat.min_eq_right h, List.drop_length, List.drop_of_length_le h, List.take_nil]
theorem sliceL_upto {α : Type} {A : α → D} {f fk : FE} {ρ : EV.Env} {xs : List α} {k : Int} (h : Ev f ρ (.lst (xs.map A))) (hk : Ev fk ρ (.int k)) (h0 : 0 ≤ k) : Ev (vSlice f oNone (oSome fk)) ρ (.lst ((xs.take k.toNat).map A)) := by
  unfold Ev vSlice
  rw [h]
  unfold oNone oSome
  rw [hk]
  show some (R.ok (D.lst (cutD (xs.map A) none (some k)))) = _
  rw [cut_upto A xs h0]
theorem sliceL_from {α : Type} {A : α → D} {f fk : FE} {ρ : EV.Env} {xs : List α} {k : Int} (h : Ev f ρ (.lst (xs.map A))) (hk : Ev fk ρ (.int k)) (h0 : 0 ≤ k) : Ev (vSlice f (oSome fk) oNone) ρ (.lst ((xs.drop k.toNat).map A)) := by
  unfold Ev vSlice
  rw [h]
  unfold oNone oSome
  rw [hk]
  show some (R.ok (D.lst (cutD (xs.map A) (some k) none))) = _
  rw [cut_from A xs h0]
theorem Bits.snoc {n : Nat} {bs : List Int} {b : Int} (h : Bits n bs) (hb : b = 0 ∨ b = 1) : Bits (n + 1) (bs ++ [b]) := ⟨by simp [h.1], fun x hx => by
  rcases List.mem_append.mp hx with hx | hx
  · exact h.2 x hx
  · rw [List.mem_singleton.mp hx]; exact hb⟩
theorem Bits.rep {n : Nat} {b : Int} (hb : b = 0 ∨ b = 1) : Bits n (List.replicate n b) := ⟨List.length_replicate, fun x hx => by rw [(List.mem_replicate.mp hx).2]; exact hb⟩
def SetsOk (n m : Nat) (ls : List (List Int)) : Prop := ls.length = m ∧ ∀ l ∈ ls, Bits n l
theorem SetsOk.snoc {n m : Nat} {ls : List (List Int)} {l : List Int} (h : SetsOk n m ls) (hl : Bits n l) : SetsOk n (m + 1) (ls ++ [l]) := ⟨by simp [h.1], fun x hx => by
  rcases List.mem_append.mp hx with hx | hx
  · exact h.2 x hx
  · rw [List.mem_singleton.mp hx]; exact hl⟩
theorem letD_snoc {f : FE} {ρ : EV.Env} {l : List Int} {b : Int} {fb : FE} (h : Ev f ρ (letD l)) (hb : Ev fb ρ (letD [b])) (hl : l.length ≤ 1000) : Ev (v2 addD f fb) ρ (letD (l ++ [b])) := tup_map h hb (by simp; omega)
theorem law_settings_ok (n : Nat) (hn : n ≤ 7) : ∃ ls : List (List Int), sem_law_settings [.int (n : Nat)] = some (.ok (.lst (ls.map letD))) ∧ SetsOk n (2 ^ n) ls := by
  suffices H : Run g_law_settings [.v (.int (n : Nat)), .no, .no, .no, .no] (Ret fun d => ∃ ls : List (List Int), d = .lst (ls.map letD) ∧ SetsOk n (2 ^ n) ls) by
    obtain ⟨d, h, ls, rfl, q⟩ := sem_ret (n := 5) (ds := [.int (n : Nat)]) H
    exact ⟨ls, h, q⟩
  refine Run.sset (d := .lst ([[]].map letD)) rfl ?_
  refine Run.seq (Run.for (fun k ρ => ∃ ls a b c, SetsOk k (2 ^ k) ls ∧ ρ = [.v (.int (n : Nat)), .v (.lst (ls.map letD)), a, b, c]) (range_n (n := n) (Ev.var rfl) (by omega)) ⟨[[]], .no, .no, .no, ⟨rfl, fun l hl => by simp at hl; subst hl; exact ⟨rfl, fun x hx => by simp at hx⟩⟩, rfl⟩ (fun k d ρ hd hI => ?_) fun ρ hI => ?_)
  · obtain ⟨ls, a, b, c, ok, rfl⟩ := hI
    obtain ⟨rfl, hk⟩ := range0_get hd
    have hp : 2 ^ k ≤ 64 := Nat.le_trans (Nat.pow_le_pow_right (n := 2) (by omega) (show k ≤ 6 by omega)) (by decide)
    have hp1 : 2 ^ (k + 1) = 2 ^ k * 2 := Nat.pow_succ ..
    refine ⟨_, rfl, Run.sown (ds := []) (by get_elem_tactic_extensible) (show (3 : Nat) < 5 by decide) ?_⟩
    show Run (gSeq _ _) [.v (.int (n : Nat)), .v (.lst (ls.map letD)), .v (.int k), .own [], c] _
    refine Run.cut (fun ρ => ∃ (R : List (List Int)) (c : Sl), SetsOk (k + 1) (2 ^ k * 2) R ∧ ρ = [.v (.int (n : Nat)), .v (.lst (ls.map letD)), .v (.int k), .own (R.map letD), c]) ?_ fun ρ hρ => ?_
    · refine Run.for (fun i ρ => ∃ (R : List (List Int)) (c : Sl), SetsOk (k + 1) (i * 2) R ∧ ρ = [.v (.int (n : Nat)), .v (.lst (ls.map letD)), .v (.int k), .own (R.map letD), c]) (EvL.seqL (Ev.var rfl)) ⟨[], _, ⟨rfl, fun l hl => by simp at hl⟩, rfl⟩ (fun i d ρ hd hI => ?_) fun ρ hI => ?_
      · obtain ⟨R, c, hR, rfl⟩ := hI
        rw [List.getElem?_map] at hd
        obtain ⟨l, hl, rfl⟩ := Option.map_eq_some_iff.mp hd
        have hi := (List.getElem?_eq_some_iff.mp hl).1
        have hb := ok.2 l (List.mem_of_getElem? hl)
        have hRl := hR.1
        have hll := ok.1
        have hbl := hb.1
        refine ⟨_, rfl, Run.sapp (xs := R.map letD) (d := letD (l ++ [0])) rfl (letD_snoc (Ev.var rfl) rfl (by omega)) (by rw [List.length_map]; omega) ?_⟩
        rw [map_snoc]
        exact Run.app (xs := (R ++ [l ++ [0]]).map letD) (d := letD (l ++ [1])) rfl (letD_snoc (Ev.var rfl) rfl (by omega)) (by simp; omega) ⟨R ++ [l ++ [0]] ++ [l ++ [1]], _, by
          have := (hR.snoc (hb.snoc (.inl rfl))).snoc (hb.snoc (b := 1) (.inr rfl))
          rw [show (i + 1) * 2 = i * 2 + 1 + 1 by omega]
          exact this, by rw [map_snoc]; rfl⟩
      · obtain ⟨R, c, hR, rfl⟩ := hI
        rw [List.length_map, ok.1] at hR
        exact ⟨_, rfl, R, c, hR, rfl⟩
    · obtain ⟨R, c, hR, rfl⟩ := hρ
      refine Run.thenRel (Run.ownA (EvL.listL (Ev.var rfl)) (pures_map (fun x => by exact pures_map (fun y => rfl) x) _) (show (1 : Nat) < 5 by decide) ?_)
      exact ⟨R, _, _, _, by rw [hp1]; exact hR, rfl⟩
  · obtain ⟨ls, a, b, c, ok, rfl⟩ := hI
    rw [rangeD_length] at ok
    exact Run.ret (Ev.var rfl) ⟨ls, rfl, ok⟩
theorem at_bit {n : Nat} {l : List Int} (h : Bits n l) {k : Int} (h0 : 0 ≤ k) (h1 : k < n) : 1 - at_ l k = 0 ∨ 1 - at_ l k = 1 := by
  have := h.at h0 h1
  omega
end
end LW
end

section
set_option maxHeartbeats 4000000
namespace LW
open PySem L2 EV
local macro_rules | `(tactic| get_elem_tactic_extensible) => `(tactic| first
  | ((with_reducible apply Ev.var); exact rfl)
  | with_reducible exact Ev.c
  | assumption
  | ((with_reducible apply Ev.add) <;> get_elem_tactic_extensible)
  | ((with_reducible apply Ev.sub) <;> get_elem_tactic_extensible)
  | ((with_reducible apply Ev.mulR) <;> get_elem_tactic_extensible)
  | ((with_reducible apply Ev.mulL) <;> get_elem_tactic_extensible)
  | ((with_reducible apply Ev.mod) <;> get_elem_tactic_extensible)
  | ((with_reducible apply Ev.fdiv) <;> get_elem_tactic_extensible)
  | ((with_reducible apply Ev.pow) <;> get_elem_tactic_extensible)
  | ((with_reducible apply Ev.neg) <;> get_elem_tactic_extensible)
  | ((with_reducible apply Ev.lt) <;> get_elem_tactic_extensible)
  | ((with_reducible apply Ev.le) <;> get_elem_tactic_extensible)
  | ((with_reducible apply Ev.gt) <;> get_elem_tactic_extensible)
  | ((with_reducible apply Ev.ge) <;> get_elem_tactic_extensible)
  | ((with_reducible apply Ev.eqI) <;> get_elem_tactic_extensible)
  | ((with_reducible apply Ev.neI) <;> get_elem_tactic_extensible)
  | ((with_reducible apply Ev.isN) <;> get_elem_tactic_extensible)
  | ((with_reducible apply Ev.notN) <;> get_elem_tactic_extensible)
  | ((with_reducible apply Ev.notP) <;> get_elem_tactic_extensible)
  | ((with_reducible apply Ev.andP) <;> get_elem_tactic_extensible)
  | ((with_reducible apply Ev.orP) <;> get_elem_tactic_extensible)
  | ((with_reducible apply Ev.int_) <;> get_elem_tactic_extensible)
  | ((with_reducible apply Ev.intB) <;> get_elem_tactic_extensible)
  | ((with_reducible apply Ev.lenL) <;> get_elem_tactic_extensible)
  | ((with_reducible apply Ev.lenT) <;> get_elem_tactic_extensible)
  | ((with_reducible apply Ev.lenS) <;> get_elem_tactic_extensible)
  | ((with_reducible apply Ev.min_) <;> get_elem_tactic_extensible)
  | ((with_reducible apply Ev.max_) <;> get_elem_tactic_extensible)
  | ((with_reducible apply Ev.abs_) <;> get_elem_tactic_extensible)
  | ((with_reducible apply Ev.tupleL) <;> get_elem_tactic_extensible)
  | ((with_reducible apply Ev.tupleT) <;> get_elem_tactic_extensible)
  | ((with_reducible apply EvL.listL) <;> get_elem_tactic_extensible)
  | ((with_reducible apply EvL.listT) <;> get_elem_tactic_extensible)
  | ((with_reducible apply Ev.ixL) <;> get_elem_tactic_extensible)
  | ((with_reducible apply Ev.ixT) <;> get_elem_tactic_extensible)
  | ((with_reducible apply Ev.ixM) <;> get_elem_tactic_extensible)
  | ((with_reducible apply Ev.ixMT) <;> get_elem_tactic_extensible)
  | ((with_reducible apply Ev.tup) <;> get_elem_tactic_extensible)
  | ((with_reducible apply Ev.vL) <;> get_elem_tactic_extensible)
  | with_reducible exact EvL.nil
  | ((with_reducible apply EvL.cons) <;> get_elem_tactic_extensible)
  | ((with_reducible apply EvL.lenOk) <;> get_elem_tactic_extensible)
  | ((with_reducible apply EvL.range1) <;> get_elem_tactic_extensible)
  | ((with_reducible apply EvL.seqL) <;> get_elem_tactic_extensible)
  | ((with_reducible apply EvL.seqT) <;> get_elem_tactic_extensible)
  | ((with_reducible apply EvL.seqS) <;> get_elem_tactic_extensible)
  | (intro; get_elem_tactic_extensible)
  | exact (show GetElem?.getElem? (List.cons _ _) _ = some _ from rfl)
  | omega
  | (simp only [List.length_map, List.length_append, List.length_replicate, List.length_cons, List.length_nil, List.length_range] <;> omega))
section
variable {mills : Int} {ps : List (Int × Int)} {low : List Int} {high : List (Option Int)} {lets : List (List Int)}
/-- the setting runs -/
def RunP (mills : Int) (ps : List (Int × Int)) (low : List Int) (high : List (Option Int)) (lets : List (List Int)) (bs : List Int) : Prop := strayL ps lets bs = [] ∧ outL mills ps low high bs = []
instance {bs : List Int} : Decidable (RunP mills ps low high lets bs) := inferInstanceAs (Decidable (_ ∧ _))
theorem wD_ix {rest : List D} {k : Nat} {ρ : EV.Env} (h : ρ[k]? = some (.v (wD mills ps low high lets rest))) : Ev (v2 ixD (vVar k) (vC (.int 0))) ρ (.int mills) ∧ Ev (v2 ixD (vVar k) (vC (.int 1))) ρ (.lst (ps.map pairD)) ∧ Ev (v2 ixD (vVar k) (vC (.int 2))) ρ (.lst (low.map D.int)) ∧ Ev (v2 ixD (vVar k) (vC (.int 3))) ρ (.lst (high.map optD)) ∧ Ev (v2 ixD (vVar k) (vC (.int 4))) ρ (.lst (lets.map letD)) :=
  ⟨Ev.ixL (Ev.var h) Ev.c (by omega) rfl, Ev.ixL (Ev.var h) Ev.c (by omega) rfl, Ev.ixL (Ev.var h) Ev.c (by omega) rfl, Ev.ixL (Ev.var h) Ev.c (by omega) rfl, Ev.ixL (Ev.var h) Ev.c (by omega) rfl⟩
theorem law_runs_ok (w : WOk mills ps low high lets) {bs : List Int} {V : D} (rest : List D) (hb : Bits ps.length bs) (hV : SeqA D.int V bs) : sem_law_runs [wD mills ps low high lets rest, V] = some (.ok (.bl (decide (RunP mills ps low high lets bs)))) := by
  have ix := fun (k : Nat) (ρ : EV.Env) (h : ρ[k]? = some (.v (wD mills ps low high lets rest))) => wD_ix h
  generalize wD mills ps low high lets rest = S at ix ⊢
  suffices H : Run g_law_runs [.v S, .v V, .no, .no, .no] (Ret fun d => d = .bl (decide (RunP mills ps low high lets bs))) by
    obtain ⟨d, h, rfl⟩ := sem_ret (n := 5) (ds := [S, V]) H
    exact h
  have m1 := w.m1
  have m2 := w.m2
  have pl := w.pl
  have ll := w.ll
  have hl := w.lo.1
  have hh := w.hl
  have hbl : bs.length = ps.length := hb.1
  refine Run.seq (Run.for (fun n ρ => (∀ i : Nat, i < n → at_ bs (i : Int) ∈ at_ lets (i : Int)) ∧ ∃ a, ρ = [.v S, .v V, a, .no, .no]) (range_n (n := ps.length) (by have z := Ev.lenL (ix 0 [.v S, .v V, .no, .no, .no] rfl).2.1; rw [List.length_map] at z; exact z) (by omega)) ⟨fun i hi => by omega, .no, rfl⟩ (fun k d ρ hd hI => ?_) fun ρ hI => ?_)
  · obtain ⟨hin, a, rfl⟩ := hI
    obtain ⟨rfl, hk⟩ := range0_get hd
    refine ⟨_, rfl, Run.ifP (P := at_ bs (k : Int) ∉ at_ lets (k : Int)) (nin_ints (hV.ix (Ev.var rfl) (Ev.var rfl) (by omega) (by omega)) (Ev.ixM (A := letD) (ix 0 _ rfl).2.2.2.2 (Ev.var rfl) (by omega) (by omega)) (.inr rfl)) (fun h => ?_) fun h => Run.next ⟨fun i hi => ?_, _, rfl⟩⟩
    · refine Run.ret Ev.c ?_
      show D.bl false = D.bl _
      rw [decide_eq_false]
      rintro ⟨h1, _⟩
      have := (pickL_nil.mp h1) k hk
      simp only [decide_eq_false_iff_not, Decidable.not_not] at this
      exact h this
    · by_cases e : i = k
      · subst e
        exact Decidable.not_not.mp h
      · exact hin i (by omega)
  · obtain ⟨hin, a, rfl⟩ := hI
    rw [rangeD_length] at hin
    have hst : strayL ps lets bs = [] := pickL_nil.mpr fun k hk => by
      simp only [decide_eq_false_iff_not, Decidable.not_not]
      exact hin k hk
    have hcl := cntL_len mills.toNat ps bs ps.length
    have ho : ∀ q, outL mills ps low high bs = q ↔ (pickL mills.toNat fun k => decide (outB (at_ (cntL mills.toNat ps bs ps.length) (k : Int)) (at_ low (k : Int)) (at_ high (k : Int)) = true)) = q := fun q => Iff.rfl
    have hf := law_fed_eq w.m1 (by omega) w.ok (by omega) hb hV
    simp only [RunP, ho]
    show Run (gSeq (gSet 3 _) _) [.v S, .v V, a, .no, .no] _
    generalize cntL mills.toNat ps bs ps.length = cs at hcl hf ⊢
    refine Run.sset (d := .lst (cs.map D.int)) (Ev.callP (EvL.cons (ix 0 _ rfl).1 (EvL.cons (ix 0 _ rfl).2.1 (EvL.cons (Ev.var rfl) .nil))) .nil ⟨rfl, rfl⟩ hf) ?_
    refine Run.seq (Run.for (fun n ρ => (∀ i : Nat, i < n → outB (at_ cs (i : Int)) (at_ low (i : Int)) (at_ high (i : Int)) = false) ∧ ∃ x, ρ = [.v S, .v V, a, .v (.lst (cs.map D.int)), x]) (range_n (n := mills.toNat) (by have z := (ix 0 [.v S, .v V, a, .v (.lst (cs.map D.int)), .no] rfl).1; rw [show mills = ((mills.toNat : Nat) : Int) by omega] at z; exact z) (by omega)) ⟨fun i hi => by omega, .no, rfl⟩ (fun k d' ρ hd hI => ?_) fun ρ hI => ?_)
    · obtain ⟨hno, x, rfl⟩ := hI
      obtain ⟨rfl, hk⟩ := range0_get hd
      have c1 : ∀ ρ : EV.Env, ρ[3]? = some (.v (.lst (cs.map D.int))) → ρ[4]? = some (.v (.int (k : Nat))) → Ev (v2 ixD (vVar 3) (vVar 4)) ρ (.int (at_ cs (k : Int))) := fun ρ h3 h4 => Ev.ixM (A := D.int) (Ev.var h3) (Ev.var h4) (by omega) (by omega)
      refine ⟨_, rfl, Run.seq (Run.ifP (Ev.lt (c1 _ rfl rfl) (Ev.ixM (A := D.int) (ix 0 _ rfl).2.2.1 (Ev.var rfl) (by omega) (by omega))) (fun h => ?_) fun h => Run.next (Run.ifP (P := overD (at_ high (k : Int)) (at_ cs (k : Int)) = true) (by
        have z := over_ev2 (Ev.ixM (A := optD) (ix 0 [.v S, .v V, a, .v (.lst (cs.map D.int)), .v (.int (k : Nat))] rfl).2.2.2.1 (Ev.var (k := 4) rfl) (by omega) (by omega)) (c1 _ rfl rfl)
        rw [show (decide (overD (at_ high (k : Int)) (at_ cs (k : Int)) = true)) = overD (at_ high (k : Int)) (at_ cs (k : Int)) by cases overD (at_ high (k : Int)) (at_ cs (k : Int)) <;> rfl]
        exact z) (fun h2 => ?_) fun h2 => Run.next ⟨fun i hi => ?_, _, rfl⟩))⟩
      · refine Run.ret Ev.c ?_
        show D.bl false = D.bl _
        rw [decide_eq_false]
        rintro ⟨_, h1⟩
        have := (pickL_nil.mp h1) k (by omega)
        have hb1 : outB (at_ cs (k : Int)) (at_ low (k : Int)) (at_ high (k : Int)) = true := by
          unfold outB
          rw [decide_eq_true h, Bool.true_or]
        rw [hb1] at this
        exact absurd this (by decide)
      · refine Run.ret Ev.c ?_
        show D.bl false = D.bl _
        rw [decide_eq_false]
        rintro ⟨_, h1⟩
        have := (pickL_nil.mp h1) k (by omega)
        have hb1 : outB (at_ cs (k : Int)) (at_ low (k : Int)) (at_ high (k : Int)) = true := by
          unfold outB
          rw [h2, Bool.or_true]
        rw [hb1] at this
        exact absurd this (by decide)
      · by_cases e : i = k
        · subst e
          unfold outB
          rw [decide_eq_false h, Bool.false_or]
          exact Bool.eq_false_iff.mpr h2
        · exact hno i (by omega)
    · obtain ⟨hno, x, rfl⟩ := hI
      rw [rangeD_length] at hno
      refine Run.ret Ev.c ?_
      show D.bl true = D.bl _
      rw [decide_eq_true]
      exact ⟨hst, pickL_nil.mpr fun k hk => by rw [hno k hk]; simp⟩
end
end LW
end

section
set_option maxHeartbeats 4000000
namespace LW
open PySem L2 EV
local macro_rules | `(tactic| get_elem_tactic_extensible) => `(tactic| first
  | ((with_reducible apply Ev.var); exact rfl)
  | with_reducible exact Ev.c
  | assumption
  | ((with_reducible apply Ev.add) <;> get_elem_tactic_extensible)
  | ((with_reducible apply Ev.sub) <;> get_elem_tactic_extensible)
  | ((with_reducible apply Ev.mulR) <;> get_elem_tactic_extensible)
  | ((with_reducible apply Ev.mulL) <;> get_elem_tactic_extensible)
  | ((with_reducible apply Ev.mod) <;> get_elem_tactic_extensible)
  | ((with_reducible apply Ev.fdiv) <;> get_elem_tactic_extensible)
  | ((with_reducible apply Ev.pow) <;> get_elem_tactic_extensible)
  | ((with_reducible apply Ev.neg) <;> get_elem_tactic_extensible)
  | ((with_reducible apply Ev.lt) <;> get_elem_tactic_extensible)
  | ((with_reducible apply Ev.le) <;> get_elem_tactic_extensible)
  | ((with_reducible apply Ev.gt) <;> get_elem_tactic_extensible)
  | ((with_reducible apply Ev.ge) <;> get_elem_tactic_extensible)
  | ((with_reducible apply Ev.eqI) <;> get_elem_tactic_extensible)
  | ((with_reducible apply Ev.neI) <;> get_elem_tactic_extensible)
  | ((with_reducible apply Ev.isN) <;> get_elem_tactic_extensible)
  | ((with_reducible apply Ev.notN) <;> get_elem_tactic_extensible)
  | ((with_reducible apply Ev.notP) <;> get_elem_tactic_extensible)
  | ((with_reducible apply Ev.andP) <;> get_elem_tactic_extensible)
  | ((with_reducible apply Ev.orP) <;> get_elem_tactic_extensible)
  | ((with_reducible apply Ev.int_) <;> get_elem_tactic_extensible)
  | ((with_reducible apply Ev.intB) <;> get_elem_tactic_extensible)
  | ((with_reducible apply Ev.lenL) <;> get_elem_tactic_extensible)
  | ((with_reducible apply Ev.lenT) <;> get_elem_tactic_extensible)
  | ((with_reducible apply Ev.lenS) <;> get_elem_tactic_extensible)
  | ((with_reducible apply Ev.min_) <;> get_elem_tactic_extensible)
  | ((with_reducible apply Ev.max_) <;> get_elem_tactic_extensible)
  | ((with_reducible apply Ev.abs_) <;> get_elem_tactic_extensible)
  | ((with_reducible apply Ev.tupleL) <;> get_elem_tactic_extensible)
  | ((with_reducible apply Ev.tupleT) <;> get_elem_tactic_extensible)
  | ((with_reducible apply EvL.listL) <;> get_elem_tactic_extensible)
  | ((with_reducible apply EvL.listT) <;> get_elem_tactic_extensible)
  | ((with_reducible apply Ev.ixL) <;> get_elem_tactic_extensible)
  | ((with_reducible apply Ev.ixT) <;> get_elem_tactic_extensible)
  | ((with_reducible apply Ev.ixM) <;> get_elem_tactic_extensible)
  | ((with_reducible apply Ev.ixMT) <;> get_elem_tactic_extensible)
  | ((with_reducible apply Ev.tup) <;> get_elem_tactic_extensible)
  | ((with_reducible apply Ev.vL) <;> get_elem_tactic_extensible)
  | with_reducible exact EvL.nil
  | ((with_reducible apply EvL.cons) <;> get_elem_tactic_extensible)
  | ((with_reducible apply EvL.lenOk) <;> get_elem_tactic_extensible)
  | ((with_reducible apply EvL.range1) <;> get_elem_tactic_extensible)
  | ((with_reducible apply EvL.seqL) <;> get_elem_tactic_extensible)
  | ((with_reducible apply EvL.seqT) <;> get_elem_tactic_extensible)
  | ((with_reducible apply EvL.seqS) <;> get_elem_tactic_extensible)
  | (intro; get_elem_tactic_extensible)
  | exact (show GetElem?.getElem? (List.cons _ _) _ = some _ from rfl)
  | omega
  | (simp only [List.length_map, List.length_append, List.length_replicate, List.length_cons, List.length_nil, List.length_range] <;> omega))
section
variable {mills : Int} {ps : List (Int × Int)} {low : List Int} {high : List (Option Int)} {lets : List (List Int)}
/-! ### raised errors in Run -/
theorem Run.raise {ci : Nat} {f : FE} {ρ : EV.Env} {d : D} {Q : Out → Prop} (e : Ev f ρ d) (h : Q (.rs ⟨ci, [d]⟩ ρ)) : Run (gRaise ci f) ρ Q := ⟨_, by unfold gRaise; rw [e]; rfl, h⟩
def EvX (f : FE) (ρ : EV.Env) (x : Xn) : Prop := f ρ = some (.ex x)
theorem Run.setX {i : Nat} {f : FE} {ρ : EV.Env} {x : Xn} {Q : Out → Prop} (e : EvX f ρ x) (h : Q (.rs x ρ)) : Run (gSet i f) ρ Q := ⟨_, by unfold gSet; rw [e]; rfl, h⟩
theorem EvX.callP {n m : Nat} {perm : List Nat} {sem : List D → Option R} {dds ds es : List D} {fs fk : FL} {ρ : EV.Env} {x : Xn} (h : EvL fs ρ ds) (hk : EvL fk ρ es) (hl : ds.length = n ∧ es.length = m) (e : sem (pick perm (ds ++ es ++ dds)) = some (.ex x)) : EvX (vCallP n m perm sem dds fs fk) ρ x := by
  unfold EvX vCallP
  rw [h, RL1_ok, hk, RL1_ok, if_pos hl, e]
/-- the end of a def, with its error -/
def Fin (r : R) : Out → Prop
  | .rt d => r = .ok d
  | .nx _ => r = .ok .non
  | .rs x _ => r = .ex x
  | .rl xs => r = .ok (.lst xs)
  | _ => False
theorem sem_fin {n : Nat} {g : FS} {ds : List D} {r : R} (h : Run g (ds.map Sl.v ++ List.replicate (n - ds.length) Sl.no) (Fin r)) : semF n g ds = some r := by
  obtain ⟨o, e, q⟩ := h
  unfold semF
  rw [e]
  cases o with
  | nx ρ => cases (show r = .ok .non from q); rfl
  | rt d => cases (show r = .ok d from q); rfl
  | rs x ρ => cases (show r = .ex x from q); rfl
  | rl xs => cases (show r = .ok (.lst xs) from q); rfl
  | bk ρ => exact False.elim q
  | ct ρ => exact False.elim q
theorem Ev.tupleS {α : Type} {A : α → D} {V : D} {xs : List α} {f : FE} {ρ : EV.Env} (h : SeqA A V xs) (e : Ev f ρ V) : Ev (vCall tupleD (aCons f (aNil))) ρ (.tup (xs.map A)) := by
  rcases h with rfl | rfl
  · exact Ev.tupleL e
  · exact Ev.tupleT e

/-! ### a setting is in a season -/
theorem in_sem (w : WOk mills ps low high lets) {bs : List Int} {V : D} (hb : Bits ps.length bs) (hV : SeqA D.int V bs) : inOD 6 sem_Season__contains V (seasonD (landD mills ps) low high lets) = some (.bl (decide (RunP mills ps low high lets bs))) := by
  show blD (okD (sem_Season__contains [seasonD (landD mills ps) low high lets, V])) = _
  rw [contains_ok w hb hV]
  rfl
theorem Ev.inS (w : WOk mills ps low high lets) {bs : List Int} {V : D} {fa fb : FE} {ρ : EV.Env} (hb : Bits ps.length bs) (hV : SeqA D.int V bs) (ha : Ev fa ρ V) (hs : Ev fb ρ (seasonD (landD mills ps) low high lets)) : Ev (v2 (inOD 6 sem_Season__contains) fa fb) ρ (.bl (decide (RunP mills ps low high lets bs))) := .v2 ha hs (in_sem w hb hV)
theorem Ev.ninS (w : WOk mills ps low high lets) {bs : List Int} {V : D} {fa fb : FE} {ρ : EV.Env} (hb : Bits ps.length bs) (hV : SeqA D.int V bs) (ha : Ev fa ρ V) (hs : Ev fb ρ (seasonD (landD mills ps) low high lets)) : Ev (v2 (ninOD 6 sem_Season__contains) fa fb) ρ (.bl (decide (¬ RunP mills ps low high lets bs))) := .v2 ha hs (by
  unfold ninOD
  rw [in_sem w hb hV]
  by_cases h : RunP mills ps low high lets bs <;> simp [notBlD, h])

/-! ### turns -/
def turnL (l : List Int) (k : Int) : List Int := l.take k.toNat ++ [1 - at_ l k] ++ l.drop (k + 1).toNat
theorem turnL_bits {n : Nat} {l : List Int} (h : Bits n l) {k : Int} (h0 : 0 ≤ k) (h1 : k < n) : Bits n (turnL l k) := by
  have hl := h.1
  unfold turnL
  refine ⟨by simp; omega, fun x hx => ?_⟩
  rcases List.mem_append.mp hx with hx | hx
  · rcases List.mem_append.mp hx with hx | hx
    · exact h.2 x (List.mem_of_mem_take hx)
    · rw [List.mem_singleton.mp hx]; exact at_bit h h0 h1
  · exact h.2 x (List.mem_of_mem_drop hx)
theorem law_turn_eq {n : Nat} {l : List Int} (h : Bits n l) (hn : n ≤ 1000) {k : Int} (h0 : 0 ≤ k) (h1 : k < n) : sem_law_turn [letD l, .int k] = some (.ok (letD (turnL l k))) := by
  have hl := h.1
  refine sem_fin (n := 2) (ds := [letD l, .int k]) (Run.ret (d := letD (turnL l k)) ?_ rfl)
  exact tup_map (tup_map (slice_upto (Ev.var rfl) (Ev.var rfl) h0) (Ev.tup (EvL.cons (Ev.sub Ev.c (Ev.ixMT (A := D.int) (Ev.var rfl) (Ev.var rfl) h0 (by omega))) .nil) (by simp)) (by simp; omega)) (slice_from (Ev.var rfl) (Ev.add (Ev.var rfl) Ev.c) (by omega)) (by simp; omega)
theorem flipped_eq {n : Nat} {l : List Int} (h : Bits n l) (hn : n ≤ 1000) {k : Int} (h0 : 0 ≤ k) (h1 : k < n) : sem_flipped [letD l, .int k] = some (.ok (letD (turnL l k))) := by
  have hl := h.1
  refine sem_fin (n := 2) (ds := [letD l, .int k]) (Run.ret (d := letD (turnL l k)) ?_ rfl)
  exact tup_map (tup_map (Ev.tupleT (slice_upto (Ev.var rfl) (Ev.var rfl) h0)) (Ev.tup (EvL.cons (Ev.sub Ev.c (Ev.ixMT (A := D.int) (Ev.var rfl) (Ev.var rfl) h0 (by omega))) .nil) (by simp)) (by simp; omega)) (Ev.tupleT (slice_from (Ev.var rfl) (Ev.add (Ev.var rfl) Ev.c) (by omega))) (by simp; omega)
theorem require_ok (w : WOk mills ps low high lets) {bs : List Int} {V : D} (hb : Bits ps.length bs) (hV : SeqA D.int V bs) : sem_require_running [seasonD (landD mills ps) low high lets, V] = some (if RunP mills ps low high lets bs then .ok (letD bs) else .ex ⟨21, [letD bs]⟩) := by
  refine sem_fin (n := 3) (ds := [seasonD (landD mills ps) low high lets, V]) ?_
  refine Run.sset (d := letD bs) (Ev.tupleS hV (Ev.var rfl)) ?_
  refine Run.seq (Run.ifP (Ev.ninS w hb (.inr rfl) (Ev.var rfl) (Ev.var rfl)) (fun h => ?_) fun h => Run.next ?_)
  · refine Run.raise (d := letD bs) (Ev.var rfl) ?_
    show _ = R.ex _
    rw [if_neg h]
  · refine Run.ret (d := letD bs) (Ev.var rfl) ?_
    show _ = R.ok _
    rw [if_pos (Decidable.not_not.mp h)]

/-! ### a walk's settings -/
def stL (bs row : List Int) : Nat → List Int
  | 0 => bs
  | k + 1 => turnL (stL bs row k) (at_ row (k : Int))
def RowIn (n : Nat) (row : List Int) : Prop := ∀ x ∈ row, 0 ≤ x ∧ x < n
theorem RowIn.at {n : Nat} {row : List Int} (h : RowIn n row) {k : Nat} (hk : k < row.length) : 0 ≤ at_ row (k : Int) ∧ at_ row (k : Int) < n := h _ (at_mem (by omega) (by omega))
theorem stL_bits {n : Nat} {bs row : List Int} (hb : Bits n bs) (hr : RowIn n row) : ∀ k, k ≤ row.length → Bits n (stL bs row k)
  | 0, _ => hb
  | k + 1, h => turnL_bits (stL_bits hb hr k (by omega)) (hr.at (by omega)).1 (hr.at (by omega)).2
def visL (bs row : List Int) (m : Nat) : List (List Int) := (List.range (m + 1)).map (stL bs row)
theorem visL_len (bs row : List Int) (m : Nat) : (visL bs row m).length = m + 1 := by simp [visL]
theorem visL_succ (bs row : List Int) (m : Nat) : visL bs row m ++ [stL bs row (m + 1)] = visL bs row (m + 1) := by
  unfold visL
  rw [List.range_succ (n := m + 1), List.map_append]
  rfl
theorem visL_at {bs row : List Int} {m k : Nat} (h : k ≤ m) : at_ (visL bs row m) (k : Int) = stL bs row k := at_map_range (stL bs row) (m + 1) k (by omega)
structure WalkTo (P : Nat → Prop) (len m : Nat) : Prop where
  le : m ≤ len
  all : ∀ i, i ≤ m → P i
  stop : m = len ∨ ¬ P (m + 1)
theorem walk_cases (P : Nat → Prop) : ∀ len, ¬ P 0 ∨ ∃ m, WalkTo P len m := by
  intro len
  by_cases h0 : P 0
  · refine .inr ?_
    induction len with
    | zero => exact ⟨0, Nat.le_refl _, fun i hi => by rw [show i = 0 by omega]; exact h0, .inl rfl⟩
    | succ n ih =>
      obtain ⟨m, hle, hall, hstop⟩ := ih
      by_cases hp : P (m + 1)
      · rcases hstop with rfl | hs
        · refine ⟨m + 1, Nat.le_refl _, fun i hi => ?_, .inl rfl⟩
          by_cases e : i = m + 1
          · rw [e]; exact hp
          · exact hall i (by omega)
        · exact absurd hp hs
      · exact ⟨m, by omega, hall, .inr hp⟩
  · exact .inl h0
end
end LW
end

section
set_option maxHeartbeats 4000000
namespace LW
open PySem L2 EV
local macro_rules | `(tactic| get_elem_tactic_extensible) => `(tactic| first
  | ((with_reducible apply Ev.var); exact rfl)
  | with_reducible exact Ev.c
  | assumption
  | ((with_reducible apply Ev.add) <;> get_elem_tactic_extensible)
  | ((with_reducible apply Ev.sub) <;> get_elem_tactic_extensible)
  | ((with_reducible apply Ev.mulR) <;> get_elem_tactic_extensible)
  | ((with_reducible apply Ev.mulL) <;> get_elem_tactic_extensible)
  | ((with_reducible apply Ev.mod) <;> get_elem_tactic_extensible)
  | ((with_reducible apply Ev.fdiv) <;> get_elem_tactic_extensible)
  | ((with_reducible apply Ev.pow) <;> get_elem_tactic_extensible)
  | ((with_reducible apply Ev.neg) <;> get_elem_tactic_extensible)
  | ((with_reducible apply Ev.lt) <;> get_elem_tactic_extensible)
  | ((with_reducible apply Ev.le) <;> get_elem_tactic_extensible)
  | ((with_reducible apply Ev.gt) <;> get_elem_tactic_extensible)
  | ((with_reducible apply Ev.ge) <;> get_elem_tactic_extensible)
  | ((with_reducible apply Ev.eqI) <;> get_elem_tactic_extensible)
  | ((with_reducible apply Ev.neI) <;> get_elem_tactic_extensible)
  | ((with_reducible apply Ev.isN) <;> get_elem_tactic_extensible)
  | ((with_reducible apply Ev.notN) <;> get_elem_tactic_extensible)
  | ((with_reducible apply Ev.notP) <;> get_elem_tactic_extensible)
  | ((with_reducible apply Ev.andP) <;> get_elem_tactic_extensible)
  | ((with_reducible apply Ev.orP) <;> get_elem_tactic_extensible)
  | ((with_reducible apply Ev.int_) <;> get_elem_tactic_extensible)
  | ((with_reducible apply Ev.intB) <;> get_elem_tactic_extensible)
  | ((with_reducible apply Ev.lenL) <;> get_elem_tactic_extensible)
  | ((with_reducible apply Ev.lenT) <;> get_elem_tactic_extensible)
  | ((with_reducible apply Ev.lenS) <;> get_elem_tactic_extensible)
  | ((with_reducible apply Ev.min_) <;> get_elem_tactic_extensible)
  | ((with_reducible apply Ev.max_) <;> get_elem_tactic_extensible)
  | ((with_reducible apply Ev.abs_) <;> get_elem_tactic_extensible)
  | ((with_reducible apply Ev.tupleL) <;> get_elem_tactic_extensible)
  | ((with_reducible apply Ev.tupleT) <;> get_elem_tactic_extensible)
  | ((with_reducible apply EvL.listL) <;> get_elem_tactic_extensible)
  | ((with_reducible apply EvL.listT) <;> get_elem_tactic_extensible)
  | ((with_reducible apply Ev.ixL) <;> get_elem_tactic_extensible)
  | ((with_reducible apply Ev.ixT) <;> get_elem_tactic_extensible)
  | ((with_reducible apply Ev.ixM) <;> get_elem_tactic_extensible)
  | ((with_reducible apply Ev.ixMT) <;> get_elem_tactic_extensible)
  | ((with_reducible apply Ev.tup) <;> get_elem_tactic_extensible)
  | ((with_reducible apply Ev.vL) <;> get_elem_tactic_extensible)
  | with_reducible exact EvL.nil
  | ((with_reducible apply EvL.cons) <;> get_elem_tactic_extensible)
  | ((with_reducible apply EvL.lenOk) <;> get_elem_tactic_extensible)
  | ((with_reducible apply EvL.range1) <;> get_elem_tactic_extensible)
  | ((with_reducible apply EvL.seqL) <;> get_elem_tactic_extensible)
  | ((with_reducible apply EvL.seqT) <;> get_elem_tactic_extensible)
  | ((with_reducible apply EvL.seqS) <;> get_elem_tactic_extensible)
  | (intro; get_elem_tactic_extensible)
  | exact (show GetElem?.getElem? (List.cons _ _) _ = some _ from rfl)
  | omega
  | (simp only [List.length_map, List.length_append, List.length_replicate, List.length_cons, List.length_nil, List.length_range] <;> omega))
section
variable {mills : Int} {ps : List (Int × Int)} {low : List Int} {high : List (Option Int)} {lets : List (List Int)}
theorem enumS_get {xs : List Int} {k : Nat} {d : D} (h : ((List.range xs.length).map fun k : Nat => D.tup [.int (k : Nat), D.int (at_ xs (k : Int))])[k]? = some d) : d = .tup [.int (k : Nat), .int (at_ xs (k : Int))] ∧ k < xs.length := by
  rw [List.getElem?_map] at h
  obtain ⟨j, e, rfl⟩ := Option.map_eq_some_iff.mp h
  have hk := (List.getElem?_eq_some_iff.mp e).1
  rw [List.length_range] at hk
  rw [List.getElem?_range hk] at e
  cases e
  exact ⟨rfl, hk⟩
theorem follow_no (w : WOk mills ps low high lets) {bs : List Int} {V : D} (R' : D) (hb : Bits ps.length bs) (hV : SeqA D.int V bs) (h0 : ¬ RunP mills ps low high lets bs) : sem_follow [seasonD (landD mills ps) low high lets, V, R'] = some (.ex ⟨21, [letD bs]⟩) := by
  refine sem_fin (n := 7) (ds := [seasonD (landD mills ps) low high lets, V, R']) ?_
  exact Run.seq (Run.setX (x := ⟨21, [letD bs]⟩) (EvX.callP (EvL.cons (Ev.var rfl) (EvL.cons (Ev.var rfl) .nil)) .nil ⟨rfl, rfl⟩ ((require_ok w hb hV).trans (by rw [if_neg h0]))) rfl)
theorem follow_ok (w : WOk mills ps low high lets) {bs row : List Int} {V R' : D} {m : Nat} (hb : Bits ps.length bs) (hV : SeqA D.int V bs) (hr : RowIn ps.length row) (hR : SeqA D.int R' row) (hl : row.length ≤ 80000) (hw : WalkTo (fun k => RunP mills ps low high lets (stL bs row k)) row.length m) :
    sem_follow [seasonD (landD mills ps) low high lets, V, R'] = some (if m = row.length then .ok (.tup ((visL bs row m).map letD)) else .ex ⟨22, [.int (m : Nat)]⟩) := by
  have h0 : RunP mills ps low high lets bs := hw.all 0 (Nat.zero_le _)
  have pl := w.pl
  have hS : seasonD (landD mills ps) low high lets = seasonD (landD mills ps) low high lets := rfl
  generalize hS' : seasonD (landD mills ps) low high lets = S
  have req : sem_require_running [S, V] = some (.ok (letD bs)) := by rw [← hS', require_ok w hb hV, if_pos h0]
  refine sem_fin (n := 7) (ds := [S, V, R']) ?_
  refine Run.sset (d := letD bs) (Ev.callP (EvL.cons (Ev.var rfl) (EvL.cons (Ev.var rfl) .nil)) .nil ⟨rfl, rfl⟩ req) ?_
  refine Run.sown (ds := [letD bs]) (EvL.lenOk (EvL.cons (Ev.var rfl) .nil) (by simp)) (show (4 : Nat) < 7 by decide) ?_
  refine Run.seq (Run.for (fun n ρ => n ≤ m ∧ ∃ a b, ρ = [.v S, .v V, .v R', .v (letD (stL bs row n)), .own ((visL bs row n).map letD), a, b]) (EvL.enumS (A := D.int) hR (Ev.var rfl)) ⟨Nat.zero_le _, .no, .no, rfl⟩ (fun k d ρ hd hI => ?_) fun ρ hI => ?_)
  · obtain ⟨hkm, a, b, rfl⟩ := hI
    obtain ⟨rfl, hk⟩ := enumS_get hd
    have hbk := stL_bits hb hr k (by omega)
    have hrk := hr.at hk
    have hb1 := stL_bits hb hr (k + 1) (by omega)
    refine ⟨_, rfl, ?_⟩
    refine Run.sset (d := letD (stL bs row (k + 1))) (Ev.callP (EvL.cons (Ev.var rfl) (EvL.cons (Ev.var rfl) .nil)) .nil ⟨rfl, rfl⟩ (flipped_eq hbk (by omega) hrk.1 hrk.2)) ?_
    refine Run.seq (Run.ifP (Ev.ninS w hb1 (.inr rfl) (Ev.var rfl) (by rw [hS']; exact Ev.var rfl)) (fun h => ?_) fun h => Run.next ?_)
    · refine Run.raise (d := .int (k : Nat)) (Ev.var rfl) ?_
      have e : k = m := by
        by_cases z : k = m
        · exact z
        · exact absurd (hw.all (k + 1) (by omega)) h
      show _ = R.ex _
      rw [if_neg (by omega), e]
    · have hk1 : k + 1 ≤ m := by
        rcases hw.stop with e | e
        · omega
        · by_cases z : k = m
          · rw [z] at h
            exact absurd (Decidable.not_not.mp h) e
          · omega
      refine Run.app (xs := (visL bs row k).map letD) rfl (Ev.var rfl) (by rw [List.length_map, visL_len]; omega) ⟨hk1, .v (.int (k : Nat)), .v (.int (at_ row (k : Int))), ?_⟩
      rw [← visL_succ, List.map_append]
      rfl
  · obtain ⟨hkm, a, b, rfl⟩ := hI
    rw [List.length_map, List.length_range] at hkm ⊢
    have e : m = row.length := Nat.le_antisymm hw.le hkm
    subst e
    rw [if_pos rfl]
    exact Run.rel (Run.ret (Ev.tupleL (Ev.var rfl)) rfl)
theorem is_walk_no (w : WOk mills ps low high lets) {bs : List Int} {V : D} (R' : D) (hb : Bits ps.length bs) (hV : SeqA D.int V bs) (h0 : ¬ RunP mills ps low high lets bs) : sem_is_walk [seasonD (landD mills ps) low high lets, V, R'] = some (.ok (.bl false)) := by
  refine sem_fin (n := 5) (ds := [seasonD (landD mills ps) low high lets, V, R']) ?_
  refine Run.sset (d := letD bs) (Ev.tupleS hV (Ev.var rfl)) ?_
  exact Run.seq (Run.ifP (Ev.ninS w hb (.inr rfl) (Ev.var rfl) (Ev.var rfl)) (fun h => Run.ret Ev.c rfl) fun h => absurd (Decidable.not_not.mp h) h0)
theorem is_walk_ok (w : WOk mills ps low high lets) {bs row : List Int} {V R' : D} {m : Nat} (hb : Bits ps.length bs) (hV : SeqA D.int V bs) (hr : RowIn ps.length row) (hR : SeqA D.int R' row) (hw : WalkTo (fun k => RunP mills ps low high lets (stL bs row k)) row.length m) :
    sem_is_walk [seasonD (landD mills ps) low high lets, V, R'] = some (.ok (.bl (decide (m = row.length)))) := by
  have h0 : RunP mills ps low high lets bs := hw.all 0 (Nat.zero_le _)
  have pl := w.pl
  generalize hS' : seasonD (landD mills ps) low high lets = S
  refine sem_fin (n := 5) (ds := [S, V, R']) ?_
  refine Run.sset (d := letD bs) (Ev.tupleS hV (Ev.var rfl)) ?_
  refine Run.seq (Run.ifP (Ev.ninS w hb (.inr rfl) (Ev.var rfl) (by rw [hS']; exact Ev.var rfl)) (fun h => absurd h0 h) fun h => Run.next ?_)
  have hseq : EvL (iSeq (vVar 2)) [.v S, .v V, .v R', .v (letD bs), .no] (row.map D.int) := by
    rcases hR with rfl | rfl
    · exact EvL.seqL (Ev.var rfl)
    · exact EvL.seqT (Ev.var rfl)
  refine Run.seq (Run.for (fun n ρ => n ≤ m ∧ ∃ a, ρ = [.v S, .v V, .v R', .v (letD (stL bs row n)), a]) hseq ⟨Nat.zero_le _, .no, rfl⟩ (fun k d ρ hd hI => ?_) fun ρ hI => ?_)
  · obtain ⟨hkm, a, rfl⟩ := hI
    have hk : k < row.length := by
      have := (List.getElem?_eq_some_iff.mp hd).1
      rwa [List.length_map] at this
    have hd' : d = .int (at_ row (k : Int)) := by
      rw [List.getElem?_map] at hd
      obtain ⟨z, e, rfl⟩ := Option.map_eq_some_iff.mp hd
      have := at_get (xs := row) (i := (k : Int)) (by omega) (by omega)
      rw [show (k : Int).toNat = k by omega, e] at this
      rw [Option.some.inj this]
    subst hd'
    have hbk := stL_bits hb hr k (by omega)
    have hrk := hr.at hk
    have hb1 := stL_bits hb hr (k + 1) (by omega)
    refine ⟨_, rfl, ?_⟩
    refine Run.sset (d := letD (stL bs row (k + 1))) (Ev.callP (EvL.cons (Ev.var rfl) (EvL.cons (Ev.var rfl) .nil)) .nil ⟨rfl, rfl⟩ (flipped_eq hbk (by omega) hrk.1 hrk.2)) ?_
    refine Run.ifP (Ev.ninS w hb1 (.inr rfl) (Ev.var rfl) (by rw [hS']; exact Ev.var rfl)) (fun h => ?_) fun h => Run.next ?_
    · refine Run.ret Ev.c ?_
      have e : k = m := by
        by_cases z : k = m
        · exact z
        · exact absurd (hw.all (k + 1) (by omega)) h
      show _ = R.ok _
      rw [decide_eq_false (by omega)]
    · have hk1 : k + 1 ≤ m := by
        rcases hw.stop with e | e
        · omega
        · by_cases z : k = m
          · rw [z] at h
            exact absurd (Decidable.not_not.mp h) e
          · omega
      exact ⟨hk1, _, rfl⟩
  · obtain ⟨hkm, a, rfl⟩ := hI
    rw [List.length_map] at hkm
    refine Run.ret Ev.c ?_
    show _ = R.ok _
    rw [decide_eq_true (Nat.le_antisymm hw.le hkm)]
def turnablesL (mills : Int) (ps : List (Int × Int)) (low : List Int) (high : List (Option Int)) (lets : List (List Int)) (bs : List Int) : List Int := pickL ps.length fun k => decide (RunP mills ps low high lets (turnL bs (k : Int)))
theorem turnable_ok (w : WOk mills ps low high lets) {bs : List Int} {V : D} (hb : Bits ps.length bs) (hV : SeqA D.int V bs) : sem_turnable [seasonD (landD mills ps) low high lets, V] = some (if RunP mills ps low high lets bs then .ok (letD (turnablesL mills ps low high lets bs)) else .ex ⟨21, [letD bs]⟩) := by
  have pl := w.pl
  by_cases h0 : RunP mills ps low high lets bs
  · have req := (require_ok w hb hV).trans (by rw [if_pos h0])
    rw [if_pos h0]
    generalize hS' : seasonD (landD mills ps) low high lets = S at req ⊢
    refine sem_fin (n := 4) (ds := [S, V]) ?_
    refine Run.sset (d := letD bs) (Ev.callP (EvL.cons (Ev.var rfl) (EvL.cons (Ev.var rfl) .nil)) .nil ⟨rfl, rfl⟩ req) ?_
    have q0 := pick_lc (n := ps.length) (fi := iRange1 (vCall lenD (aCons (vVar 2) (aNil)))) (ft := v2 (inOD 6 sem_Season__contains) (vCallP 2 0 [0, 1] sem_flipped [] (aCons (vVar 2) (aCons (vVar 3) (aNil))) (aNil)) (vVar 0)) (v := 3) (ρ := [.v S, .v V, .v (letD bs), .no]) (fun k => RunP mills ps low high lets (turnL bs (k : Int))) (range_n (by have z := Ev.lenT (fa := vVar 2) (ρ := [.v S, .v V, .v (letD bs), .no]) (ds := bs.map D.int) (Ev.var rfl); rw [List.length_map, hb.1] at z; exact z) (by omega)) (by omega) (fun k hk => Ev.inS w (turnL_bits hb (k := (k : Int)) (by omega) (by omega)) (.inr rfl) (Ev.callP (EvL.cons (Ev.var rfl) (EvL.cons (Ev.var rfl) .nil)) .nil ⟨rfl, rfl⟩ (flipped_eq hb (by omega) (by omega) (by omega))) (by rw [hS']; exact Ev.var rfl)) (fun d => Ev.var rfl)
    exact Run.ret (d := letD (turnablesL mills ps low high lets bs)) (Ev.tupleL (Ev.vL q0)) rfl
  · rw [if_neg h0]
    refine sem_fin (n := 4) (ds := [seasonD (landD mills ps) low high lets, V]) ?_
    exact Run.seq (Run.setX (x := ⟨21, [letD bs]⟩) (EvX.callP (EvL.cons (Ev.var rfl) (EvL.cons (Ev.var rfl) .nil)) .nil ⟨rfl, rfl⟩ ((require_ok w hb hV).trans (by rw [if_neg h0]))) rfl)
theorem visited_no (w : WOk mills ps low high lets) (rest : List D) {bs : List Int} (R' : D) (hb : Bits ps.length bs) (h0 : ¬ RunP mills ps low high lets bs) : sem_law_visited [wD mills ps low high lets rest, letD bs, R'] = some (.ok (.lst [.lst [], .int (-1)])) := by
  refine sem_fin (n := 6) (ds := [wD mills ps low high lets rest, letD bs, R']) ?_
  refine Run.seq (Run.ifP (P := ¬ RunP mills ps low high lets bs) (Ev.notP (Ev.callP (EvL.cons (Ev.var rfl) (EvL.cons (Ev.var rfl) .nil)) .nil ⟨rfl, rfl⟩ (law_runs_ok w rest hb (.inr rfl)))) (fun h => ?_) fun h => absurd h0 h)
  exact Run.ret (d := .lst [.lst [], .int (-1)]) (Ev.vL (EvL.lenOk (EvL.cons (Ev.vL (EvL.lenOk .nil (by simp))) (EvL.cons (Ev.neg Ev.c) .nil)) (by simp))) rfl
theorem visited_ok (w : WOk mills ps low high lets) (rest : List D) {bs row : List Int} {m : Nat} (hb : Bits ps.length bs) (hr : RowIn ps.length row) (hl : row.length ≤ 80000) (hw : WalkTo (fun k => RunP mills ps low high lets (stL bs row k)) row.length m) :
    sem_law_visited [wD mills ps low high lets rest, letD bs, .lst (row.map D.int)] = some (.ok (.lst [.lst ((visL bs row m).map letD), if m = row.length then .non else .int (m : Nat)])) := by
  have h0 : RunP mills ps low high lets bs := hw.all 0 (Nat.zero_le _)
  have pl := w.pl
  have lr := fun (b : List Int) (h : Bits ps.length b) => law_runs_ok w rest h (V := letD b) (.inr rfl)
  generalize wD mills ps low high lets rest = S at lr ⊢
  refine sem_fin (n := 6) (ds := [S, letD bs, .lst (row.map D.int)]) ?_
  refine Run.seq (Run.ifP (P := ¬ RunP mills ps low high lets bs) (Ev.notP (Ev.callP (EvL.cons (Ev.var rfl) (EvL.cons (Ev.var rfl) .nil)) .nil ⟨rfl, rfl⟩ (lr bs hb))) (fun h => absurd h0 h) fun h => Run.next ?_)
  refine Run.sown (ds := [letD bs]) (EvL.lenOk (EvL.cons (Ev.var rfl) .nil) (by simp)) (show (3 : Nat) < 6 by decide) ?_
  refine Run.seq (Run.for (fun n ρ => n ≤ m ∧ ∃ a b, ρ = [.v S, .v (letD bs), .v (.lst (row.map D.int)), .own ((visL bs row n).map letD), a, b]) (range_n (n := row.length) (by have z := Ev.lenL (fa := vVar 2) (ρ := [.v S, .v (letD bs), .v (.lst (row.map D.int)), .own [letD bs], .no, .no]) (ds := row.map D.int) (Ev.var rfl); rw [List.length_map] at z; exact z) (by omega)) ⟨Nat.zero_le _, .no, .no, rfl⟩ (fun k d ρ hd hI => ?_) fun ρ hI => ?_)
  · obtain ⟨hkm, a, b, rfl⟩ := hI
    obtain ⟨rfl, hk⟩ := range0_get hd
    have hbk := stL_bits hb hr k (by omega)
    have hrk := hr.at hk
    have hb1 := stL_bits hb hr (k + 1) (by omega)
    have hvl := visL_len bs row k
    refine ⟨_, rfl, ?_⟩
    refine Run.ssetA (d := letD (stL bs row (k + 1))) (Ev.callP (EvL.cons (d := letD (stL bs row k)) (by
      have z := Ev.ixM (A := letD) (fa := vVar 3) (fb := vVar 4) (ρ := thaw [.v S, .v (letD bs), .v (.lst (row.map D.int)), .own ((visL bs row k).map letD), .v (.int (k : Nat)), b]) (xs := visL bs row k) (i := (k : Int)) (Ev.var rfl) (Ev.var rfl) (by omega) (by omega)
      rw [visL_at (Nat.le_refl k)] at z
      exact z) (EvL.cons (Ev.ixM (A := D.int) (Ev.var rfl) (Ev.var rfl) (by omega) (by omega)) .nil)) .nil ⟨rfl, rfl⟩ (law_turn_eq hbk (by omega) hrk.1 hrk.2)) (pures_map (fun _ => rfl) _) ?_
    refine Run.seq (Run.ifP (P := ¬ RunP mills ps low high lets (stL bs row (k + 1))) (Ev.notP (Ev.callP (EvL.cons (Ev.var rfl) (EvL.cons (Ev.var rfl) .nil)) .nil ⟨rfl, rfl⟩ (lr _ hb1))) (fun h => ?_) fun h => Run.next ?_)
    · have e : k = m := by
        by_cases z : k = m
        · exact z
        · exact absurd (hw.all (k + 1) (by omega)) h
      refine Run.rel (Run.ret (d := .lst [.lst ((visL bs row k).map letD), .int (k : Nat)]) (Ev.vL (EvL.lenOk (EvL.cons (Ev.var rfl) (EvL.cons (Ev.var rfl) .nil)) (by simp))) ?_)
      show _ = R.ok _
      rw [if_neg (by omega), e]
    · have hk1 : k + 1 ≤ m := by
        rcases hw.stop with e | e
        · omega
        · by_cases z : k = m
          · rw [z] at h
            exact absurd (Decidable.not_not.mp h) e
          · omega
      refine Run.app (xs := (visL bs row k).map letD) rfl (Ev.var rfl) (by rw [List.length_map, visL_len]; omega) ⟨hk1, .v (.int (k : Nat)), .v (letD (stL bs row (k + 1))), ?_⟩
      rw [← visL_succ, List.map_append]
      rfl
  · obtain ⟨hkm, a, b, rfl⟩ := hI
    rw [rangeD_length] at hkm ⊢
    have e : m = row.length := Nat.le_antisymm hw.le hkm
    subst e
    refine Run.rel (Run.ret (d := .lst [.lst ((visL bs row row.length).map letD), .non]) (Ev.vL (EvL.lenOk (EvL.cons (Ev.var rfl) (EvL.cons Ev.c .nil)) (by simp))) ?_)
    show _ = R.ok _
    rw [if_pos rfl]
end
end LW
end

section
set_option maxHeartbeats 4000000
namespace LW
open PySem L2 EV
local macro_rules | `(tactic| get_elem_tactic_extensible) => `(tactic| first
  | ((with_reducible apply Ev.var); exact rfl)
  | with_reducible exact Ev.c
  | assumption
  | ((with_reducible apply Ev.add) <;> get_elem_tactic_extensible)
  | ((with_reducible apply Ev.sub) <;> get_elem_tactic_extensible)
  | ((with_reducible apply Ev.mulR) <;> get_elem_tactic_extensible)
  | ((with_reducible apply Ev.mulL) <;> get_elem_tactic_extensible)
  | ((with_reducible apply Ev.mod) <;> get_elem_tactic_extensible)
  | ((with_reducible apply Ev.fdiv) <;> get_elem_tactic_extensible)
  | ((with_reducible apply Ev.pow) <;> get_elem_tactic_extensible)
  | ((with_reducible apply Ev.neg) <;> get_elem_tactic_extensible)
  | ((with_reducible apply Ev.lt) <;> get_elem_tactic_extensible)
  | ((with_reducible apply Ev.le) <;> get_elem_tactic_extensible)
  | ((with_reducible apply Ev.gt) <;> get_elem_tactic_extensible)
  | ((with_reducible apply Ev.ge) <;> get_elem_tactic_extensible)
  | ((with_reducible apply Ev.eqI) <;> get_elem_tactic_extensible)
  | ((with_reducible apply Ev.neI) <;> get_elem_tactic_extensible)
  | ((with_reducible apply Ev.isN) <;> get_elem_tactic_extensible)
  | ((with_reducible apply Ev.notN) <;> get_elem_tactic_extensible)
  | ((with_reducible apply Ev.notP) <;> get_elem_tactic_extensible)
  | ((with_reducible apply Ev.andP) <;> get_elem_tactic_extensible)
  | ((with_reducible apply Ev.orP) <;> get_elem_tactic_extensible)
  | ((with_reducible apply Ev.int_) <;> get_elem_tactic_extensible)
  | ((with_reducible apply Ev.intB) <;> get_elem_tactic_extensible)
  | ((with_reducible apply Ev.lenL) <;> get_elem_tactic_extensible)
  | ((with_reducible apply Ev.lenT) <;> get_elem_tactic_extensible)
  | ((with_reducible apply Ev.lenS) <;> get_elem_tactic_extensible)
  | ((with_reducible apply Ev.min_) <;> get_elem_tactic_extensible)
  | ((with_reducible apply Ev.max_) <;> get_elem_tactic_extensible)
  | ((with_reducible apply Ev.abs_) <;> get_elem_tactic_extensible)
  | ((with_reducible apply Ev.tupleL) <;> get_elem_tactic_extensible)
  | ((with_reducible apply Ev.tupleT) <;> get_elem_tactic_extensible)
  | ((with_reducible apply EvL.listL) <;> get_elem_tactic_extensible)
  | ((with_reducible apply EvL.listT) <;> get_elem_tactic_extensible)
  | ((with_reducible apply Ev.ixL) <;> get_elem_tactic_extensible)
  | ((with_reducible apply Ev.ixT) <;> get_elem_tactic_extensible)
  | ((with_reducible apply Ev.ixM) <;> get_elem_tactic_extensible)
  | ((with_reducible apply Ev.ixMT) <;> get_elem_tactic_extensible)
  | ((with_reducible apply Ev.tup) <;> get_elem_tactic_extensible)
  | ((with_reducible apply Ev.vL) <;> get_elem_tactic_extensible)
  | with_reducible exact EvL.nil
  | ((with_reducible apply EvL.cons) <;> get_elem_tactic_extensible)
  | ((with_reducible apply EvL.lenOk) <;> get_elem_tactic_extensible)
  | ((with_reducible apply EvL.range1) <;> get_elem_tactic_extensible)
  | ((with_reducible apply EvL.seqL) <;> get_elem_tactic_extensible)
  | ((with_reducible apply EvL.seqT) <;> get_elem_tactic_extensible)
  | ((with_reducible apply EvL.seqS) <;> get_elem_tactic_extensible)
  | (intro; get_elem_tactic_extensible)
  | exact (show GetElem?.getElem? (List.cons _ _) _ = some _ from rfl)
  | omega
  | (simp only [List.length_map, List.length_append, List.length_replicate, List.length_cons, List.length_nil, List.length_range] <;> omega))
section
variable {mills : Int} {ps : List (Int × Int)} {low : List Int} {high : List (Option Int)} {lets : List (List Int)}
theorem Run.ifF {fc : FE} {g1 g2 : FS} {ρ : EV.Env} {Q : Out → Prop} (e : Ev fc ρ (.bl false)) (h : Run g2 ρ Q) : Run (gIf fc g1 g2) ρ Q := Run.ifP (P := False) e (fun z => z.elim) fun _ => h
theorem Run.ifT {fc : FE} {g1 g2 : FS} {ρ : EV.Env} {Q : Out → Prop} (e : Ev fc ρ (.bl true)) (h : Run g1 ρ Q) : Run (gIf fc g1 g2) ρ Q := Run.ifP (P := True) e (fun _ => h) fun z => (z trivial).elim
theorem Ev.andT {fa fb : FE} {ρ : EV.Env} {d : D} (ha : Ev fa ρ (.bl true)) (hb : Ev fb ρ d) : Ev (vAnd fa fb) ρ d := by
  unfold Ev vAnd
  rw [ha]
  exact hb
theorem gSet_ok {i : Nat} {f : FE} {ρ : EV.Env} {d : D} (e : Ev f ρ d) : gSet i f ρ = some (.nx (ρ.set i (.v d))) := by unfold gSet; rw [e]; rfl
theorem gSet_ex {i : Nat} {f : FE} {ρ : EV.Env} {x : Xn} (e : EvX f ρ x) : gSet i f ρ = some (.rs x ρ) := by unfold gSet; rw [e]; rfl
def HEnd (i : Nat) (Q : Out → Prop) : Out → Prop
  | .nx ρ => Q (.nx ((unX ρ).set i .no))
  | .bk ρ => Q (.bk ((unX ρ).set i .no))
  | .ct ρ => Q (.ct ((unX ρ).set i .no))
  | .rt d => Q (.rt d)
  | .rl ds => Q (.rl ds)
  | _ => False
theorem Run.tryN {i : Nat} {cs : List Nat} {gb gh : FS} {ρ ρ' : EV.Env} {Q : Out → Prop} (h : gb ρ = some (.nx ρ')) (q : Q (.nx ρ')) : Run (gTryAs i cs gb gh) ρ Q := ⟨_, by unfold gTryAs; rw [h], q⟩
theorem Run.tryX {i : Nat} {cs : List Nat} {gb gh : FS} {ρ ρ1 : EV.Env} {x : Xn} {Q : Out → Prop} (h : gb ρ = some (.rs x ρ1)) (hc : cs.contains x.c = true) (hh : Run gh ((unX ρ1).set i (.exn x)) (HEnd i Q)) : Run (gTryAs i cs gb gh) ρ Q := by
  obtain ⟨o, e, q⟩ := hh
  unfold EV.Run gTryAs
  rw [h]
  simp only [hc, if_true, e]
  cases o with
  | nx ρ2 => exact ⟨_, rfl, q⟩
  | bk ρ2 => exact ⟨_, rfl, q⟩
  | ct ρ2 => exact ⟨_, rfl, q⟩
  | rt d => exact ⟨_, rfl, q⟩
  | rl ds => exact ⟨_, rfl, q⟩
  | rs x2 ρ2 => exact False.elim q
theorem followed_no (w : WOk mills ps low high lets) {bs : List Int} {V : D} (R' Vs : D) (hb : Bits ps.length bs) (hV : SeqA D.int V bs) (h0 : ¬ RunP mills ps low high lets bs) : sem_law_followed [seasonD (landD mills ps) low high lets, V, R', Vs, .int (-1)] = some (.ok (.bl true)) := by
  have hf := follow_no w R' hb hV h0
  have pl := w.pl
  generalize seasonD (landD mills ps) low high lets = S at hf ⊢
  refine sem_fin (n := 7) (ds := [S, V, R', Vs, .int (-1)]) ?_
  refine Run.seq (Run.tryX (x := ⟨21, [letD bs]⟩) (gSet_ex (EvX.callP (EvL.cons (Ev.var rfl) (EvL.cons (Ev.var rfl) (EvL.cons (Ev.var rfl) .nil))) .nil ⟨rfl, rfl⟩ hf)) rfl ?_)
  show Run _ [.v S, .v V, .v R', .v Vs, .v (.int (-1)), .no, .exn ⟨21, [letD bs]⟩] _
  refine Run.seq (Run.ifF rfl (Run.next ?_))
  refine Run.seq (Run.ifF rfl (Run.next ?_))
  refine Run.seq (Run.ifF rfl (Run.next ?_))
  refine Run.seq (Run.ifP (Ev.eqI (i := -1) (j := -1) rfl (Ev.neg Ev.c)) (fun _ => ?_) fun h => (h rfl).elim)
  refine Run.ret (d := .bl true) (Ev.andT rfl (Ev.andT rfl (Ev.callP (EvL.cons (d := letD bs) rfl (EvL.cons (Ev.tupleS hV (Ev.var rfl)) .nil)) .nil ⟨rfl, rfl⟩ (law_same_ok (.inr rfl) (by rw [hb.1]; omega))))) rfl
theorem followed_ok (w : WOk mills ps low high lets) {bs row : List Int} {V R' : D} {m : Nat} (hb : Bits ps.length bs) (hV : SeqA D.int V bs) (hr : RowIn ps.length row) (hR : SeqA D.int R' row) (hl : row.length ≤ 80000) (hw : WalkTo (fun k => RunP mills ps low high lets (stL bs row k)) row.length m) :
    sem_law_followed [seasonD (landD mills ps) low high lets, V, R', .lst ((visL bs row m).map letD), if m = row.length then .non else .int (m : Nat)] = some (.ok (.bl true)) := by
  have hf := follow_ok w hb hV hr hR hl hw
  have pl := w.pl
  have hle := hw.le
  have hvl := visL_len bs row m
  generalize seasonD (landD mills ps) low high lets = S at hf ⊢
  by_cases e : m = row.length
  · rw [if_pos e] at hf ⊢
    refine sem_fin (n := 7) (ds := [S, V, R', .lst ((visL bs row m).map letD), .non]) ?_
    refine Run.seq (Run.tryN (gSet_ok (d := .tup ((visL bs row m).map letD)) (Ev.callP (EvL.cons (Ev.var rfl) (EvL.cons (Ev.var rfl) (EvL.cons (Ev.var rfl) .nil))) .nil ⟨rfl, rfl⟩ hf)) ?_)
    show Run _ [.v S, .v V, .v R', .v (.lst ((visL bs row m).map letD)), .v .non, .v (.tup ((visL bs row m).map letD)), .no] _
    refine Run.ret (d := .bl true) (Ev.andT rfl (Ev.callP (EvL.cons (Ev.var rfl) (EvL.cons (Ev.var rfl) .nil)) .nil ⟨rfl, rfl⟩ (law_same_rows_ok (.inl rfl) (by omega) fun x hx => ?_))) rfl
    obtain ⟨k, hk, rfl⟩ := List.mem_map.mp hx
    rw [(stL_bits hb hr k (by have := List.mem_range.mp hk; omega)).1]
    omega
  · rw [if_neg e] at hf ⊢
    refine sem_fin (n := 7) (ds := [S, V, R', .lst ((visL bs row m).map letD), .int (m : Nat)]) ?_
    refine Run.seq (Run.tryX (x := ⟨22, [.int (m : Nat)]⟩) (gSet_ex (EvX.callP (EvL.cons (Ev.var rfl) (EvL.cons (Ev.var rfl) (EvL.cons (Ev.var rfl) .nil))) .nil ⟨rfl, rfl⟩ hf)) rfl ?_)
    show Run _ [.v S, .v V, .v R', .v (.lst ((visL bs row m).map letD)), .v (.int (m : Nat)), .no, .exn ⟨22, [.int (m : Nat)]⟩] _
    refine Run.seq (Run.ifF rfl (Run.next ?_))
    refine Run.seq (Run.ifF rfl (Run.next ?_))
    refine Run.seq (Run.ifF rfl (Run.next ?_))
    refine Run.seq (Run.ifP (Ev.eqI (Ev.var rfl) (Ev.neg Ev.c)) (fun h => by omega) fun h => Run.next ?_)
    refine Run.ret (d := .bl true) (Ev.andT rfl (Ev.andT rfl (Ev.andT (Ev.callP (EvL.cons (d := .int (m : Nat)) rfl .nil) .nil ⟨rfl, rfl⟩ (law_whole_int _)) ?_))) rfl
    have z := Ev.eqI (fa := xFld 6 [22]) (fb := vVar 4) (ρ := [.v S, .v V, .v R', .v (.lst ((visL bs row m).map letD)), .v (.int (m : Nat)), .no, .exn ⟨22, [.int (m : Nat)]⟩]) (i := (m : Nat)) (j := (m : Nat)) rfl rfl
    rw [decide_eq_true rfl] at z
    exact z
theorem law_turnable_ok (w : WOk mills ps low high lets) {bs : List Int} {V : D} (hb : Bits ps.length bs) (hV : SeqA D.int V bs) : sem_law_turnable [seasonD (landD mills ps) low high lets, V, if RunP mills ps low high lets bs then .lst ((turnablesL mills ps low high lets bs).map D.int) else .non] = some (.ok (.bl true)) := by
  have hf := turnable_ok w hb hV
  have pl := w.pl
  have tl : (turnablesL mills ps low high lets bs).length ≤ ps.length := pickL_len _ _
  generalize seasonD (landD mills ps) low high lets = S at hf ⊢
  by_cases h0 : RunP mills ps low high lets bs
  · rw [if_pos h0] at hf ⊢
    refine sem_fin (n := 5) (ds := [S, V, .lst ((turnablesL mills ps low high lets bs).map D.int)]) ?_
    refine Run.seq (Run.tryN (gSet_ok (d := letD (turnablesL mills ps low high lets bs)) (Ev.callP (EvL.cons (Ev.var rfl) (EvL.cons (Ev.var rfl) .nil)) .nil ⟨rfl, rfl⟩ hf)) ?_)
    show Run _ [.v S, .v V, .v (.lst ((turnablesL mills ps low high lets bs).map D.int)), .v (letD (turnablesL mills ps low high lets bs)), .no] _
    exact Run.ret (d := .bl true) (Ev.andT rfl (Ev.callP (EvL.cons (Ev.var rfl) (EvL.cons (Ev.var rfl) .nil)) .nil ⟨rfl, rfl⟩ (law_same_ok (.inl rfl) (by omega)))) rfl
  · rw [if_neg h0] at hf ⊢
    refine sem_fin (n := 5) (ds := [S, V, .non]) ?_
    refine Run.seq (Run.tryX (x := ⟨21, [letD bs]⟩) (gSet_ex (EvX.callP (EvL.cons (Ev.var rfl) (EvL.cons (Ev.var rfl) .nil)) .nil ⟨rfl, rfl⟩ hf)) rfl ?_)
    show Run _ [.v S, .v V, .v .non, .no, .exn ⟨21, [letD bs]⟩] _
    refine Run.seq (Run.ifF rfl (Run.next ?_))
    exact Run.ret (d := .bl true) (Ev.andT rfl (Ev.andT rfl (Ev.callP (EvL.cons (d := letD bs) rfl (EvL.cons (Ev.tupleS hV (Ev.var rfl)) .nil)) .nil ⟨rfl, rfl⟩ (law_same_ok (.inr rfl) (by rw [hb.1]; omega))))) rfl
end
end LW
end

section
set_option maxHeartbeats 4000000
namespace LW
open PySem L2 EV
local macro_rules | `(tactic| get_elem_tactic_extensible) => `(tactic| first
  | ((with_reducible apply Ev.var); exact rfl)
  | with_reducible exact Ev.c
  | assumption
  | ((with_reducible apply Ev.add) <;> get_elem_tactic_extensible)
  | ((with_reducible apply Ev.sub) <;> get_elem_tactic_extensible)
  | ((with_reducible apply Ev.mulR) <;> get_elem_tactic_extensible)
  | ((with_reducible apply Ev.mulL) <;> get_elem_tactic_extensible)
  | ((with_reducible apply Ev.mod) <;> get_elem_tactic_extensible)
  | ((with_reducible apply Ev.fdiv) <;> get_elem_tactic_extensible)
  | ((with_reducible apply Ev.pow) <;> get_elem_tactic_extensible)
  | ((with_reducible apply Ev.neg) <;> get_elem_tactic_extensible)
  | ((with_reducible apply Ev.lt) <;> get_elem_tactic_extensible)
  | ((with_reducible apply Ev.le) <;> get_elem_tactic_extensible)
  | ((with_reducible apply Ev.gt) <;> get_elem_tactic_extensible)
  | ((with_reducible apply Ev.ge) <;> get_elem_tactic_extensible)
  | ((with_reducible apply Ev.eqI) <;> get_elem_tactic_extensible)
  | ((with_reducible apply Ev.neI) <;> get_elem_tactic_extensible)
  | ((with_reducible apply Ev.isN) <;> get_elem_tactic_extensible)
  | ((with_reducible apply Ev.notN) <;> get_elem_tactic_extensible)
  | ((with_reducible apply Ev.notP) <;> get_elem_tactic_extensible)
  | ((with_reducible apply Ev.andP) <;> get_elem_tactic_extensible)
  | ((with_reducible apply Ev.orP) <;> get_elem_tactic_extensible)
  | ((with_reducible apply Ev.int_) <;> get_elem_tactic_extensible)
  | ((with_reducible apply Ev.intB) <;> get_elem_tactic_extensible)
  | ((with_reducible apply Ev.lenL) <;> get_elem_tactic_extensible)
  | ((with_reducible apply Ev.lenT) <;> get_elem_tactic_extensible)
  | ((with_reducible apply Ev.lenS) <;> get_elem_tactic_extensible)
  | ((with_reducible apply Ev.min_) <;> get_elem_tactic_extensible)
  | ((with_reducible apply Ev.max_) <;> get_elem_tactic_extensible)
  | ((with_reducible apply Ev.abs_) <;> get_elem_tactic_extensible)
  | ((with_reducible apply Ev.tupleL) <;> get_elem_tactic_extensible)
  | ((with_reducible apply Ev.tupleT) <;> get_elem_tactic_extensible)
  | ((with_reducible apply EvL.listL) <;> get_elem_tactic_extensible)
  | ((with_reducible apply EvL.listT) <;> get_elem_tactic_extensible)
  | ((with_reducible apply Ev.ixL) <;> get_elem_tactic_extensible)
  | ((with_reducible apply Ev.ixT) <;> get_elem_tactic_extensible)
  | ((with_reducible apply Ev.ixM) <;> get_elem_tactic_extensible)
  | ((with_reducible apply Ev.ixMT) <;> get_elem_tactic_extensible)
  | ((with_reducible apply Ev.tup) <;> get_elem_tactic_extensible)
  | ((with_reducible apply Ev.vL) <;> get_elem_tactic_extensible)
  | with_reducible exact EvL.nil
  | ((with_reducible apply EvL.cons) <;> get_elem_tactic_extensible)
  | ((with_reducible apply EvL.lenOk) <;> get_elem_tactic_extensible)
  | ((with_reducible apply EvL.range1) <;> get_elem_tactic_extensible)
  | ((with_reducible apply EvL.seqL) <;> get_elem_tactic_extensible)
  | ((with_reducible apply EvL.seqT) <;> get_elem_tactic_extensible)
  | ((with_reducible apply EvL.seqS) <;> get_elem_tactic_extensible)
  | (intro; get_elem_tactic_extensible)
  | exact (show GetElem?.getElem? (List.cons _ _) _ = some _ from rfl)
  | omega
  | (simp only [List.length_map, List.length_append, List.length_replicate, List.length_cons, List.length_nil, List.length_range] <;> omega))
def formD {α : Type} (A : α → D) (xs : List α) (f : Int) : D := if f = 1 then .lst (xs.map A) else .tup (xs.map A)
theorem formD_seq {α : Type} (A : α → D) (xs : List α) (f : Int) : SeqA A (formD A xs f) xs := by
  unfold formD
  split
  · exact .inl rfl
  · exact .inr rfl
theorem formD_pl (bs : List Int) (f : Int) : D.pl 8 (formD D.int bs f) = true := by
  unfold formD
  split
  · exact pl_lst (n := 7) (pls_map (pl_int 7) bs)
  · exact pl_tup (n := 7) (pls_map (pl_int 7) bs)
section
variable {mills : Int} {ps : List (Int × Int)} {low : List Int} {high : List (Option Int)} {lets : List (List Int)}
theorem law_formK {α : Type} {A : α → D} {V : D} {xs : List α} (h : SeqA A V xs) (f : Int) : sem_law_form [V, .int f] = some (.ok (formD A xs (f % 2))) := by
  refine sem_fin (n := 2) (ds := [V, .int f]) ?_
  refine Run.seq (Run.ifP (Ev.eqI (Ev.mod (Ev.int_ (Ev.var rfl)) Ev.c (by decide)) Ev.c) (fun e => ?_) fun e => Run.next ?_)
  · refine Run.ret (d := .lst (xs.map A)) ?_ ?_
    · rcases h with rfl | rfl
      · exact Ev.vL (EvL.listL (Ev.var rfl))
      · exact Ev.vL (EvL.listT (Ev.var rfl))
    · show _ = R.ok _
      unfold formD
      rw [if_pos e]
  · refine Run.ret (d := .tup (xs.map A)) (Ev.tupleS h (Ev.var rfl)) ?_
    show _ = R.ok _
    unfold formD
    rw [if_neg e]
theorem law_truth_ok (b : Bool) : sem_law_truth [.bl b, .bl b] = some (.ok (.bl true)) := by cases b <;> rfl
theorem asked_run {W S Vs bad due : D} {bs row : List Int} {wb : Bool} {P0 : Prop} [Decidable P0] {kind : Int} {tl : List Int} (hn : bs.length ≤ 1000)
    (hvis : sem_law_visited [W, letD bs, .lst (row.map D.int)] = some (.ok (.lst [Vs, bad])))
    (hne : ∀ (f : FE) (ρ : EV.Env), Ev f ρ bad → Ev (v2 neD f (v1 negD (vC (.int 1)))) ρ (.bl (decide P0)))
    (hN : bad.isNon = wb)
    (hdue : P0 → ∀ ρ : EV.Env, ρ[0]? = some (.v W) → ρ[2]? = some (.v (letD bs)) → ρ.length = 11 → EvL (nLc (iRange1 (vCall lenD (aCons (vVar 2) (aNil)))) (nmG 10) (vCallP 2 0 [0, 1] sem_law_runs [] (aCons (vVar 0) (aCons (vCallP 2 0 [0, 1] sem_law_turn [] (aCons (vVar 2) (aCons (vVar 10) (aNil))) (aNil)) (aNil))) (aNil)) (vVar 10) [10]) ρ (tl.map D.int))
    (hd : due = if P0 then .lst (tl.map D.int) else .non) (htl : tl.length ≤ 1000)
    (hwalk : ∀ V' R', SeqA D.int V' bs → SeqA D.int R' row → sem_is_walk [S, V', R'] = some (.ok (.bl wb)))
    (hfol : ∀ V' R', SeqA D.int V' bs → SeqA D.int R' row → sem_law_followed [S, V', R', Vs, bad] = some (.ok (.bl true)))
    (htur : ∀ V', SeqA D.int V' bs → sem_law_turnable [S, V', due] = some (.ok (.bl true)))
    (hsame : wb = true → ∃ Z, sem_follow [S, letD bs, .lst (row.map D.int)] = some (.ok Z) ∧ sem_law_same_rows [Z, Vs] = some (.ok (.bl true)))
    (htu : P0 → sem_turnable [S, letD bs] = some (.ok (letD tl))) :
    sem_law_asked [W, S, letD bs, .lst (row.map D.int), .int kind] = some (.ok (.bl true)) := by
  refine sem_fin (n := 11) (ds := [W, S, letD bs, .lst (row.map D.int), .int kind]) ?_
  refine Run.sset (d := .lst [Vs, bad]) (Ev.callP (EvL.cons (Ev.var rfl) (EvL.cons (Ev.var rfl) (EvL.cons (Ev.var rfl) .nil))) .nil ⟨rfl, rfl⟩ hvis) ?_
  refine Run.sset (d := .non) Ev.c ?_
  have w1 : ∀ ρ : EV.Env, ρ[5]? = some (.v (.lst [Vs, bad])) → Ev (v2 ixD (vVar 5) (vC (.int 1))) ρ bad := fun ρ h => Ev.ixL (Ev.var h) Ev.c (by omega) rfl
  have w0 : ∀ ρ : EV.Env, ρ[5]? = some (.v (.lst [Vs, bad])) → Ev (v2 ixD (vVar 5) (vC (.int 0))) ρ Vs := fun ρ h => Ev.ixL (Ev.var h) Ev.c (by omega) rfl
  have wN : ∀ ρ : EV.Env, ρ[5]? = some (.v (.lst [Vs, bad])) → Ev (v2 isNonD (v2 ixD (vVar 5) (vC (.int 1))) (vC .non)) ρ (.bl wb) := fun ρ h => by
    have z := Ev.isN (w1 ρ h)
    rw [hN] at z
    cases wb <;> exact z
  refine Run.cut (fun ρ => ρ = [.v W, .v S, .v (letD bs), .v (.lst (row.map D.int)), .v (.int kind), .v (.lst [Vs, bad]), .v due, .no, .no, .no, .no]) ?_ ?_
  · refine Run.ifP (hne _ _ (w1 _ rfl)) (fun h => ?_) fun h => ?_
    · exact Run.set (d := .lst (tl.map D.int)) (Ev.vL (hdue h _ rfl rfl rfl)) ⟨_, rfl, by rw [hd, if_pos h]; rfl⟩
    · exact Run.next ⟨_, rfl, by rw [hd, if_neg h]; rfl⟩
  · rintro _ rfl
    refine Run.seq (Run.for (fun n ρ => ∃ a b c, ρ = [.v W, .v S, .v (letD bs), .v (.lst (row.map D.int)), .v (.int kind), .v (.lst [Vs, bad]), .v due, a, b, c, .no]) (EvL.range1 (j := 2) Ev.c (by decide)) ⟨.no, .no, .no, rfl⟩ (fun k d ρ hd hI => ?_) fun ρ hI => ?_)
    · obtain ⟨a, b, c, rfl⟩ := hI
      obtain ⟨rfl, hk⟩ := range0_get hd
      have f1 := law_formK (A := D.int) (V := letD bs) (xs := bs) (.inr rfl) (kind + (k : Nat))
      have f2 := law_formK (A := D.int) (V := .lst (row.map D.int)) (xs := row) (.inl rfl) (kind / 2 + (k : Nat))
      have s1 := formD_seq D.int bs ((kind + (k : Nat)) % 2)
      have s2 := formD_seq D.int row ((kind / 2 + (k : Nat)) % 2)
      have p1 := formD_pl bs ((kind + (k : Nat)) % 2)
      have p2 := formD_pl row ((kind / 2 + (k : Nat)) % 2)
      generalize formD D.int bs ((kind + (k : Nat)) % 2) = V' at f1 s1 p1
      generalize formD D.int row ((kind / 2 + (k : Nat)) % 2) = R' at f2 s2 p2
      refine ⟨_, rfl, ?_⟩
      refine Run.sset (d := V') (Ev.callP (EvL.cons (Ev.var rfl) (EvL.cons (Ev.add (Ev.var rfl) (Ev.var rfl)) .nil)) .nil ⟨rfl, rfl⟩ f1) ?_
      refine Run.sset (d := R') (Ev.callP (EvL.cons (Ev.var rfl) (EvL.cons (Ev.add (Ev.fdiv (Ev.var rfl) Ev.c (by decide)) (Ev.var rfl)) .nil)) .nil ⟨rfl, rfl⟩ f2) ?_
      show Run _ [.v W, .v S, .v (letD bs), .v (.lst (row.map D.int)), .v (.int kind), .v (.lst [Vs, bad]), .v due, .v (.int (k : Nat)), .v V', .v R', .no] _
      refine Run.seq (Run.ifF (Ev.v1 (p := .bl true) (Ev.callP (EvL.cons (Ev.callP (EvL.cons (Ev.var rfl) (EvL.cons (Ev.var rfl) (EvL.cons (Ev.var rfl) .nil))) .nil ⟨rfl, rfl⟩ (hwalk V' R' s1 s2)) (EvL.cons (wN _ rfl) .nil)) .nil ⟨rfl, rfl⟩ (law_truth_ok wb)) rfl) (Run.next ?_))
      refine Run.seq (Run.ifF (Ev.v1 (p := .bl true) (Ev.callP (EvL.cons (Ev.var rfl) (EvL.cons (Ev.var rfl) (EvL.cons (Ev.var rfl) (EvL.cons (w0 _ rfl) (EvL.cons (w1 _ rfl) .nil))))) .nil ⟨rfl, rfl⟩ (hfol V' R' s1 s2)) rfl) (Run.next ?_))
      refine Run.seq (Run.ifF (Ev.v1 (p := .bl true) (Ev.callP (EvL.cons (Ev.var rfl) (EvL.cons (Ev.var rfl) (EvL.cons (Ev.var rfl) .nil))) .nil ⟨rfl, rfl⟩ (htur V' s1)) rfl) (Run.next ?_))
      refine Run.ifP (Ev.orP (ne_self (Ev.var rfl) (Ev.callP (EvL.cons (Ev.var rfl) (EvL.cons (Ev.add (Ev.var rfl) (Ev.var rfl)) .nil)) .nil ⟨rfl, rfl⟩ f1) p1) fun _ => ne_self (Ev.var rfl) (Ev.callP (EvL.cons (Ev.var rfl) (EvL.cons (Ev.add (Ev.fdiv (Ev.var rfl) Ev.c (by decide)) (Ev.var rfl)) .nil)) .nil ⟨rfl, rfl⟩ f2) p2) (fun h => (h.elim id id).elim) fun _ => Run.next ⟨_, _, _, rfl⟩
    · obtain ⟨a, b, c, rfl⟩ := hI
      refine Run.seq (Run.ifF (Ev.v1 (p := .bl true) (Ev.callP (EvL.cons (Ev.callP .nil (EvL.cons (Ev.var rfl) (EvL.cons (Ev.var rfl) (EvL.cons (Ev.var rfl) .nil))) ⟨rfl, rfl⟩ (hwalk _ _ (.inr rfl) (.inl rfl))) (EvL.cons (wN _ rfl) .nil)) .nil ⟨rfl, rfl⟩ (law_truth_ok wb)) rfl) (Run.next ?_))
      refine Run.seq (Run.ifF ?_ (Run.next ?_))
      · cases wb with
        | false =>
          have z := wN [.v W, .v S, .v (letD bs), .v (.lst (row.map D.int)), .v (.int kind), .v (.lst [Vs, bad]), .v due, a, b, c, .no] rfl
          unfold Ev vAnd
          rw [z]
          rfl
        | true =>
          obtain ⟨Z, h1, h2⟩ := hsame rfl
          exact Ev.andT (wN _ rfl) (Ev.v1 (p := .bl true) (Ev.callP (EvL.cons (Ev.callP .nil (EvL.cons (Ev.var rfl) (EvL.cons (Ev.var rfl) (EvL.cons (Ev.var rfl) .nil))) ⟨rfl, rfl⟩ h1) (EvL.cons (w0 _ rfl) .nil)) .nil ⟨rfl, rfl⟩ h2) rfl)
      · by_cases hp : P0
        · rw [if_pos hp] at hd
          subst hd
          refine Run.ret (d := .bl true) ?_ rfl
          have z := Ev.callP (n := 2) (m := 0) (perm := [0, 1]) (dds := []) (ρ := [.v W, .v S, .v (letD bs), .v (.lst (row.map D.int)), .v (.int kind), .v (.lst [Vs, bad]), .v (.lst (tl.map D.int)), a, b, c, .no]) (fs := aCons (vCallP 0 2 [0, 1] sem_turnable [] aNil (aCons (vVar 1) (aCons (vVar 2) (aNil)))) (aCons (vVar 6) (aNil))) (fk := aNil) (EvL.cons (Ev.callP .nil (EvL.cons (Ev.var rfl) (EvL.cons (Ev.var rfl) .nil)) ⟨rfl, rfl⟩ (htu hp)) (EvL.cons (Ev.var rfl) .nil)) .nil ⟨rfl, rfl⟩ (law_same_ok (xs := tl) (.inl rfl) (by omega))
          unfold Ev vOr
          rw [show (v2 isNonD (vVar 6) (vC .non)) [.v W, .v S, .v (letD bs), .v (.lst (row.map D.int)), .v (.int kind), .v (.lst [Vs, bad]), .v (.lst (tl.map D.int)), a, b, c, .no] = some (.ok (.bl false)) from rfl]
          exact z
        · rw [if_neg hp] at hd
          subst hd
          exact Run.ret (d := .bl true) rfl rfl
end
end LW
end

section
set_option maxHeartbeats 4000000
namespace LW
open PySem L2 EV
local macro_rules | `(tactic| get_elem_tactic_extensible) => `(tactic| first
  | ((with_reducible apply Ev.var); exact rfl)
  | with_reducible exact Ev.c
  | assumption
  | ((with_reducible apply Ev.add) <;> get_elem_tactic_extensible)
  | ((with_reducible apply Ev.sub) <;> get_elem_tactic_extensible)
  | ((with_reducible apply Ev.mulR) <;> get_elem_tactic_extensible)
  | ((with_reducible apply Ev.mulL) <;> get_elem_tactic_extensible)
  | ((with_reducible apply Ev.mod) <;> get_elem_tactic_extensible)
  | ((with_reducible apply Ev.fdiv) <;> get_elem_tactic_extensible)
  | ((with_reducible apply Ev.pow) <;> get_elem_tactic_extensible)
  | ((with_reducible apply Ev.neg) <;> get_elem_tactic_extensible)
  | ((with_reducible apply Ev.lt) <;> get_elem_tactic_extensible)
  | ((with_reducible apply Ev.le) <;> get_elem_tactic_extensible)
  | ((with_reducible apply Ev.gt) <;> get_elem_tactic_extensible)
  | ((with_reducible apply Ev.ge) <;> get_elem_tactic_extensible)
  | ((with_reducible apply Ev.eqI) <;> get_elem_tactic_extensible)
  | ((with_reducible apply Ev.neI) <;> get_elem_tactic_extensible)
  | ((with_reducible apply Ev.isN) <;> get_elem_tactic_extensible)
  | ((with_reducible apply Ev.notN) <;> get_elem_tactic_extensible)
  | ((with_reducible apply Ev.notP) <;> get_elem_tactic_extensible)
  | ((with_reducible apply Ev.andP) <;> get_elem_tactic_extensible)
  | ((with_reducible apply Ev.orP) <;> get_elem_tactic_extensible)
  | ((with_reducible apply Ev.int_) <;> get_elem_tactic_extensible)
  | ((with_reducible apply Ev.intB) <;> get_elem_tactic_extensible)
  | ((with_reducible apply Ev.lenL) <;> get_elem_tactic_extensible)
  | ((with_reducible apply Ev.lenT) <;> get_elem_tactic_extensible)
  | ((with_reducible apply Ev.lenS) <;> get_elem_tactic_extensible)
  | ((with_reducible apply Ev.min_) <;> get_elem_tactic_extensible)
  | ((with_reducible apply Ev.max_) <;> get_elem_tactic_extensible)
  | ((with_reducible apply Ev.abs_) <;> get_elem_tactic_extensible)
  | ((with_reducible apply Ev.tupleL) <;> get_elem_tactic_extensible)
  | ((with_reducible apply Ev.tupleT) <;> get_elem_tactic_extensible)
  | ((with_reducible apply EvL.listL) <;> get_elem_tactic_extensible)
  | ((with_reducible apply EvL.listT) <;> get_elem_tactic_extensible)
  | ((with_reducible apply Ev.ixL) <;> get_elem_tactic_extensible)
  | ((with_reducible apply Ev.ixT) <;> get_elem_tactic_extensible)
  | ((with_reducible apply Ev.ixM) <;> get_elem_tactic_extensible)
  | ((with_reducible apply Ev.ixMT) <;> get_elem_tactic_extensible)
  | ((with_reducible apply Ev.tup) <;> get_elem_tactic_extensible)
  | ((with_reducible apply Ev.vL) <;> get_elem_tactic_extensible)
  | with_reducible exact EvL.nil
  | ((with_reducible apply EvL.cons) <;> get_elem_tactic_extensible)
  | ((with_reducible apply EvL.lenOk) <;> get_elem_tactic_extensible)
  | ((with_reducible apply EvL.range1) <;> get_elem_tactic_extensible)
  | ((with_reducible apply EvL.seqL) <;> get_elem_tactic_extensible)
  | ((with_reducible apply EvL.seqT) <;> get_elem_tactic_extensible)
  | ((with_reducible apply EvL.seqS) <;> get_elem_tactic_extensible)
  | (intro; get_elem_tactic_extensible)
  | exact (show GetElem?.getElem? (List.cons _ _) _ = some _ from rfl)
  | omega
  | (simp only [List.length_map, List.length_append, List.length_replicate, List.length_cons, List.length_nil, List.length_range] <;> omega))
section
variable {mills : Int} {ps : List (Int × Int)} {low : List Int} {high : List (Option Int)} {lets : List (List Int)}
theorem mget {ρ : EV.Env} {i v : Nat} {d : D} {s : Sl} (h : ρ[i]? = some (.v d)) (hi : v ≠ i) : ((mask (wipeE ρ [v])).set v s)[i]? = some (.v d) := by
  rw [List.getElem?_set_ne hi]
  unfold mask
  rw [List.getElem?_map, wipeE_get, if_neg (by simp; exact fun z => hi z.symm), h]
  rfl
theorem mset {ρ : EV.Env} {v : Nat} {s : Sl} (h : v < ρ.length) : ((mask (wipeE ρ [v])).set v s)[v]? = some s := List.getElem?_set_self (by unfold mask; rw [List.length_map, wipeE_length]; exact h)
theorem law_asked_ok (w : WOk mills ps low high lets) (rest : List D) {bs row : List Int} (hb : Bits ps.length bs) (hr : RowIn ps.length row) (hl : row.length ≤ 80000) (kind : Int) :
    sem_law_asked [wD mills ps low high lets rest, seasonD (landD mills ps) low high lets, letD bs, .lst (row.map D.int), .int kind] = some (.ok (.bl true)) := by
  have pl := w.pl
  have tl : (turnablesL mills ps low high lets bs).length ≤ ps.length := pickL_len _ _
  have hdue : ∀ ρ : EV.Env, ρ[0]? = some (.v (wD mills ps low high lets rest)) → ρ[2]? = some (.v (letD bs)) → ρ.length = 11 → EvL (nLc (iRange1 (vCall lenD (aCons (vVar 2) (aNil)))) (nmG 10) (vCallP 2 0 [0, 1] sem_law_runs [] (aCons (vVar 0) (aCons (vCallP 2 0 [0, 1] sem_law_turn [] (aCons (vVar 2) (aCons (vVar 10) (aNil))) (aNil)) (aNil))) (aNil)) (vVar 10) [10]) ρ ((turnablesL mills ps low high lets bs).map D.int) := fun ρ h0 h2 hn => by
    refine pick_lc (n := ps.length) (fun k => RunP mills ps low high lets (turnL bs (k : Int))) (range_n (by
      have z := Ev.lenT (fa := vVar 2) (ρ := ρ) (ds := bs.map D.int) (Ev.var h2)
      rw [List.length_map, hb.1] at z
      exact z) (by omega)) (by omega) (fun k hk => ?_) (fun d => Ev.var (mset (by omega)))
    exact Ev.callP (EvL.cons (Ev.var (mget h0 (by decide))) (EvL.cons (Ev.callP (EvL.cons (Ev.var (mget h2 (by decide))) (EvL.cons (Ev.var (mset (by omega))) .nil)) .nil ⟨rfl, rfl⟩ (law_turn_eq hb (by omega) (by omega) (by omega))) .nil)) .nil ⟨rfl, rfl⟩ (law_runs_ok w rest (turnL_bits hb (k := (k : Int)) (by omega) (by omega)) (.inr rfl))
  rcases walk_cases (fun k => RunP mills ps low high lets (stL bs row k)) row.length with h0 | ⟨m, hw⟩
  · have h0' : ¬ RunP mills ps low high lets bs := h0
    refine asked_run (P0 := RunP mills ps low high lets bs) (wb := false) (Vs := .lst []) (bad := .int (-1)) (due := if RunP mills ps low high lets bs then .lst ((turnablesL mills ps low high lets bs).map D.int) else .non) (tl := turnablesL mills ps low high lets bs) (by rw [hb.1]; omega) (visited_no w rest _ hb h0') (fun f ρ h => ?_) rfl (fun h => absurd h h0') rfl (by omega) (fun V' R' h1 h2 => is_walk_no w R' hb h1 h0') (fun V' R' h1 h2 => followed_no w R' _ hb h1 h0') (fun V' h1 => law_turnable_ok w hb h1) (fun h => by cases h) fun h => absurd h h0'
    have z := Ev.neI h (Ev.neg (ρ := ρ) (Ev.c (d := .int 1)))
    rw [decide_eq_false (by omega)] at z
    rw [decide_eq_false h0']
    exact z
  · have h0' : RunP mills ps low high lets bs := hw.all 0 (Nat.zero_le _)
    have hvl := visL_len bs row m
    have hle := hw.le
    refine asked_run (P0 := RunP mills ps low high lets bs) (wb := decide (m = row.length)) (due := if RunP mills ps low high lets bs then .lst ((turnablesL mills ps low high lets bs).map D.int) else .non) (tl := turnablesL mills ps low high lets bs) (by rw [hb.1]; omega) (visited_ok w rest hb hr hl hw) (fun f ρ h => ?_) ?_ (fun _ => hdue) rfl (by omega) (fun V' R' h1 h2 => is_walk_ok w hb h1 hr h2 hw) (fun V' R' h1 h2 => followed_ok w hb h1 hr h2 hl hw) (fun V' h1 => law_turnable_ok w hb h1) (fun h => ?_) fun h => (turnable_ok w hb (.inr rfl)).trans (by rw [if_pos h])
    · rw [decide_eq_true h0']
      by_cases e : m = row.length
      · rw [if_pos e] at h
        exact Ev.ne h (Ev.neg Ev.c) rfl rfl
      · rw [if_neg e] at h
        have z := Ev.neI h (Ev.neg (ρ := ρ) (Ev.c (d := .int 1)))
        rw [decide_eq_true (by omega)] at z
        exact z
    · by_cases e : m = row.length
      · rw [if_pos e, decide_eq_true e]
        rfl
      · rw [if_neg e, decide_eq_false e]
        rfl
    · have e : m = row.length := of_decide_eq_true h
      refine ⟨.tup ((visL bs row m).map letD), (follow_ok w hb (.inr rfl) hr (.inl rfl) hl hw).trans (by rw [if_pos e]), law_same_rows_ok (.inl rfl) (by omega) fun x hx => ?_⟩
      obtain ⟨k, hk, rfl⟩ := List.mem_map.mp hx
      rw [(stL_bits hb hr k (by have := List.mem_range.mp hk; omega)).1]
      omega
end
end LW
end

section
set_option maxHeartbeats 4000000
namespace LW
open PySem L2 EV
local macro_rules | `(tactic| get_elem_tactic_extensible) => `(tactic| first
  | ((with_reducible apply Ev.var); exact rfl)
  | with_reducible exact Ev.c
  | assumption
  | ((with_reducible apply Ev.add) <;> get_elem_tactic_extensible)
  | ((with_reducible apply Ev.sub) <;> get_elem_tactic_extensible)
  | ((with_reducible apply Ev.mulR) <;> get_elem_tactic_extensible)
  | ((with_reducible apply Ev.mulL) <;> get_elem_tactic_extensible)
  | ((with_reducible apply Ev.mod) <;> get_elem_tactic_extensible)
  | ((with_reducible apply Ev.fdiv) <;> get_elem_tactic_extensible)
  | ((with_reducible apply Ev.pow) <;> get_elem_tactic_extensible)
  | ((with_reducible apply Ev.neg) <;> get_elem_tactic_extensible)
  | ((with_reducible apply Ev.lt) <;> get_elem_tactic_extensible)
  | ((with_reducible apply Ev.le) <;> get_elem_tactic_extensible)
  | ((with_reducible apply Ev.gt) <;> get_elem_tactic_extensible)
  | ((with_reducible apply Ev.ge) <;> get_elem_tactic_extensible)
  | ((with_reducible apply Ev.eqI) <;> get_elem_tactic_extensible)
  | ((with_reducible apply Ev.neI) <;> get_elem_tactic_extensible)
  | ((with_reducible apply Ev.isN) <;> get_elem_tactic_extensible)
  | ((with_reducible apply Ev.notN) <;> get_elem_tactic_extensible)
  | ((with_reducible apply Ev.notP) <;> get_elem_tactic_extensible)
  | ((with_reducible apply Ev.andP) <;> get_elem_tactic_extensible)
  | ((with_reducible apply Ev.orP) <;> get_elem_tactic_extensible)
  | ((with_reducible apply Ev.int_) <;> get_elem_tactic_extensible)
  | ((with_reducible apply Ev.intB) <;> get_elem_tactic_extensible)
  | ((with_reducible apply Ev.lenL) <;> get_elem_tactic_extensible)
  | ((with_reducible apply Ev.lenT) <;> get_elem_tactic_extensible)
  | ((with_reducible apply Ev.lenS) <;> get_elem_tactic_extensible)
  | ((with_reducible apply Ev.min_) <;> get_elem_tactic_extensible)
  | ((with_reducible apply Ev.max_) <;> get_elem_tactic_extensible)
  | ((with_reducible apply Ev.abs_) <;> get_elem_tactic_extensible)
  | ((with_reducible apply Ev.tupleL) <;> get_elem_tactic_extensible)
  | ((with_reducible apply Ev.tupleT) <;> get_elem_tactic_extensible)
  | ((with_reducible apply EvL.listL) <;> get_elem_tactic_extensible)
  | ((with_reducible apply EvL.listT) <;> get_elem_tactic_extensible)
  | ((with_reducible apply Ev.ixL) <;> get_elem_tactic_extensible)
  | ((with_reducible apply Ev.ixT) <;> get_elem_tactic_extensible)
  | ((with_reducible apply Ev.ixM) <;> get_elem_tactic_extensible)
  | ((with_reducible apply Ev.ixMT) <;> get_elem_tactic_extensible)
  | ((with_reducible apply Ev.tup) <;> get_elem_tactic_extensible)
  | ((with_reducible apply Ev.vL) <;> get_elem_tactic_extensible)
  | with_reducible exact EvL.nil
  | ((with_reducible apply EvL.cons) <;> get_elem_tactic_extensible)
  | ((with_reducible apply EvL.lenOk) <;> get_elem_tactic_extensible)
  | ((with_reducible apply EvL.range1) <;> get_elem_tactic_extensible)
  | ((with_reducible apply EvL.seqL) <;> get_elem_tactic_extensible)
  | ((with_reducible apply EvL.seqT) <;> get_elem_tactic_extensible)
  | ((with_reducible apply EvL.seqS) <;> get_elem_tactic_extensible)
  | (intro; get_elem_tactic_extensible)
  | exact (show GetElem?.getElem? (List.cons _ _) _ = some _ from rfl)
  | omega
  | (simp only [List.length_map, List.length_append, List.length_replicate, List.length_cons, List.length_nil, List.length_range] <;> omega))
theorem map_int_inj : ∀ {xs ys : List Int}, xs.map D.int = ys.map D.int → xs = ys
  | [], [], _ => rfl
  | [], y :: ys, h => by cases h
  | x :: xs, [], h => by cases h
  | x :: xs, y :: ys, h => by
    injection h with h1 h2
    injection h1 with h1
    rw [h1, map_int_inj h2]
theorem at_appendA {α : Type} [Inhabited α] {xs : List α} {x : α} {k : Int} (h0 : 0 ≤ k) (h : k < xs.length) : at_ (xs ++ [x]) k = at_ xs k := by
  unfold at_
  rw [List.getD_eq_getElem?_getD, List.getD_eq_getElem?_getD, List.getElem?_append_left (by omega)]
theorem at_lastA {α : Type} [Inhabited α] {xs : List α} {x : α} {k : Int} (h : k = xs.length) : at_ (xs ++ [x]) k = x := by
  unfold at_
  rw [List.getD_eq_getElem?_getD, h, Int.toNat_natCast, List.getElem?_append_right (Nat.le_refl _), Nat.sub_self]
  rfl
theorem law_world_run (mills : Int) (ps : List (Int × Int)) (r2 : Int) (row : List Int) (m1 : 1 ≤ mills) (m5 : mills ≤ 5) (p7 : ps.length ≤ 7) (ok : PairsOk mills ps) (hl : row.length = 25) :
    ∃ low high lets, sem_law_world [.lst [.int mills, .lst (ps.map pairD), .int r2], .lst (row.map D.int)] = some (.ok (wD mills ps low high lets [])) ∧ WOk mills ps low high lets ∧ ∃ bs, Bits ps.length bs ∧ RunP mills ps low high lets bs := by
  suffices H : Run g_law_world [.v (.lst [.int mills, .lst (ps.map pairD), .int r2]), .v (.lst (row.map D.int)), .no, .no, .no, .no, .no, .no, .no, .no, .no, .no, .no] (Ret fun d => ∃ low high lets, d = wD mills ps low high lets [] ∧ WOk mills ps low high lets ∧ ∃ bs, Bits ps.length bs ∧ RunP mills ps low high lets bs) by
    obtain ⟨d, h, low, high, lets, rfl, q⟩ := sem_ret (n := 13) (ds := [.lst [.int mills, .lst (ps.map pairD), .int r2], .lst (row.map D.int)]) H
    exact ⟨low, high, lets, h, q⟩
  generalize hV : D.lst [.int mills, .lst (ps.map pairD), .int r2] = V
  refine Run.sset (d := .int mills) (by subst hV; get_elem_tactic_extensible) (Run.sset (d := .lst (ps.map pairD)) (by subst hV; get_elem_tactic_extensible) ?_)
  refine Run.sown (EvL.lcr (fun k => .int (at_ row (18 + (k : Int)) % 2)) (EvL.range1 (by get_elem_tactic_extensible) (by rw [List.length_map]; omega)) (by rw [List.length_map]; omega) fun k hk => by
    rw [List.length_map] at hk
    get_elem_tactic_extensible) (by simp) ?_
  have eb : (List.range (Int.toNat ((ps.map pairD).length : Nat))).map (fun k : Nat => D.int (at_ row (18 + (k : Int)) % 2)) = ((List.range ps.length).map fun k : Nat => at_ row (18 + (k : Int)) % 2).map D.int := by
    rw [List.length_map, List.map_map]; rfl
  rw [eb]
  have hb0 : Bits ps.length ((List.range ps.length).map fun k : Nat => at_ row (18 + (k : Int)) % 2) := ⟨by simp, fun b hb => by
    obtain ⟨k, _, rfl⟩ := List.mem_map.mp hb
    omega⟩
  generalize (List.range ps.length).map (fun k : Nat => at_ row (18 + (k : Int)) % 2) = bs0 at hb0 ⊢
  refine Run.cut (fun ρ => ∃ (bs : List Int) (a : Sl), Bits ps.length bs ∧ ρ = [.v V, .v (.lst (row.map D.int)), .v (.int mills), .v (.lst (ps.map pairD)), .own (bs.map D.int), a, .no, .no, .no, .no, .no, .no, .no]) ?_ fun ρ hρ => ?_
  · refine Run.for (fun n ρ => ∃ (bs : List Int) (a : Sl), Bits ps.length bs ∧ ρ = [.v V, .v (.lst (row.map D.int)), .v (.int mills), .v (.lst (ps.map pairD)), .own (bs.map D.int), a, .no, .no, .no, .no, .no, .no, .no]) (EvL.range1 (by get_elem_tactic_extensible) (by rw [List.length_map]; omega)) ⟨bs0, .no, hb0, rfl⟩ (fun j d ρ hd hI => ?_) fun ρ hI => ?_
    · obtain ⟨bs, a, hb, rfl⟩ := hI
      obtain ⟨rfl, hj⟩ := range0_get hd
      have hj : j < ps.length := by rw [List.length_map] at hj; omega
      have set_ok : ∀ (bs : List Int) (v : Int), Bits ps.length bs → (v = 0 ∨ v = 1) → Bits ps.length (bs.set (Int.toNat (j : Int)) v) := fun bs v h hv => ⟨by rw [List.length_set]; exact h.1, fun x hx => by
        rcases List.mem_or_eq_of_mem_set hx with hx | hx
        · exact h.2 x hx
        · rw [hx]; exact hv⟩
      refine ⟨_, rfl, Run.cut (fun ρ => ∃ (bs : List Int), Bits ps.length bs ∧ ρ = [.v V, .v (.lst (row.map D.int)), .v (.int mills), .v (.lst (ps.map pairD)), .own (bs.map D.int), .v (.int j), .no, .no, .no, .no, .no, .no, .no]) ?_ fun ρ hρ => ?_⟩
      · refine Run.ifP (by subst hV; get_elem_tactic_extensible) (fun h => ?_) fun h => Run.next ⟨_, rfl, bs, hb, rfl⟩
        exact Run.setIxA (xs := bs.map D.int) (k := (j : Int)) (d := .int (at_ bs 0)) rfl (Ev.ixM (A := D.int) (by get_elem_tactic_extensible) (by get_elem_tactic_extensible) (by omega) (by rw [hb.1]; omega)) rfl (by get_elem_tactic_extensible) (by omega) (by rw [List.length_map, hb.1]; omega) ⟨_, rfl, _, set_ok bs (at_ bs 0) hb (hb.at (k := 0) (by omega) (by omega)), by rw [map_set]; rfl⟩
      · obtain ⟨bs, hb, rfl⟩ := hρ
        refine Run.ifP (by subst hV; get_elem_tactic_extensible) (fun h => ?_) fun h => Run.next ⟨bs, _, hb, rfl⟩
        exact Run.setIxA (xs := bs.map D.int) (k := (j : Int)) (d := .int (at_ bs ((j : Int) - 1))) rfl (Ev.ixM (A := D.int) (by get_elem_tactic_extensible) (by get_elem_tactic_extensible) (by omega) (by rw [hb.1]; omega)) rfl (by get_elem_tactic_extensible) (by omega) (by rw [List.length_map, hb.1]; omega) ⟨_, _, set_ok bs (at_ bs ((j : Int) - 1)) hb (hb.at (k := (j : Int) - 1) (by omega) (by omega)), by rw [map_set]; rfl⟩
    · obtain ⟨bs, a, hb, rfl⟩ := hI
      exact ⟨_, rfl, bs, a, hb, rfl⟩
  obtain ⟨bs, a, hb, rfl⟩ := hρ
  obtain ⟨cs, hc, nn⟩ := law_fed_ok mills ps bs (.lst (bs.map D.int)) m1 (by omega) ok (by omega) hb (.inl rfl)
  have ecs : cs = cntL mills.toNat ps bs ps.length := by
    have e1 := hc.symm.trans (law_fed_eq m1 (by omega) ok (by omega) hb (.inl rfl))
    injection e1 with e1
    injection e1 with e1
    injection e1 with e1
    exact map_int_inj e1
  refine Run.srel (Run.sset (Ev.callP (ds := [.int mills, .lst (ps.map pairD), .lst (bs.map D.int)]) (by get_elem_tactic_extensible) EvL.nil ⟨rfl, rfl⟩ hc) (Run.sown (ds := []) (by get_elem_tactic_extensible) (show (7 : Nat) < 13 by decide) (Run.sown (ds := []) (by get_elem_tactic_extensible) (show (8 : Nat) < 13 by decide) ?_)))
  show Run (gSeq _ _) [.v V, .v (.lst (row.map D.int)), .v (.int mills), .v (.lst (ps.map pairD)), .v (.lst (bs.map D.int)), a, .v (.lst (cs.map D.int)), .own [], .own [], .no, .no, .no, .no] _
  refine Run.cut (fun ρ => ∃ (low : List Int) (hi : List (Option Int)) (x y z : Sl), NNs mills.toNat low ∧ hi.length = mills.toNat ∧ (∀ h ∈ hi, Pos h) ∧ (∀ i : Nat, i < mills.toNat → outB (at_ cs (i : Int)) (at_ low (i : Int)) (at_ hi (i : Int)) = false) ∧ ρ = [.v V, .v (.lst (row.map D.int)), .v (.int mills), .v (.lst (ps.map pairD)), .v (.lst (bs.map D.int)), a, .v (.lst (cs.map D.int)), .own (low.map D.int), .own (hi.map optD), x, y, z, .no]) ?_ fun ρ hρ => ?_
  · refine Run.for (fun n ρ => ∃ (low : List Int) (hi : List (Option Int)) (x y z : Sl), NNs n low ∧ hi.length = n ∧ (∀ h ∈ hi, Pos h) ∧ (∀ i : Nat, i < n → outB (at_ cs (i : Int)) (at_ low (i : Int)) (at_ hi (i : Int)) = false) ∧ ρ = [.v V, .v (.lst (row.map D.int)), .v (.int mills), .v (.lst (ps.map pairD)), .v (.lst (bs.map D.int)), a, .v (.lst (cs.map D.int)), .own (low.map D.int), .own (hi.map optD), x, y, z, .no]) (EvL.range1 (by get_elem_tactic_extensible) (by omega)) ⟨[], [], .no, .no, .no, ⟨rfl, fun c hc => by simp at hc⟩, rfl, fun c hc => by simp at hc, fun i hi => by omega, rfl⟩ (fun j d ρ hd hI => ?_) fun ρ hI => ?_
    · obtain ⟨low, hi, x, y, z, nl, hh, hp, hfit, rfl⟩ := hI
      obtain ⟨rfl, hj⟩ := range0_get hd
      have hj5 : j < 5 := by omega
      have ls : tbSlack.length = 8 := rfl
      have lt : tbTop.length = 8 := rfl
      have lt2 : tbTop2.length = 4 := rfl
      obtain ⟨sl, hsl, hsl0⟩ := tbl_get (tb := tbSlack) (fun z => decide (0 ≤ z)) (by decide) (i := at_ row (1 + 2 * (j : Int)) % 8) (by omega)
      obtain ⟨tp, htp, ptp⟩ := tblO_get (tb := tbTop) (by decide) (i := at_ row (2 + 2 * (j : Int)) % 8) (by omega)
      obtain ⟨t2, ht2, pt2⟩ := tblO_get (tb := tbTop2) (by decide) (i := at_ row (2 + 2 * (j : Int)) % 4) (by omega)
      refine ⟨_, rfl, Run.sset (Ev.ixL (ds := tbSlack) (i := at_ row (1 + 2 * (j : Int)) % 8) (by get_elem_tactic_extensible) (by get_elem_tactic_extensible) (by omega) hsl) (Run.sset (Ev.ixL (ds := tbTop) (i := at_ row (2 + 2 * (j : Int)) % 8) (by get_elem_tactic_extensible) (by get_elem_tactic_extensible) (by omega) htp) ?_)⟩
      have cj := nn.at (k := (j : Int)) (by omega) (by omega)
      have hcs : cs.length = mills.toNat := nn.1
      refine Run.cut (fun ρ => ∃ s : Int, 0 ≤ s ∧ ρ = [.v V, .v (.lst (row.map D.int)), .v (.int mills), .v (.lst (ps.map pairD)), .v (.lst (bs.map D.int)), a, .v (.lst (cs.map D.int)), .own (low.map D.int), .own (hi.map optD), .v (.int j), .v (.int s), .v (optD tp), .no]) (Run.ifP (by get_elem_tactic_extensible) (fun h => Run.set (by get_elem_tactic_extensible) ⟨_, rfl, 0, by decide, rfl⟩) fun h => Run.next ⟨_, rfl, sl, of_decide_eq_true hsl0, rfl⟩) fun ρ hρ => ?_
      obtain ⟨s, s0, rfl⟩ := hρ
      refine Run.cut (fun ρ => ∃ t : Option Int, Pos t ∧ ρ = [.v V, .v (.lst (row.map D.int)), .v (.int mills), .v (.lst (ps.map pairD)), .v (.lst (bs.map D.int)), a, .v (.lst (cs.map D.int)), .own (low.map D.int), .own (hi.map optD), .v (.int j), .v (.int s), .v (optD t), .no]) (Run.ifP (by get_elem_tactic_extensible) (fun h => Run.set (d := .int 1) (by get_elem_tactic_extensible) ⟨_, rfl, some 1, fun x e => by cases e; decide, rfl⟩) fun h => Run.next ⟨_, rfl, tp, ptp, rfl⟩) fun ρ hρ => ?_
      obtain ⟨t, pt, rfl⟩ := hρ
      refine Run.cut (fun ρ => ∃ t : Option Int, Pos t ∧ ρ = [.v V, .v (.lst (row.map D.int)), .v (.int mills), .v (.lst (ps.map pairD)), .v (.lst (bs.map D.int)), a, .v (.lst (cs.map D.int)), .own (low.map D.int), .own (hi.map optD), .v (.int j), .v (.int s), .v (optD t), .no]) (Run.ifP (by get_elem_tactic_extensible) (fun h => Run.set (d := .non) (by get_elem_tactic_extensible) ⟨_, rfl, none, fun x e => (by cases e), rfl⟩) fun h => Run.next ⟨_, rfl, t, pt, rfl⟩) fun ρ hρ => ?_
      obtain ⟨t, pt, rfl⟩ := hρ
      refine Run.sapp (xs := low.map D.int) (d := .int (max 0 (at_ cs (j : Int) - s))) rfl (by get_elem_tactic_extensible) (by rw [List.length_map, nl.1]; omega) ?_
      have em : low.map D.int ++ [D.int (max 0 (at_ cs (j : Int) - s))] = (low ++ [max 0 (at_ cs (j : Int) - s)]).map D.int := by rw [List.map_append]; rfl
      rw [em]
      have hc0 : 0 ≤ max 0 (at_ cs (j : Int) - s) ∧ max 0 (at_ cs (j : Int) - s) ≤ at_ cs (j : Int) := by omega
      generalize max 0 (at_ cs (j : Int) - s) = c1 at hc0 ⊢
      have nl1 : ∀ c : Int, 0 ≤ c → NNs (j + 1) (low ++ [c]) := fun c hc1 => ⟨by simp [nl.1], fun x hc => by
        rcases List.mem_append.mp hc with hc | hc
        · exact nl.2 x hc
        · rw [List.mem_singleton.mp hc]; exact hc1⟩
      show Run (gSeq _ _) [.v V, .v (.lst (row.map D.int)), .v (.int mills), .v (.lst (ps.map pairD)), .v (.lst (bs.map D.int)), a, .v (.lst (cs.map D.int)), .own ((low ++ [c1]).map D.int), .own (hi.map optD), .v (.int j), .v (.int s), .v (optD t), .no] _
      refine Run.cut (fun ρ => ∃ (c : Int) (t : Option Int), 0 ≤ c ∧ c ≤ at_ cs (j : Int) ∧ Pos t ∧ ρ = [.v V, .v (.lst (row.map D.int)), .v (.int mills), .v (.lst (ps.map pairD)), .v (.lst (bs.map D.int)), a, .v (.lst (cs.map D.int)), .own ((low ++ [c]).map D.int), .own (hi.map optD), .v (.int j), .v (.int s), .v (optD t), .no]) ?_ fun ρ hρ => ?_
      · refine Run.ifP (by get_elem_tactic_extensible) (fun h => ?_) fun h => Run.next ⟨_, rfl, c1, t, hc0.1, hc0.2, pt, rfl⟩
        refine Run.ssetIx (xs := (low ++ [c1]).map D.int) (k := (j : Int)) (d := .int 0) rfl (by get_elem_tactic_extensible) (by get_elem_tactic_extensible) (by omega) (by rw [List.length_map, (nl1 c1 hc0.1).1]; omega) ?_
        rw [map_set]
        have es : (low ++ [c1]).set (Int.toNat (j : Int)) 0 = low ++ [0] := by
          rw [show Int.toNat (j : Int) = low.length by rw [nl.1]; omega, List.set_append_right _ _ (Nat.le_refl _), Nat.sub_self]
          rfl
        rw [es]
        exact Run.set (Ev.ixL (ds := tbTop2) (i := at_ row (2 + 2 * (j : Int)) % 4) (by get_elem_tactic_extensible) (by get_elem_tactic_extensible) (by omega) ht2) ⟨_, rfl, 0, t2, by decide, cj, pt2, rfl⟩
      obtain ⟨c2, t, c20, c21, pt, rfl⟩ := hρ
      have nl2 := nl1 c2 c20
      refine Run.cut (fun ρ => ∃ t : Option Int, Pos t ∧ overD t (at_ cs (j : Int)) = false ∧ ρ = [.v V, .v (.lst (row.map D.int)), .v (.int mills), .v (.lst (ps.map pairD)), .v (.lst (bs.map D.int)), a, .v (.lst (cs.map D.int)), .own ((low ++ [c2]).map D.int), .own (hi.map optD), .v (.int j), .v (.int s), .v (optD t), .no]) ?_ fun ρ hρ => ?_
      · cases t with
        | none => exact Run.ifP (P := False) (iP := instDecidableFalse) (by exact Ev.v2 (Ev.var rfl) .c rfl) (fun h => h.elim) fun h => Run.next ⟨_, rfl, none, pt, rfl, rfl⟩
        | some v =>
          have hv := pt v rfl
          exact Run.ifP (P := True) (iP := instDecidableTrue) (by exact Ev.v2 (Ev.var rfl) .c rfl) (fun h => Run.set (d := .int (at_ cs (j : Int) + v)) (Ev.add (Ev.ixM (A := D.int) (by get_elem_tactic_extensible) (by get_elem_tactic_extensible) (by omega) (by rw [hcs]; omega)) (Ev.var rfl)) ⟨_, rfl, some (at_ cs (j : Int) + v), fun x e => by cases e; omega, decide_eq_false (by omega), rfl⟩) fun h => (h trivial).elim
      obtain ⟨t, pt, po, rfl⟩ := hρ
      refine Run.app (xs := hi.map optD) (d := optD t) rfl (Ev.var rfl) (by rw [List.length_map, hh]; omega) ⟨low ++ [c2], hi ++ [t], _, _, _, nl2, by simp [hh], fun h hm => ?_, fun i hi' => ?_, by rw [← map_snoc optD]; rfl⟩
      · rcases List.mem_append.mp hm with hm | hm
        · exact hp h hm
        · rw [List.mem_singleton.mp hm]; exact pt
      · by_cases e : i = j
        · subst e
          rw [at_last (xs := low) (by rw [nl.1]), at_lastA (xs := hi) (by rw [hh])]
          unfold outB
          rw [po, decide_eq_false (by omega)]
          rfl
        · rw [at_append (xs := low) (by omega) (by rw [nl.1]; omega), at_appendA (xs := hi) (by omega) (by rw [hh]; omega)]
          exact hfit i (by omega)
    · obtain ⟨low, hi, x, y, z, nl, hh, hp, hfit, rfl⟩ := hI
      rw [rangeD_length] at nl hh hfit
      exact ⟨_, rfl, low, hi, x, y, z, nl, hh, hp, hfit, rfl⟩
  · obtain ⟨low, hi, x, y, z, nl, hh, hp, hfit, rfl⟩ := hρ
    refine Run.sown (ds := []) (by get_elem_tactic_extensible) (show (12 : Nat) < 13 by decide) ?_
    show Run (gSeq _ _) [.v V, .v (.lst (row.map D.int)), .v (.int mills), .v (.lst (ps.map pairD)), .v (.lst (bs.map D.int)), a, .v (.lst (cs.map D.int)), .own (low.map D.int), .own (hi.map optD), x, y, z, .own []] _
    refine Run.cut (fun ρ => ∃ (ls : List (List Int)) (a : Sl), ls.length = ps.length ∧ (∀ l ∈ ls, l ∈ lets4) ∧ (∀ i : Nat, i < ls.length → at_ bs (i : Int) ∈ at_ ls (i : Int)) ∧ ρ = [.v V, .v (.lst (row.map D.int)), .v (.int mills), .v (.lst (ps.map pairD)), .v (.lst (bs.map D.int)), a, .v (.lst (cs.map D.int)), .own (low.map D.int), .own (hi.map optD), x, y, z, .own (ls.map letD)]) ?_ fun ρ hρ => ?_
    · refine Run.for (fun n ρ => ∃ (ls : List (List Int)) (a : Sl), ls.length = n ∧ (∀ l ∈ ls, l ∈ lets4) ∧ (∀ i : Nat, i < ls.length → at_ bs (i : Int) ∈ at_ ls (i : Int)) ∧ ρ = [.v V, .v (.lst (row.map D.int)), .v (.int mills), .v (.lst (ps.map pairD)), .v (.lst (bs.map D.int)), a, .v (.lst (cs.map D.int)), .own (low.map D.int), .own (hi.map optD), x, y, z, .own (ls.map letD)]) (EvL.range1 (by get_elem_tactic_extensible) (by rw [List.length_map]; omega)) ⟨[], a, rfl, fun l hl => by simp at hl, fun i hi => by simp at hi, rfl⟩ (fun j d ρ hd hI => ?_) fun ρ hI => ?_
      · obtain ⟨ls, a, h1, h2, h3, rfl⟩ := hI
        obtain ⟨rfl, hj⟩ := range0_get hd
        have hj : j < ps.length := by rw [List.length_map] at hj; omega
        have hbl : bs.length = ps.length := hb.1
        have hbit := hb.at (k := (j : Int)) (by omega) (by omega)
        have e0 : (if at_ row (11 + (j : Int)) = 5 then D.tup [.int (at_ bs (j : Int))] else D.tup [.int 0, .int 1]) = letD (if at_ row (11 + (j : Int)) = 5 then [at_ bs (j : Int)] else [0, 1]) := by split <;> rfl
        refine ⟨_, rfl, Run.rel (Run.app (xs := ls.map letD) (d := letD (if at_ row (11 + (j : Int)) = 5 then [at_ bs (j : Int)] else [0, 1])) rfl ?_ (by rw [List.length_map]; omega) ⟨ls ++ [if at_ row (11 + (j : Int)) = 5 then [at_ bs (j : Int)] else [0, 1]], _, by simp [h1], fun l hl => ?_, fun i hi => ?_, by rw [List.map_append]; rfl⟩)⟩
        · rw [← e0]
          exact Ev.ix2 (d0 := .tup [.int 0, .int 1]) (d1 := .tup [.int (at_ bs (j : Int))]) (Ev.vL (EvL.lenOk (EvL.cons (Ev.tup (by get_elem_tactic_extensible) (by simp)) (EvL.cons (Ev.tup (EvL.cons (Ev.ixM (A := D.int) (by get_elem_tactic_extensible) (by get_elem_tactic_extensible) (by omega) (by omega)) .nil) (by simp)) .nil)) (by simp))) (Ev.intB (Ev.eqI (i := at_ row (11 + (j : Int))) (Ev.ixM (A := D.int) (by get_elem_tactic_extensible) (by get_elem_tactic_extensible) (by omega) (by omega)) (by get_elem_tactic_extensible)))
        · rcases List.mem_append.mp hl with hl | hl
          · exact h2 l hl
          · rw [List.mem_singleton.mp hl]
            split
            · rcases hbit with e | e <;> rw [e] <;> decide
            · decide
        · rw [List.length_append, List.length_singleton] at hi
          by_cases e : i = j
          · subst e
            rw [at_lastA (xs := ls) (by rw [h1])]
            split
            · exact List.mem_singleton.mpr rfl
            · rcases hbit with e | e <;> rw [e] <;> decide
          · rw [at_appendA (xs := ls) (by omega) (by omega)]
            exact h3 i (by omega)
      · obtain ⟨ls, a, h1, h2, h3, rfl⟩ := hI
        rw [rangeD_length, List.length_map] at h1
        exact ⟨_, rfl, ls, a, by omega, h2, h3, rfl⟩
    · obtain ⟨ls, a, h1, h2, h3, rfl⟩ := hρ
      refine Run.rel (Run.rel (Run.rel (Run.ret (d := wD mills ps low hi ls []) (by unfold wD; get_elem_tactic_extensible) ⟨low, hi, ls, rfl, ⟨m1, by omega, by omega, ok, nl, hh, hp, h1, h2⟩, bs, hb, pickL_nil.mpr fun k hk => by
        simp only [decide_eq_false_iff_not, Decidable.not_not]
        exact h3 k (by omega), pickL_nil.mpr fun k hk => by
        rw [← ecs, hfit k hk]
        rfl⟩)))
end LW
end

section
set_option maxHeartbeats 4000000
namespace LW
open PySem L2 EV
local macro_rules | `(tactic| get_elem_tactic_extensible) => `(tactic| first
  | ((with_reducible apply Ev.var); exact rfl)
  | with_reducible exact Ev.c
  | assumption
  | ((with_reducible apply Ev.add) <;> get_elem_tactic_extensible)
  | ((with_reducible apply Ev.sub) <;> get_elem_tactic_extensible)
  | ((with_reducible apply Ev.mulR) <;> get_elem_tactic_extensible)
  | ((with_reducible apply Ev.mulL) <;> get_elem_tactic_extensible)
  | ((with_reducible apply Ev.mod) <;> get_elem_tactic_extensible)
  | ((with_reducible apply Ev.fdiv) <;> get_elem_tactic_extensible)
  | ((with_reducible apply Ev.pow) <;> get_elem_tactic_extensible)
  | ((with_reducible apply Ev.neg) <;> get_elem_tactic_extensible)
  | ((with_reducible apply Ev.lt) <;> get_elem_tactic_extensible)
  | ((with_reducible apply Ev.le) <;> get_elem_tactic_extensible)
  | ((with_reducible apply Ev.gt) <;> get_elem_tactic_extensible)
  | ((with_reducible apply Ev.ge) <;> get_elem_tactic_extensible)
  | ((with_reducible apply Ev.eqI) <;> get_elem_tactic_extensible)
  | ((with_reducible apply Ev.neI) <;> get_elem_tactic_extensible)
  | ((with_reducible apply Ev.isN) <;> get_elem_tactic_extensible)
  | ((with_reducible apply Ev.notN) <;> get_elem_tactic_extensible)
  | ((with_reducible apply Ev.notP) <;> get_elem_tactic_extensible)
  | ((with_reducible apply Ev.andP) <;> get_elem_tactic_extensible)
  | ((with_reducible apply Ev.orP) <;> get_elem_tactic_extensible)
  | ((with_reducible apply Ev.int_) <;> get_elem_tactic_extensible)
  | ((with_reducible apply Ev.intB) <;> get_elem_tactic_extensible)
  | ((with_reducible apply Ev.lenL) <;> get_elem_tactic_extensible)
  | ((with_reducible apply Ev.lenT) <;> get_elem_tactic_extensible)
  | ((with_reducible apply Ev.lenS) <;> get_elem_tactic_extensible)
  | ((with_reducible apply Ev.min_) <;> get_elem_tactic_extensible)
  | ((with_reducible apply Ev.max_) <;> get_elem_tactic_extensible)
  | ((with_reducible apply Ev.abs_) <;> get_elem_tactic_extensible)
  | ((with_reducible apply Ev.tupleL) <;> get_elem_tactic_extensible)
  | ((with_reducible apply Ev.tupleT) <;> get_elem_tactic_extensible)
  | ((with_reducible apply EvL.listL) <;> get_elem_tactic_extensible)
  | ((with_reducible apply EvL.listT) <;> get_elem_tactic_extensible)
  | ((with_reducible apply Ev.ixL) <;> get_elem_tactic_extensible)
  | ((with_reducible apply Ev.ixT) <;> get_elem_tactic_extensible)
  | ((with_reducible apply Ev.ixM) <;> get_elem_tactic_extensible)
  | ((with_reducible apply Ev.ixMT) <;> get_elem_tactic_extensible)
  | ((with_reducible apply Ev.tup) <;> get_elem_tactic_extensible)
  | ((with_reducible apply Ev.vL) <;> get_elem_tactic_extensible)
  | with_reducible exact EvL.nil
  | ((with_reducible apply EvL.cons) <;> get_elem_tactic_extensible)
  | ((with_reducible apply EvL.lenOk) <;> get_elem_tactic_extensible)
  | ((with_reducible apply EvL.range1) <;> get_elem_tactic_extensible)
  | ((with_reducible apply EvL.seqL) <;> get_elem_tactic_extensible)
  | ((with_reducible apply EvL.seqT) <;> get_elem_tactic_extensible)
  | ((with_reducible apply EvL.seqS) <;> get_elem_tactic_extensible)
  | (intro; get_elem_tactic_extensible)
  | exact (show GetElem?.getElem? (List.cons _ _) _ = some _ from rfl)
  | omega
  | (simp only [List.length_map, List.length_append, List.length_replicate, List.length_cons, List.length_nil, List.length_range] <;> omega))
def growS (ls : List (List Int)) : List (List Int) := ls.flatMap fun l => [l ++ [0], l ++ [1]]
def allS : Nat → List (List Int)
  | 0 => [[]]
  | n + 1 => growS (allS n)
theorem growS_snoc (ls : List (List Int)) (l : List Int) : growS (ls ++ [l]) = growS ls ++ [l ++ [0]] ++ [l ++ [1]] := by
  unfold growS
  rw [List.flatMap_append, List.append_assoc]
  rfl
theorem growS_len (ls : List (List Int)) : (growS ls).length = ls.length * 2 := by
  induction ls with
  | nil => rfl
  | cons l r ih =>
    show ([l ++ [0], l ++ [1]] ++ growS r).length = _
    rw [List.length_append, ih, List.length_cons]
    simp
    omega
theorem allS_len : ∀ n, (allS n).length = 2 ^ n
  | 0 => rfl
  | n + 1 => by rw [allS, growS_len, allS_len n, Nat.pow_succ]
theorem allS_bits : ∀ n, ∀ l ∈ allS n, Bits n l
  | 0, l, h => by
    have e : l = [] := by simpa [allS] using h
    subst e
    exact ⟨rfl, fun x hx => by simp at hx⟩
  | n + 1, l, h => by
    unfold allS growS at h
    obtain ⟨k, hk, hl⟩ := List.mem_flatMap.mp h
    have hb := allS_bits n k hk
    rcases List.mem_cons.mp hl with e | hl
    · rw [e]; exact hb.snoc (.inl rfl)
    · rw [List.mem_singleton.mp hl]; exact hb.snoc (.inr rfl)
theorem allS_all : ∀ n (l : List Int), Bits n l → l ∈ allS n
  | 0, l, h => by
    have e : l = [] := List.eq_nil_of_length_eq_zero h.1
    rw [e]
    exact List.mem_singleton.mpr rfl
  | n + 1, l, h => by
    have hl : l ≠ [] := fun z => by have := h.1; rw [z] at this; simp at this
    have e := List.dropLast_concat_getLast hl
    have hd : Bits n l.dropLast := ⟨by rw [List.length_dropLast, h.1]; omega, fun x hx => h.2 x (List.dropLast_subset l hx)⟩
    have hx := h.2 _ (List.getLast_mem hl)
    unfold allS growS
    refine List.mem_flatMap.mpr ⟨l.dropLast, allS_all n _ hd, ?_⟩
    rcases hx with q | q
    · rw [q] at e
      rw [← e]
      simp
    · rw [q] at e
      rw [← e]
      simp
theorem law_settings_eq (n : Nat) (hn : n ≤ 7) : sem_law_settings [.int (n : Nat)] = some (.ok (.lst ((allS n).map letD))) := by
  refine sem_fin (n := 5) (ds := [.int (n : Nat)]) ?_
  refine Run.sset (d := .lst ([[]].map letD)) rfl ?_
  refine Run.seq (Run.for (fun k ρ => ∃ a b c, ρ = [.v (.int (n : Nat)), .v (.lst ((allS k).map letD)), a, b, c]) (range_n (n := n) (Ev.var rfl) (by omega)) ⟨.no, .no, .no, rfl⟩ (fun k d ρ hd hI => ?_) fun ρ hI => ?_)
  · obtain ⟨a, b, c, rfl⟩ := hI
    obtain ⟨rfl, hk⟩ := range0_get hd
    have hp : 2 ^ k ≤ 64 := Nat.le_trans (Nat.pow_le_pow_right (n := 2) (by omega) (show k ≤ 6 by omega)) (by decide)
    have hln := allS_len k
    have hbk := allS_bits k
    show ∃ ρ1, _ ∧ Run _ ρ1 (Turn' (fun ρ => ∃ a b c, ρ = [.v (.int (n : Nat)), .v (.lst ((growS (allS k)).map letD)), a, b, c]) _)
    generalize allS k = ls at hln hbk ⊢
    refine ⟨_, rfl, Run.sown (ds := []) rfl (show (3 : Nat) < 5 by decide) ?_⟩
    show Run (gSeq _ _) [.v (.int (n : Nat)), .v (.lst (ls.map letD)), .v (.int k), .own [], c] _
    refine Run.cut (fun ρ => ∃ (c : Sl), ρ = [.v (.int (n : Nat)), .v (.lst (ls.map letD)), .v (.int k), .own ((growS ls).map letD), c]) ?_ fun ρ hρ => ?_
    · refine Run.for (fun i ρ => ∃ (c : Sl), ρ = [.v (.int (n : Nat)), .v (.lst (ls.map letD)), .v (.int k), .own ((growS (ls.take i)).map letD), c]) (EvL.seqL (Ev.var rfl)) ⟨_, rfl⟩ (fun i d ρ hd hI => ?_) fun ρ hI => ?_
      · obtain ⟨c, rfl⟩ := hI
        rw [List.getElem?_map] at hd
        obtain ⟨l, hl, rfl⟩ := Option.map_eq_some_iff.mp hd
        have hi := (List.getElem?_eq_some_iff.mp hl).1
        have hb := hbk l (List.mem_of_getElem? hl)
        have hbl := hb.1
        have hgl : (growS (ls.take i)).length = i * 2 := by rw [growS_len, List.length_take]; omega
        have et : ls.take (i + 1) = ls.take i ++ [l] := by rw [List.take_succ, hl]; rfl
        rw [et, growS_snoc]
        generalize growS (ls.take i) = R at hgl ⊢
        refine ⟨_, rfl, Run.sapp (xs := R.map letD) (d := letD (l ++ [0])) rfl (letD_snoc (Ev.var rfl) rfl (by omega)) (by rw [List.length_map]; omega) ?_⟩
        rw [map_snoc]
        exact Run.app (xs := (R ++ [l ++ [0]]).map letD) (d := letD (l ++ [1])) rfl (letD_snoc (Ev.var rfl) rfl (by omega)) (by simp; omega) ⟨_, by rw [map_snoc]; rfl⟩
      · obtain ⟨c, rfl⟩ := hI
        rw [List.length_map, List.take_length]
        exact ⟨_, rfl, c, rfl⟩
    · obtain ⟨c, rfl⟩ := hρ
      refine Run.thenRel (Run.ownA (EvL.listL (Ev.var rfl)) (pures_map (fun x => by exact pures_map (fun y => rfl) x) _) (show (1 : Nat) < 5 by decide) ?_)
      exact ⟨_, _, _, rfl⟩
  · obtain ⟨a, b, c, rfl⟩ := hI
    rw [rangeD_length]
    exact Run.ret (Ev.var rfl) rfl
end LW
end

section
set_option maxHeartbeats 4000000
namespace LW
open PySem L2 EV
local macro_rules | `(tactic| get_elem_tactic_extensible) => `(tactic| first
  | ((with_reducible apply Ev.var); exact rfl)
  | with_reducible exact Ev.c
  | assumption
  | ((with_reducible apply Ev.add) <;> get_elem_tactic_extensible)
  | ((with_reducible apply Ev.sub) <;> get_elem_tactic_extensible)
  | ((with_reducible apply Ev.mulR) <;> get_elem_tactic_extensible)
  | ((with_reducible apply Ev.mulL) <;> get_elem_tactic_extensible)
  | ((with_reducible apply Ev.mod) <;> get_elem_tactic_extensible)
  | ((with_reducible apply Ev.fdiv) <;> get_elem_tactic_extensible)
  | ((with_reducible apply Ev.pow) <;> get_elem_tactic_extensible)
  | ((with_reducible apply Ev.neg) <;> get_elem_tactic_extensible)
  | ((with_reducible apply Ev.lt) <;> get_elem_tactic_extensible)
  | ((with_reducible apply Ev.le) <;> get_elem_tactic_extensible)
  | ((with_reducible apply Ev.gt) <;> get_elem_tactic_extensible)
  | ((with_reducible apply Ev.ge) <;> get_elem_tactic_extensible)
  | ((with_reducible apply Ev.eqI) <;> get_elem_tactic_extensible)
  | ((with_reducible apply Ev.neI) <;> get_elem_tactic_extensible)
  | ((with_reducible apply Ev.isN) <;> get_elem_tactic_extensible)
  | ((with_reducible apply Ev.notN) <;> get_elem_tactic_extensible)
  | ((with_reducible apply Ev.notP) <;> get_elem_tactic_extensible)
  | ((with_reducible apply Ev.andP) <;> get_elem_tactic_extensible)
  | ((with_reducible apply Ev.orP) <;> get_elem_tactic_extensible)
  | ((with_reducible apply Ev.int_) <;> get_elem_tactic_extensible)
  | ((with_reducible apply Ev.intB) <;> get_elem_tactic_extensible)
  | ((with_reducible apply Ev.lenL) <;> get_elem_tactic_extensible)
  | ((with_reducible apply Ev.lenT) <;> get_elem_tactic_extensible)
  | ((with_reducible apply Ev.lenS) <;> get_elem_tactic_extensible)
  | ((with_reducible apply Ev.min_) <;> get_elem_tactic_extensible)
  | ((with_reducible apply Ev.max_) <;> get_elem_tactic_extensible)
  | ((with_reducible apply Ev.abs_) <;> get_elem_tactic_extensible)
  | ((with_reducible apply Ev.tupleL) <;> get_elem_tactic_extensible)
  | ((with_reducible apply Ev.tupleT) <;> get_elem_tactic_extensible)
  | ((with_reducible apply EvL.listL) <;> get_elem_tactic_extensible)
  | ((with_reducible apply EvL.listT) <;> get_elem_tactic_extensible)
  | ((with_reducible apply Ev.ixL) <;> get_elem_tactic_extensible)
  | ((with_reducible apply Ev.ixT) <;> get_elem_tactic_extensible)
  | ((with_reducible apply Ev.ixM) <;> get_elem_tactic_extensible)
  | ((with_reducible apply Ev.ixMT) <;> get_elem_tactic_extensible)
  | ((with_reducible apply Ev.tup) <;> get_elem_tactic_extensible)
  | ((with_reducible apply Ev.vL) <;> get_elem_tactic_extensible)
  | with_reducible exact EvL.nil
  | ((with_reducible apply EvL.cons) <;> get_elem_tactic_extensible)
  | ((with_reducible apply EvL.lenOk) <;> get_elem_tactic_extensible)
  | ((with_reducible apply EvL.range1) <;> get_elem_tactic_extensible)
  | ((with_reducible apply EvL.seqL) <;> get_elem_tactic_extensible)
  | ((with_reducible apply EvL.seqT) <;> get_elem_tactic_extensible)
  | ((with_reducible apply EvL.seqS) <;> get_elem_tactic_extensible)
  | (intro; get_elem_tactic_extensible)
  | exact (show GetElem?.getElem? (List.cons _ _) _ = some _ from rfl)
  | omega
  | (simp only [List.length_map, List.length_append, List.length_replicate, List.length_cons, List.length_nil, List.length_range] <;> omega))
section
variable {mills : Int} {ps : List (Int × Int)} {low : List Int} {high : List (Option Int)} {lets : List (List Int)}
/-- a world in which some setting runs, small -/
structure WR (mills : Int) (ps : List (Int × Int)) (low : List Int) (high : List (Option Int)) (lets : List (List Int)) : Prop where
  w : WOk mills ps low high lets
  p7 : ps.length ≤ 7
  r : ∃ bs, Bits ps.length bs ∧ RunP mills ps low high lets bs
theorem law_drawn_run (ns : List Int) (at0 upto : Int) (h0 : 0 ≤ at0) (hu : 0 ≤ upto) : ∃ mills ps low high lets, sem_law_drawn [.scr ns, .int at0, .int upto] = some (.ok (wD mills ps low high lets [])) ∧ WR mills ps low high lets := by
  suffices H : Run g_law_drawn [.v (.scr ns), .v (.int at0), .v (.int upto), .no] (Ret fun d => ∃ mills ps low high lets, d = wD mills ps low high lets [] ∧ WR mills ps low high lets) by
    obtain ⟨d, h, mills, ps, low, high, lets, rfl, q⟩ := sem_ret (n := 4) (ds := [.scr ns, .int at0, .int upto]) H
    exact ⟨mills, ps, low, high, lets, h, q⟩
  obtain ⟨row, er, ro⟩ := dig_cell (fs := vVar 0) (fk := vVar 1) (fz := vL (nAdd (vL (lenOk (aCons (vC (.int 24)) (aCons (vC (.int 24)) (aCons (vC (.int 6)) (aNil)))))) (vL (nRep (vL (lenOk (aCons (vC (.int 12)) (aCons (vC (.int 12)) (aNil))))) (vC (.int 7)))))) (ρ := [.v (.scr ns), .v (.int at0), .v (.int upto), .no]) sz1 (Ev.var rfl) (Ev.var rfl) h0 rfl (by decide)
  have l1 : sz1.length = 17 := rfl
  have b0 := ro.2 0 (by omega) (by rw [ro.1]; omega)
  have b1 := ro.2 1 (by omega) (by rw [ro.1]; omega)
  obtain ⟨mills, ps, hv, m1, m5, p7, ok⟩ := law_valley_ok row upto hu (by rw [ro.1]; rfl) b0 b1
  refine Run.sset (Ev.callP (ds := [.lst (row.map D.int), .int upto]) (EvL.cons er (EvL.cons (Ev.var rfl) .nil)) .nil ⟨rfl, rfl⟩ hv) ?_
  show Run _ [.v (.scr ns), .v (.int at0), .v (.int upto), .v (.lst [.int mills, .lst (ps.map pairD), .int (at_ row 2)])] _
  obtain ⟨row2, er2, ro2⟩ := dig_cell (fs := vVar 0) (fk := v2 addD (vVar 1) (vC (.int 1))) (fz := vL (nAdd (vL (nAdd (vL (nAdd (vL (lenOk (aCons (vC (.int 8)) (aNil)))) (vL (nRep (vL (lenOk (aCons (vC (.int 8)) (aCons (vC (.int 8)) (aNil))))) (vC (.int 5)))))) (vL (nRep (vL (lenOk (aCons (vC (.int 24)) (aNil)))) (vC (.int 7)))))) (vL (nRep (vL (lenOk (aCons (vC (.int 2)) (aNil)))) (vC (.int 7))))))
    (ρ := [.v (.scr ns), .v (.int at0), .v (.int upto), .v (.lst [.int mills, .lst (ps.map pairD), .int (at_ row 2)])]) sz2 (Ev.var rfl) (Ev.add (Ev.var rfl) Ev.c) (by omega) rfl (by decide)
  obtain ⟨low, high, lets, hw, wk, wr⟩ := law_world_run mills ps (at_ row 2) row2 m1 m5 p7 ok (by rw [ro2.1]; rfl)
  exact Run.ret (Ev.callP (ds := [.lst [.int mills, .lst (ps.map pairD), .int (at_ row 2)], .lst (row2.map D.int)]) (EvL.cons (Ev.var rfl) (EvL.cons er2 .nil)) .nil ⟨rfl, rfl⟩ hw) ⟨mills, ps, low, high, lets, rfl, ⟨wk, p7, wr⟩⟩
theorem rowsLet (lets : List (List Int)) : RowsV (.lst (lets.map letD)) lets := ⟨lets.map letD, .inl rfl, by simp, fun k e x h1 h2 => by
  rw [List.getElem?_map, h2] at h1
  cases h1
  exact .inr rfl⟩
theorem rowsPair (ps : List (Int × Int)) : RowsV (.lst (ps.map pairD)) (pr2 ps) := by
  rw [← pr2_map]
  exact rowsLet (pr2 ps)
theorem law_season_ok (rest : List D) (w : WOk mills ps low high lets) : sem_law_season [wD mills ps low high lets rest] = some (.ok (seasonD (landD mills ps) low high lets)) := by
  have eV := Valley_okR w.ok (by have := w.pl; omega) (rowsPair ps)
  have eS := Season_okR w (N := .lst (low.map D.int)) (B := .lst (high.map optD)) (L := .lst (lets.map letD)) (.inl rfl) (.inl rfl) (rowsLet lets)
  refine sem_fin (n := 1) (ds := [wD mills ps low high lets rest]) ?_
  refine Run.ret (d := seasonD (landD mills ps) low high lets) (Ev.callP (ds := [landD mills ps]) (es := [.lst (low.map D.int), .lst (high.map optD), .lst (lets.map letD)]) (EvL.cons (Ev.callP (ds := [.int mills, .lst (ps.map pairD)]) (EvL.cons (wD_ix rfl).1 (EvL.cons (Ev.vL (EvL.listL (wD_ix rfl).2.1)) .nil)) .nil ⟨rfl, rfl⟩ eV) .nil)
    (EvL.cons (Ev.vL (EvL.listL (wD_ix rfl).2.2.1)) (EvL.cons (Ev.vL (EvL.listL (wD_ix rfl).2.2.2.1)) (EvL.cons (Ev.vL (EvL.listL (wD_ix rfl).2.2.2.2)) .nil))) ⟨rfl, rfl⟩ eS) rfl
theorem law_sibling_ok (rest : List D) {low0 : List Int} {high0 : List (Option Int)} {lets0 : List (List Int)} (w : WOk mills ps low high lets) : sem_law_sibling [seasonD (landD mills ps) low0 high0 lets0, wD mills ps low high lets rest] = some (.ok (seasonD (landD mills ps) low high lets)) := by
  have eS := Season_okR w (N := .lst (low.map D.int)) (B := .lst (high.map optD)) (L := .lst (lets.map letD)) (.inl rfl) (.inl rfl) (rowsLet lets)
  refine sem_fin (n := 2) (ds := [seasonD (landD mills ps) low0 high0 lets0, wD mills ps low high lets rest]) ?_
  refine Run.ret (d := seasonD (landD mills ps) low high lets) (Ev.callP (ds := [landD mills ps]) (es := [.lst (low.map D.int), .lst (high.map optD), .lst (lets.map letD)]) (EvL.cons (Ev.v1 (Ev.var rfl) rfl) .nil)
    (EvL.cons (Ev.vL (EvL.listL (wD_ix rfl).2.2.1)) (EvL.cons (Ev.vL (EvL.listL (wD_ix rfl).2.2.2.1)) (EvL.cons (Ev.vL (EvL.listL (wD_ix rfl).2.2.2.2)) .nil))) ⟨rfl, rfl⟩ eS) rfl
/-- the settings that run, in order -/
def readyL (mills : Int) (ps : List (Int × Int)) (low : List Int) (high : List (Option Int)) (lets : List (List Int)) : List (List Int) := (allS ps.length).filter fun bs => decide (RunP mills ps low high lets bs)
theorem readyL_bits : ∀ l ∈ readyL mills ps low high lets, Bits ps.length l := fun l hl => allS_bits _ l (List.mem_filter.mp hl).1
theorem readyL_len (p7 : ps.length ≤ 7) : (readyL mills ps low high lets).length ≤ 128 := by
  have h1 : (readyL mills ps low high lets).length ≤ (allS ps.length).length := List.length_filter_le _ _
  rw [allS_len] at h1
  have : 2 ^ ps.length ≤ 2 ^ 7 := Nat.pow_le_pow_right (by decide) p7
  omega
theorem WR.ready (w : WR mills ps low high lets) : 0 < (readyL mills ps low high lets).length := by
  obtain ⟨bs, hb, hr⟩ := w.r
  exact List.length_pos_of_mem (List.mem_filter.mpr ⟨allS_all _ bs hb, decide_eq_true hr⟩)
theorem law_running_ok (w : WOk mills ps low high lets) (p7 : ps.length ≤ 7) (rest : List D) : sem_law_running [wD mills ps low high lets rest] = some (.ok (.lst ((readyL mills ps low high lets).map letD))) := by
  have hs := law_settings_eq ps.length p7
  refine sem_fin (n := 2) (ds := [wD mills ps low high lets rest]) ?_
  have hlen : (allS ps.length).length ≤ 128 := by
    rw [allS_len]
    exact Nat.pow_le_pow_right (n := 2) (j := 7) (by decide) p7
  have q0 := EvL.lc (fi := iSeq (vCallP 1 0 [0] sem_law_settings [] (aCons (vCall lenD (aCons (v2 ixD (vVar 0) (vC (.int 1))) (aNil))) (aNil)) (aNil))) (fg := nmG 1) (ft := vCallP 2 0 [0, 1] sem_law_runs [] (aCons (vVar 0) (aCons (vVar 1) (aNil))) (aNil)) (fe := vVar 1) (vs := [1]) (ρ := [.v (wD mills ps low high lets rest), .no]) (allS ps.length) letD (fun l => if RunP mills ps low high lets l then some (letD l) else none)
    (EvL.seqL (Ev.callP (ds := [.int (ps.length : Nat)]) (EvL.cons (by have z := Ev.lenL (wD_ix (k := 0) (ρ := [.v (wD mills ps low high lets rest), .no]) (mills := mills) (ps := ps) (low := low) (high := high) (lets := lets) (rest := rest) rfl).2.1; rw [List.length_map] at z; exact z) .nil) .nil ⟨rfl, rfl⟩ hs)) (by omega)
    fun l hl => item_if (ρ1 := [.v (wD mills ps low high lets rest), .v (letD l)]) rfl (Ev.callP (EvL.cons (Ev.var rfl) (EvL.cons (Ev.var rfl) .nil)) .nil ⟨rfl, rfl⟩ (law_runs_ok w rest (allS_bits _ l hl) (.inr rfl))) (fun _ => Ev.var rfl)
  refine Run.ret (d := .lst ((readyL mills ps low high lets).map letD)) ?_ rfl
  have e : (allS ps.length).filterMap (fun l => if RunP mills ps low high lets l then some (letD l) else none) = (readyL mills ps low high lets).map letD := filterMap_if letD _ _
  rw [e] at q0
  exact Ev.vL q0
theorem law_lively_ok (w : WR mills ps low high lets) (rest : List D) (z : Int) : ∃ bs, sem_law_lively [wD mills ps low high lets rest, .lst ((readyL mills ps low high lets).map letD), .int z] = some (.ok (letD bs)) ∧ Bits ps.length bs := by
  have hpos := w.ready
  have hlen := readyL_len (mills := mills) (low := low) (high := high) (lets := lets) w.p7
  have hbits := readyL_bits (mills := mills) (ps := ps) (low := low) (high := high) (lets := lets)
  have lr := fun (b : List Int) (h : Bits ps.length b) => law_runs_ok w.w rest h (V := letD b) (.inr rfl)
  have p7 := w.p7
  generalize readyL mills ps low high lets = rs at hpos hlen hbits ⊢
  generalize wD mills ps low high lets rest = W at lr ⊢
  have at_ok : ∀ i : Int, 0 ≤ i → i < rs.length → Bits ps.length (at_ rs i) := fun i h0 h1 => hbits _ (at_mem h0 h1)
  have hmod : ∀ i : Int, 0 ≤ i % (rs.length : Int) ∧ i % (rs.length : Int) < rs.length := fun i => ⟨Int.emod_nonneg _ (by omega), Int.emod_lt_of_pos _ (by omega)⟩
  suffices H : Run g_law_lively [.v W, .v (.lst (rs.map letD)), .v (.int z), .no, .no, .no] (Ret fun d => ∃ bs, d = letD bs ∧ Bits ps.length bs) by
    obtain ⟨d, h, bs, rfl, q⟩ := sem_ret (n := 6) (ds := [W, .lst (rs.map letD), .int z]) H
    exact ⟨bs, h, q⟩
  have lenE : ∀ ρ : EV.Env, ρ[1]? = some (.v (.lst (rs.map letD))) → Ev (vCall lenD (aCons (vVar 1) (aNil))) ρ (.int (rs.length : Nat)) := fun ρ h => by
    have q := Ev.lenL (Ev.var h)
    rw [List.length_map] at q
    exact q
  refine Run.seq (Run.for (fun n ρ => ∃ a b, ρ = [.v W, .v (.lst (rs.map letD)), .v (.int z), a, b, .no]) (range_n (n := rs.length) (lenE _ rfl) (by omega)) ⟨.no, .no, rfl⟩ (fun k d ρ hd hI => ?_) fun ρ hI => ?_)
  · obtain ⟨a, b, rfl⟩ := hI
    obtain ⟨rfl, hk⟩ := range0_get hd
    have hm := hmod (z + (k : Nat))
    have hb := at_ok _ hm.1 hm.2
    refine ⟨_, rfl, Run.sset (d := letD (at_ rs ((z + (k : Nat)) % (rs.length : Int)))) (Ev.ixM (A := letD) (Ev.var rfl) (Ev.mod (Ev.int_ (Ev.add (Ev.int_ (Ev.var rfl)) (Ev.var rfl))) (lenE _ rfl) (by omega)) hm.1 hm.2) ?_⟩
    generalize at_ rs ((z + (k : Nat)) % (rs.length : Int)) = bs at hb ⊢
    have q0 := pick_lc (n := ps.length) (fi := iRange1 (vCall lenD (aCons (vVar 4) (aNil)))) (ft := vCallP 2 0 [0, 1] sem_law_runs [] (aCons (vVar 0) (aCons (vCallP 2 0 [0, 1] sem_law_turn [] (aCons (vVar 4) (aCons (vVar 5) (aNil))) (aNil)) (aNil))) (aNil)) (v := 5) (ρ := [.v W, .v (.lst (rs.map letD)), .v (.int z), .v (.int (k : Nat)), .v (letD bs), .no]) (fun k => RunP mills ps low high lets (turnL bs (k : Int))) (range_n (by have z := Ev.lenT (fa := vVar 4) (ρ := [.v W, .v (.lst (rs.map letD)), .v (.int z), .v (.int (k : Nat)), .v (letD bs), .no]) (ds := bs.map D.int) (Ev.var rfl); rw [List.length_map, hb.1] at z; exact z) (by omega)) (by omega) (fun j hj => Ev.callP (EvL.cons (Ev.var rfl) (EvL.cons (Ev.callP (EvL.cons (Ev.var rfl) (EvL.cons (Ev.var rfl) .nil)) .nil ⟨rfl, rfl⟩ (law_turn_eq hb (by omega) (by omega) (by omega))) .nil)) .nil ⟨rfl, rfl⟩ (lr _ (turnL_bits hb (k := (j : Int)) (by omega) (by omega)))) (fun d => Ev.var rfl)
    refine Run.ifP (Ev.gt (Ev.lenL (Ev.vL q0)) Ev.c) (fun _ => Run.ret (Ev.var rfl) ⟨bs, rfl, hb⟩) fun _ => Run.next ⟨_, _, rfl⟩
  · obtain ⟨a, b, rfl⟩ := hI
    have hm := hmod z
    exact Run.ret (Ev.ixM (A := letD) (Ev.var rfl) (Ev.mod (Ev.int_ (Ev.var rfl)) (lenE _ rfl) (by omega)) hm.1 hm.2) ⟨_, rfl, at_ok _ hm.1 hm.2⟩
end
end LW
end

section
set_option maxHeartbeats 4000000
namespace LW
open PySem L2 EV
local macro_rules | `(tactic| get_elem_tactic_extensible) => `(tactic| first
  | ((with_reducible apply Ev.var); exact rfl)
  | with_reducible exact Ev.c
  | assumption
  | ((with_reducible apply Ev.add) <;> get_elem_tactic_extensible)
  | ((with_reducible apply Ev.sub) <;> get_elem_tactic_extensible)
  | ((with_reducible apply Ev.mulR) <;> get_elem_tactic_extensible)
  | ((with_reducible apply Ev.mulL) <;> get_elem_tactic_extensible)
  | ((with_reducible apply Ev.mod) <;> get_elem_tactic_extensible)
  | ((with_reducible apply Ev.fdiv) <;> get_elem_tactic_extensible)
  | ((with_reducible apply Ev.pow) <;> get_elem_tactic_extensible)
  | ((with_reducible apply Ev.neg) <;> get_elem_tactic_extensible)
  | ((with_reducible apply Ev.lt) <;> get_elem_tactic_extensible)
  | ((with_reducible apply Ev.le) <;> get_elem_tactic_extensible)
  | ((with_reducible apply Ev.gt) <;> get_elem_tactic_extensible)
  | ((with_reducible apply Ev.ge) <;> get_elem_tactic_extensible)
  | ((with_reducible apply Ev.eqI) <;> get_elem_tactic_extensible)
  | ((with_reducible apply Ev.neI) <;> get_elem_tactic_extensible)
  | ((with_reducible apply Ev.isN) <;> get_elem_tactic_extensible)
  | ((with_reducible apply Ev.notN) <;> get_elem_tactic_extensible)
  | ((with_reducible apply Ev.notP) <;> get_elem_tactic_extensible)
  | ((with_reducible apply Ev.andP) <;> get_elem_tactic_extensible)
  | ((with_reducible apply Ev.orP) <;> get_elem_tactic_extensible)
  | ((with_reducible apply Ev.int_) <;> get_elem_tactic_extensible)
  | ((with_reducible apply Ev.intB) <;> get_elem_tactic_extensible)
  | ((with_reducible apply Ev.lenL) <;> get_elem_tactic_extensible)
  | ((with_reducible apply Ev.lenT) <;> get_elem_tactic_extensible)
  | ((with_reducible apply Ev.lenS) <;> get_elem_tactic_extensible)
  | ((with_reducible apply Ev.min_) <;> get_elem_tactic_extensible)
  | ((with_reducible apply Ev.max_) <;> get_elem_tactic_extensible)
  | ((with_reducible apply Ev.abs_) <;> get_elem_tactic_extensible)
  | ((with_reducible apply Ev.tupleL) <;> get_elem_tactic_extensible)
  | ((with_reducible apply Ev.tupleT) <;> get_elem_tactic_extensible)
  | ((with_reducible apply EvL.listL) <;> get_elem_tactic_extensible)
  | ((with_reducible apply EvL.listT) <;> get_elem_tactic_extensible)
  | ((with_reducible apply Ev.ixL) <;> get_elem_tactic_extensible)
  | ((with_reducible apply Ev.ixT) <;> get_elem_tactic_extensible)
  | ((with_reducible apply Ev.ixM) <;> get_elem_tactic_extensible)
  | ((with_reducible apply Ev.ixMT) <;> get_elem_tactic_extensible)
  | ((with_reducible apply Ev.tup) <;> get_elem_tactic_extensible)
  | ((with_reducible apply Ev.vL) <;> get_elem_tactic_extensible)
  | with_reducible exact EvL.nil
  | ((with_reducible apply EvL.cons) <;> get_elem_tactic_extensible)
  | ((with_reducible apply EvL.lenOk) <;> get_elem_tactic_extensible)
  | ((with_reducible apply EvL.range1) <;> get_elem_tactic_extensible)
  | ((with_reducible apply EvL.seqL) <;> get_elem_tactic_extensible)
  | ((with_reducible apply EvL.seqT) <;> get_elem_tactic_extensible)
  | ((with_reducible apply EvL.seqS) <;> get_elem_tactic_extensible)
  | (intro; get_elem_tactic_extensible)
  | exact (show GetElem?.getElem? (List.cons _ _) _ = some _ from rfl)
  | omega
  | (simp only [List.length_map, List.length_append, List.length_replicate, List.length_cons, List.length_nil, List.length_range] <;> omega))
section
variable {mills : Int} {ps : List (Int × Int)} {low : List Int} {high : List (Option Int)} {lets : List (List Int)}
theorem runP_iff {bs : List Int} : RunP mills ps low high lets bs ↔ (∀ k : Nat, k < ps.length → at_ bs (k : Int) ∈ at_ lets (k : Int)) ∧ ∀ k : Nat, k < mills.toNat → outB (at_ (cntL mills.toNat ps bs ps.length) (k : Int)) (at_ low (k : Int)) (at_ high (k : Int)) = false := by
  unfold RunP strayL outL
  rw [pickL_nil, pickL_nil]
  constructor
  · rintro ⟨h1, h2⟩
    refine ⟨fun k hk => ?_, fun k hk => ?_⟩
    · have := h1 k hk
      simpa only [decide_eq_false_iff_not, Decidable.not_not] using this
    · have := of_decide_eq_false (h2 k hk)
      exact Bool.eq_false_iff.mpr this
  · rintro ⟨h1, h2⟩
    refine ⟨fun k hk => ?_, fun k hk => ?_⟩
    · simpa only [decide_eq_false_iff_not, Decidable.not_not] using h1 k hk
    · rw [h2 k hk]
      rfl
theorem at_map {α β : Type} [Inhabited α] [Inhabited β] (f : α → β) {xs : List α} {k : Int} (h0 : 0 ≤ k) (h : k < xs.length) : at_ (xs.map f) k = f (at_ xs k) := by
  have h1 := at_get (xs := xs) h0 h
  have h2 := at_get (xs := xs.map f) h0 (by rw [List.length_map]; exact h)
  rw [List.getElem?_map, h1] at h2
  exact (Option.some.inj h2).symm
def looseLow (low : List Int) : List Int := low.map fun x => max 0 (x - 1)
def looseO (o : Option Int) : Option Int := o.map (· + 1)
theorem loose_wr (w : WR mills ps low high lets) : WR mills ps (looseLow low) (high.map looseO) lets := by
  have wk := w.w
  refine ⟨⟨wk.m1, wk.m2, wk.pl, wk.ok, ⟨by unfold looseLow; rw [List.length_map, wk.lo.1], fun c hc => ?_⟩, by rw [List.length_map, wk.hl], fun h hh => ?_, wk.ll, wk.lp⟩, w.p7, ?_⟩
  · obtain ⟨x, _, rfl⟩ := List.mem_map.mp hc
    omega
  · obtain ⟨o, ho, rfl⟩ := List.mem_map.mp hh
    intro x e
    cases o with
    | none => cases e
    | some y =>
      have := wk.hp _ ho y rfl
      have e' : y + 1 = x := Option.some.inj e
      omega
  · obtain ⟨bs, hb, hr⟩ := w.r
    obtain ⟨h1, h2⟩ := runP_iff.mp hr
    refine ⟨bs, hb, runP_iff.mpr ⟨h1, fun k hk => ?_⟩⟩
    have hl := wk.lo.1
    have hh := wk.hl
    have l0 := wk.lo.at (k := (k : Int)) (by omega) (by omega)
    have q := h2 k hk
    rw [show at_ (looseLow low) (k : Int) = max 0 (at_ low (k : Int) - 1) from at_map (fun x => max 0 (x - 1)) (by omega) (by omega), at_map looseO (by omega) (by omega)]
    unfold outB at q ⊢
    rw [Bool.or_eq_false_iff] at q ⊢
    obtain ⟨q1, q2⟩ := q
    have q1 := of_decide_eq_false q1
    refine ⟨decide_eq_false (by omega), ?_⟩
    cases e : at_ high (k : Int) with
    | none => rfl
    | some y =>
      rw [e] at q2
      have q2 := of_decide_eq_false (show decide (y < at_ (cntL mills.toNat ps bs ps.length) (k : Int)) = false from q2)
      show decide (y + 1 < _) = false
      exact decide_eq_false (by omega)
theorem law_loosened_ok (w : WOk mills ps low high lets) (rest : List D) : sem_law_loosened [wD mills ps low high lets rest] = some (.ok (wD mills ps (looseLow low) (high.map looseO) lets [])) := by
  have ix := fun (k : Nat) (ρ : EV.Env) (h : ρ[k]? = some (.v (wD mills ps low high lets rest))) => wD_ix h
  have hl := w.lo.1
  have hh := w.hl
  have m2 := w.m2
  generalize wD mills ps low high lets rest = S at ix ⊢
  refine sem_fin (n := 5) (ds := [S]) ?_
  have q0 := EvL.lc (fi := iSeq (v2 ixD (vVar 0) (vC (.int 2)))) (fg := nmG 4) (ft := vYes) (fe := vCall maxD (aCons (vC (.int 0)) (aCons (v2 subD (vVar 4) (vC (.int 1))) (aNil)))) (vs := [4]) (ρ := [.v S, .no, .no, .no, .no]) low D.int (fun x => some (.int (max 0 (x - 1)))) (EvL.seqL (ix 0 _ rfl).2.2.1) (by omega) fun x hx => item_yes (ρ1 := [.v S, .no, .no, .no, .v (.int x)]) rfl (Ev.max_ Ev.c (Ev.sub (Ev.var rfl) Ev.c))
  rw [filterMap_some, show low.map (fun x => D.int (max 0 (x - 1))) = (looseLow low).map D.int by unfold looseLow; rw [List.map_map]; rfl] at q0
  refine Run.sset (Ev.vL q0) ?_
  refine Run.sown (ds := []) rfl (show (2 : Nat) < 5 by decide) ?_
  refine Run.seq (Run.for (fun n ρ => ∃ a, ρ = [.v S, .v (.lst ((looseLow low).map D.int)), .own (((high.take n).map looseO).map optD), a, .no]) (EvL.seqL (ix 0 _ rfl).2.2.2.1) ⟨.no, rfl⟩ (fun k d ρ hd hI => ?_) fun ρ hI => ?_)
  · obtain ⟨a, rfl⟩ := hI
    rw [List.getElem?_map] at hd
    obtain ⟨o, ho, rfl⟩ := Option.map_eq_some_iff.mp hd
    have hi := (List.getElem?_eq_some_iff.mp ho).1
    have et : ((high.take (k + 1)).map looseO).map optD = ((high.take k).map looseO).map optD ++ [optD (looseO o)] := by rw [List.take_succ, ho]; simp
    rw [et]
    have hlen : (((high.take k).map looseO).map optD).length = k := by simp; omega
    generalize ((high.take k).map looseO).map optD = xs at hlen ⊢
    refine ⟨_, rfl, ?_⟩
    cases o with
    | none => exact Run.ifP (P := True) (iP := instDecidableTrue) rfl (fun _ => Run.app (xs := xs) rfl Ev.c (by omega) ⟨_, rfl⟩) fun h => (h trivial).elim
    | some y => exact Run.ifP (P := False) (iP := instDecidableFalse) rfl (fun h => h.elim) fun _ => Run.app (xs := xs) (d := .int (y + 1)) rfl (Ev.add (Ev.var rfl) Ev.c) (by omega) ⟨_, rfl⟩
  · obtain ⟨a, rfl⟩ := hI
    rw [List.length_map, List.take_length]
    refine Run.rel (Run.ret (d := wD mills ps (looseLow low) (high.map looseO) lets []) ?_ rfl)
    exact Ev.vL (EvL.lenOk (EvL.cons (ix 0 _ rfl).1 (EvL.cons (ix 0 _ rfl).2.1 (EvL.cons (Ev.var rfl) (EvL.cons (Ev.var rfl) (EvL.cons (ix 0 _ rfl).2.2.2.2 .nil))))) (by simp))
theorem law_barred_ok (w : WOk mills ps low high lets) (rest : List D) (z : Int) (z0 : 0 ≤ z) : ∃ low' high' lets', sem_law_barred [wD mills ps low high lets rest, .int z] = some (.ok (wD mills ps low' high' lets' [])) ∧ WOk mills ps low' high' lets' := by
  have ix := fun (k : Nat) (ρ : EV.Env) (h : ρ[k]? = some (.v (wD mills ps low high lets rest))) => wD_ix h
  have hl := w.lo.1
  have hh := w.hl
  have m1 := w.m1
  have m2 := w.m2
  generalize wD mills ps low high lets rest = S at ix ⊢
  suffices H : Run g_law_barred [.v S, .v (.int z), .no, .no, .no, .no] (Ret fun d => ∃ low' high' lets', d = wD mills ps low' high' lets' [] ∧ WOk mills ps low' high' lets') by
    obtain ⟨d, h, low', high', lets', rfl, q⟩ := sem_ret (n := 6) (ds := [S, .int z]) H
    exact ⟨low', high', lets', h, q⟩
  refine Run.sown (EvL.listL (ix 0 _ rfl).2.2.1) (show (2 : Nat) < 6 by decide) ?_
  refine Run.sown (EvL.listL (ix 0 _ rfl).2.2.2.1) (show (3 : Nat) < 6 by decide) ?_
  refine Run.sown (EvL.listL (ix 0 _ rfl).2.2.2.2) (show (4 : Nat) < 6 by decide) ?_
  have hm : 0 ≤ z % mills ∧ z % mills < mills := ⟨Int.emod_nonneg _ (by omega), Int.emod_lt_of_pos _ (by omega)⟩
  refine Run.sset (d := .int (z % mills)) (Ev.mod (Ev.int_ (Ev.var rfl)) (ix 0 _ rfl).1 (by omega)) ?_
  generalize z % mills = q at hm ⊢
  have lowq := w.lo.at (k := q) hm.1 (by omega)
  refine Run.cut (fun ρ => ∃ low1, WOk mills ps low1 high lets ∧ ρ = [.v S, .v (.int z), .own (low1.map D.int), .own (high.map optD), .own (lets.map letD), .v (.int q)]) ?_ ?_
  · refine Run.ifP (Ev.eqI (Ev.mod (Ev.int_ (Ev.fdiv (Ev.int_ (Ev.var rfl)) Ev.c (by decide))) Ev.c (by decide)) Ev.c) (fun h => ?_) fun h => Run.next ⟨_, rfl, low, w, rfl⟩
    refine Run.setIxA (xs := low.map D.int) (k := q) (d := .int (at_ low q + 100000000000000000000)) rfl (Ev.add (Ev.ixM (A := D.int) (Ev.var rfl) (Ev.var rfl) hm.1 (by omega)) (Ev.pow (i := 10) (j := 20) Ev.c Ev.c (by decide))) rfl (Ev.var rfl) hm.1 (by rw [List.length_map]; omega) ⟨_, rfl, low.set q.toNat (at_ low q + 100000000000000000000), w.setLow _ (by omega), by rw [map_set]; rfl⟩
  rintro _ ⟨low1, w1, rfl⟩
  have hl1 := w1.lo.1
  have lowq1 := w1.lo.at (k := q) hm.1 (by omega)
  refine Run.cut (fun ρ => ∃ low2 high2 a b, WOk mills ps low2 high2 lets ∧ (a = Sl.own (low2.map D.int) ∨ a = .v (.lst (low2.map D.int))) ∧ b = Sl.own (high2.map optD) ∧ ρ = [.v S, .v (.int z), a, b, .own (lets.map letD), .v (.int q)]) ?_ ?_
  · refine Run.ifP (Ev.eqI (Ev.mod (Ev.int_ (Ev.fdiv (Ev.int_ (Ev.var rfl)) Ev.c (by decide))) Ev.c (by decide)) Ev.c) (fun h => ?_) fun h => Run.next ⟨_, rfl, low1, high, _, _, w1, .inl rfl, rfl, rfl⟩
    refine Run.seq (Run.setIxA (xs := low1.map D.int) (k := q) (d := .int (at_ low1 q + 1)) rfl (Ev.add (Ev.ixM (A := D.int) (Ev.var rfl) (Ev.var rfl) hm.1 (by omega)) Ev.c) rfl (Ev.var rfl) hm.1 (by rw [List.length_map]; omega) ?_)
    rw [map_set]
    have w2 := w1.setLow q.toNat (c := at_ low1 q + 1) (by omega)
    have e2 : at_ (low1.set q.toNat (at_ low1 q + 1)) q = at_ low1 q + 1 := by
      have g := at_get (xs := low1.set q.toNat (at_ low1 q + 1)) (i := q) hm.1 (by rw [List.length_set]; omega)
      rw [List.getElem?_set_self (by omega)] at g
      exact (Option.some.inj g).symm
    generalize low1.set q.toNat (at_ low1 q + 1) = low2 at w2 e2 ⊢
    have hl2 := w2.lo.1
    show Run (gRel 2 _) [.v S, .v (.int z), .own (low2.map D.int), .own (high.map optD), .own (lets.map letD), .v (.int q)] _
    refine Run.rel (Run.setIx (xs := high.map optD) (k := q) (d := .int (at_ low2 q - 1)) rfl (Ev.sub (Ev.ixM (A := D.int) (Ev.var rfl) (Ev.var rfl) hm.1 (by omega)) Ev.c) (Ev.var rfl) hm.1 (by rw [List.length_map]; omega) ?_)
    refine ⟨_, rfl, low2, high.set q.toNat (some (at_ low1 q)), _, _, w2.setHigh _ (Pos.some lowq1), .inr rfl, rfl, ?_⟩
    rw [e2, show (high.set q.toNat (some (at_ low1 q))).map optD = (high.map optD).set q.toNat (.int (at_ low1 q + 1 - 1)) by rw [List.map_set, show at_ low1 q + 1 - 1 = at_ low1 q by omega]; rfl]
    rfl
  rintro _ ⟨low2, high2, a, b, w2, ha, rfl, rfl⟩
  have ll := w2.ll
  refine Run.cut (fun ρ => ∃ lets2, WOk mills ps low2 high2 lets2 ∧ ρ = [.v S, .v (.int z), a, .own (high2.map optD), .own (lets2.map letD), .v (.int q)]) ?_ ?_
  · have lenE : Ev (vCall lenD (aCons (vVar 4) (aNil))) (thaw [.v S, .v (.int z), a, .own (high2.map optD), .own (lets.map letD), .v (.int q)]) (.int (lets.length : Nat)) := by
      have t := Ev.lenL (fa := vVar 4) (ρ := thaw [.v S, .v (.int z), a, .own (high2.map optD), .own (lets.map letD), .v (.int q)]) (ds := lets.map letD) (Ev.var rfl)
      rw [List.length_map] at t
      exact t
    refine Run.ifAP (Ev.andP (Ev.eqI (i := z / 24 % 3) (Ev.mod (Ev.int_ (Ev.fdiv (Ev.int_ (Ev.var rfl)) Ev.c (by decide))) Ev.c (by decide)) Ev.c) fun _ => Ev.gt lenE Ev.c) (fun h => ?_) fun h => Run.next ⟨_, rfl, lets, w2, rfl⟩
    have hm2 : 0 ≤ z / 72 % (lets.length : Int) ∧ z / 72 % (lets.length : Int) < lets.length := ⟨Int.emod_nonneg _ (by omega), Int.emod_lt_of_pos _ (by omega)⟩
    refine Run.setIx (xs := lets.map letD) (k := z / 72 % (lets.length : Int)) (d := letD []) rfl rfl (Ev.mod (Ev.int_ (Ev.fdiv (Ev.int_ (Ev.var rfl)) Ev.c (by decide))) lenE (by omega)) hm2.1 (by rw [List.length_map]; exact hm2.2) ⟨_, rfl, lets.set (z / 72 % (lets.length : Int)).toNat [], w2.setLet _ (by decide), by rw [List.map_set]; rfl⟩
  rintro _ ⟨lets2, w3, rfl⟩
  rcases ha with rfl | rfl
  · exact Run.rel (Run.rel (Run.rel (Run.ret (d := wD mills ps low2 high2 lets2 []) (Ev.vL (EvL.lenOk (EvL.cons (ix 0 _ rfl).1 (EvL.cons (ix 0 _ rfl).2.1 (EvL.cons (Ev.var rfl) (EvL.cons (Ev.var rfl) (EvL.cons (Ev.var rfl) .nil))))) (by simp))) ⟨_, _, _, rfl, w3⟩)))
  · exact Run.rel (Run.rel (Run.rel (Run.ret (d := wD mills ps low2 high2 lets2 []) (Ev.vL (EvL.lenOk (EvL.cons (ix 0 _ rfl).1 (EvL.cons (ix 0 _ rfl).2.1 (EvL.cons (Ev.var rfl) (EvL.cons (Ev.var rfl) (EvL.cons (Ev.var rfl) .nil))))) (by simp))) ⟨_, _, _, rfl, w3⟩)))
end
end LW
end

section
set_option maxHeartbeats 4000000
namespace LW
open PySem L2 EV
local macro_rules | `(tactic| get_elem_tactic_extensible) => `(tactic| first
  | ((with_reducible apply Ev.var); exact rfl)
  | with_reducible exact Ev.c
  | assumption
  | ((with_reducible apply Ev.add) <;> get_elem_tactic_extensible)
  | ((with_reducible apply Ev.sub) <;> get_elem_tactic_extensible)
  | ((with_reducible apply Ev.mulR) <;> get_elem_tactic_extensible)
  | ((with_reducible apply Ev.mulL) <;> get_elem_tactic_extensible)
  | ((with_reducible apply Ev.mod) <;> get_elem_tactic_extensible)
  | ((with_reducible apply Ev.fdiv) <;> get_elem_tactic_extensible)
  | ((with_reducible apply Ev.pow) <;> get_elem_tactic_extensible)
  | ((with_reducible apply Ev.neg) <;> get_elem_tactic_extensible)
  | ((with_reducible apply Ev.lt) <;> get_elem_tactic_extensible)
  | ((with_reducible apply Ev.le) <;> get_elem_tactic_extensible)
  | ((with_reducible apply Ev.gt) <;> get_elem_tactic_extensible)
  | ((with_reducible apply Ev.ge) <;> get_elem_tactic_extensible)
  | ((with_reducible apply Ev.eqI) <;> get_elem_tactic_extensible)
  | ((with_reducible apply Ev.neI) <;> get_elem_tactic_extensible)
  | ((with_reducible apply Ev.isN) <;> get_elem_tactic_extensible)
  | ((with_reducible apply Ev.notN) <;> get_elem_tactic_extensible)
  | ((with_reducible apply Ev.notP) <;> get_elem_tactic_extensible)
  | ((with_reducible apply Ev.andP) <;> get_elem_tactic_extensible)
  | ((with_reducible apply Ev.orP) <;> get_elem_tactic_extensible)
  | ((with_reducible apply Ev.int_) <;> get_elem_tactic_extensible)
  | ((with_reducible apply Ev.intB) <;> get_elem_tactic_extensible)
  | ((with_reducible apply Ev.lenL) <;> get_elem_tactic_extensible)
  | ((with_reducible apply Ev.lenT) <;> get_elem_tactic_extensible)
  | ((with_reducible apply Ev.lenS) <;> get_elem_tactic_extensible)
  | ((with_reducible apply Ev.min_) <;> get_elem_tactic_extensible)
  | ((with_reducible apply Ev.max_) <;> get_elem_tactic_extensible)
  | ((with_reducible apply Ev.abs_) <;> get_elem_tactic_extensible)
  | ((with_reducible apply Ev.tupleL) <;> get_elem_tactic_extensible)
  | ((with_reducible apply Ev.tupleT) <;> get_elem_tactic_extensible)
  | ((with_reducible apply EvL.listL) <;> get_elem_tactic_extensible)
  | ((with_reducible apply EvL.listT) <;> get_elem_tactic_extensible)
  | ((with_reducible apply Ev.ixL) <;> get_elem_tactic_extensible)
  | ((with_reducible apply Ev.ixT) <;> get_elem_tactic_extensible)
  | ((with_reducible apply Ev.ixM) <;> get_elem_tactic_extensible)
  | ((with_reducible apply Ev.ixMT) <;> get_elem_tactic_extensible)
  | ((with_reducible apply Ev.tup) <;> get_elem_tactic_extensible)
  | ((with_reducible apply Ev.vL) <;> get_elem_tactic_extensible)
  | with_reducible exact EvL.nil
  | ((with_reducible apply EvL.cons) <;> get_elem_tactic_extensible)
  | ((with_reducible apply EvL.lenOk) <;> get_elem_tactic_extensible)
  | ((with_reducible apply EvL.range1) <;> get_elem_tactic_extensible)
  | ((with_reducible apply EvL.seqL) <;> get_elem_tactic_extensible)
  | ((with_reducible apply EvL.seqT) <;> get_elem_tactic_extensible)
  | ((with_reducible apply EvL.seqS) <;> get_elem_tactic_extensible)
  | (intro; get_elem_tactic_extensible)
  | exact (show GetElem?.getElem? (List.cons _ _) _ = some _ from rfl)
  | omega
  | (simp only [List.length_map, List.length_append, List.length_replicate, List.length_cons, List.length_nil, List.length_range] <;> omega))
section
variable {mills : Int} {ps : List (Int × Int)} {low : List Int} {high : List (Option Int)} {lets : List (List Int)}
def swp (p : Int × Int) : Int × Int := (p.2, p.1)
def touB (k : Int) (p : Int × Int) : Bool := decide (k ∈ [p.1, p.2])
def nearN (qs : List (Int × Int)) (k : Int) : Int := ((qs.filter (touB k)).length : Nat)
theorem at_set {xs : List Int} {i k : Nat} {v : Int} (hk : k < xs.length) : at_ (xs.set i v) (k : Int) = if i = k then v else at_ xs (k : Int) := by
  have h2 := at_get (xs := xs.set i v) (i := (k : Int)) (by omega) (by rw [List.length_set]; omega)
  rw [show (k : Int).toNat = k by omega] at h2
  by_cases e : i = k
  · subst e
    rw [List.getElem?_set_self hk] at h2
    rw [if_pos rfl]
    exact (Option.some.inj h2).symm
  · rw [List.getElem?_set_ne e] at h2
    have h1 := at_get (xs := xs) (i := (k : Int)) (by omega) (by omega)
    rw [show (k : Int).toNat = k by omega] at h1
    rw [h1] at h2
    rw [if_neg e]
    exact (Option.some.inj h2).symm
theorem cnt_swap {m : Nat} {qs : List (Int × Int)} {bs : List Int} (ok : PairsOk (m : Int) qs) (hb : Bits qs.length bs) : ∀ n, n ≤ qs.length → ∀ k : Nat, k < m → at_ (cntL m qs bs n) (k : Int) + at_ (cntL m (qs.map swp) bs n) (k : Int) = nearN (qs.take n) (k : Int)
  | 0, _, k, hk => by
    rw [cntL, cntL]
    have h2 := at_get (xs := List.replicate m (0 : Int)) (i := (k : Int)) (by omega) (by simp; omega)
    rw [show (k : Int).toNat = k by omega, List.getElem?_replicate, if_pos hk] at h2
    rw [← Option.some.inj h2]
    rfl
  | n + 1, hn, k, hk => by
    have ih := cnt_swap ok hb n (by omega) k hk
    have hm := ok _ (at_mem (xs := qs) (i := (n : Int)) (by omega) (by omega))
    have hbit := hb.at (k := (n : Int)) (by omega) (by omega)
    have hsw : at_ (qs.map swp) (n : Int) = swp (at_ qs (n : Int)) := at_map swp (by omega) (by omega)
    have hg := at_get (xs := qs) (i := (n : Int)) (by omega) (by omega)
    rw [show (n : Int).toNat = n by omega] at hg
    have hcl1 := cntL_len m qs bs n
    have hcl2 := cntL_len m (qs.map swp) bs n
    have htk : qs.take (n + 1) = qs.take n ++ [at_ qs (n : Int)] := by rw [List.take_succ, hg]; rfl
    have hnear : nearN (qs.take (n + 1)) (k : Int) = nearN (qs.take n) (k : Int) + if touB (k : Int) (at_ qs (n : Int)) = true then 1 else 0 := by
      unfold nearN
      rw [htk, List.filter_append, List.length_append]
      by_cases e : touB (k : Int) (at_ qs (n : Int)) = true
      · rw [List.filter_cons_of_pos e, if_pos e]
        simp
      · rw [List.filter_cons_of_neg e, if_neg e]
        simp
    rw [hnear, cntL, cntL, hsw]
    generalize at_ qs (n : Int) = p at hm ⊢
    generalize at_ bs (n : Int) = s at hbit ⊢
    obtain ⟨a, b⟩ := p
    obtain ⟨a0, a1, b0, b1, ne⟩ := hm
    dsimp only at a0 a1 b0 b1 ne
    have a0 : 0 ≤ a := a0
    have tou : touB (k : Int) (a, b) = decide ((k : Int) = a ∨ (k : Int) = b) := by
      unfold touB
      simp
    rw [tou]
    have swpe : swp (a, b) = (b, a) := rfl
    rw [swpe]
    rcases hbit with rfl | rfl
    · have e1 : mE (a, b) 0 = a := rfl
      have e2 : mE (b, a) 0 = b := rfl
      rw [e1, e2, at_set (by omega), at_set (by omega)]
      by_cases h1 : a.toNat = k
      · have h2 : ¬ b.toNat = k := by omega
        have h3 : (k : Int) = a := by omega
        rw [if_pos h1, if_neg h2, if_pos (by simp [h3]), ← h3]
        omega
      · by_cases h2 : b.toNat = k
        · have h3 : (k : Int) = b := by omega
          rw [if_neg h1, if_pos h2, if_pos (by simp [h3]), ← h3]
          omega
        · rw [if_neg h1, if_neg h2, if_neg (by simp; omega)]
          omega
    · have e1 : mE (a, b) 1 = b := rfl
      have e2 : mE (b, a) 1 = a := rfl
      rw [e1, e2, at_set (by omega), at_set (by omega)]
      by_cases h1 : a.toNat = k
      · have h2 : ¬ b.toNat = k := by omega
        have h3 : (k : Int) = a := by omega
        rw [if_pos h1, if_neg h2, if_pos (by simp [h3]), ← h3]
        omega
      · by_cases h2 : b.toNat = k
        · have h3 : (k : Int) = b := by omega
          rw [if_neg h1, if_pos h2, if_pos (by simp [h3]), ← h3]
          omega
        · rw [if_neg h1, if_neg h2, if_neg (by simp; omega)]
          omega
theorem touB_swp (k : Int) (p : Int × Int) : touB k (swp p) = touB k p := by
  unfold touB swp
  simp only [List.mem_cons, List.not_mem_nil, or_false]
  exact decide_eq_decide.mpr or_comm
theorem nearN_swp (qs : List (Int × Int)) (k : Int) : nearN (qs.map swp) k = nearN qs k := by
  unfold nearN
  rw [List.filter_map, List.length_map, show touB k ∘ swp = touB k from funext (touB_swp k)]
def mirLow (o : Option Int) (near : Int) : Int := match o with
  | none => 0
  | some h => max 0 (near - h)
def mirHigh (l near k : Int) : Option Int := if l = 0 ∧ (k + near) % 2 = 0 then none else some (near - l)
def mirLows (ps : List (Int × Int)) (high : List (Option Int)) (n : Nat) : List Int := (List.range n).map fun k : Nat => mirLow (at_ high (k : Int)) (nearN ps (k : Int))
def mirHighs (ps : List (Int × Int)) (low : List Int) (n : Nat) : List (Option Int) := (List.range n).map fun k : Nat => mirHigh (at_ low (k : Int)) (nearN ps (k : Int)) (k : Nat)
theorem mir_wr (w : WR mills ps low high lets) : WR mills (ps.map swp) (mirLows ps high mills.toNat) (mirHighs ps low mills.toNat) lets := by
  have wk := w.w
  have m1 := wk.m1
  have hl := wk.lo.1
  obtain ⟨bs, hb, hr⟩ := w.r
  obtain ⟨h1, h2⟩ := runP_iff.mp hr
  have okm : PairsOk (mills.toNat : Int) ps := by
    rw [show (mills.toNat : Int) = mills by omega]
    exact wk.ok
  have cs := cnt_swap okm hb ps.length (Nat.le_refl _)
  rw [List.take_length] at cs
  have fit : ∀ k : Nat, k < mills.toNat → at_ low (k : Int) ≤ at_ (cntL mills.toNat ps bs ps.length) (k : Int) ∧ ∀ h, at_ high (k : Int) = some h → at_ (cntL mills.toNat ps bs ps.length) (k : Int) ≤ h := fun k hk => by
    have q := h2 k hk
    unfold outB at q
    rw [Bool.or_eq_false_iff] at q
    obtain ⟨q1, q2⟩ := q
    have q1 := of_decide_eq_false q1
    refine ⟨by omega, fun h e => ?_⟩
    rw [e] at q2
    have q2 := of_decide_eq_false (show decide (h < at_ (cntL mills.toNat ps bs ps.length) (k : Int)) = false from q2)
    omega
  have cnt0 : ∀ (qs : List (Int × Int)) (n : Nat), ∀ k : Nat, k < mills.toNat → (∀ i : Nat, i < n → 0 ≤ mE (at_ qs (i : Int)) (at_ bs (i : Int)) ∧ mE (at_ qs (i : Int)) (at_ bs (i : Int)) < mills) → 0 ≤ at_ (cntL mills.toNat qs bs n) (k : Int) := by
    intro qs n
    induction n with
    | zero =>
      intro k hk _
      have h2 := at_get (xs := List.replicate mills.toNat (0 : Int)) (i := (k : Int)) (by omega) (by simp; omega)
      rw [show (k : Int).toNat = k by omega, List.getElem?_replicate, if_pos hk] at h2
      rw [cntL, ← Option.some.inj h2]
      exact Int.le_refl 0
    | succ n ih =>
      intro k hk hr
      have hcl := cntL_len mills.toNat qs bs n
      rw [cntL, at_set (by omega)]
      split
      · have hr1 := hr n (by omega)
        have := ih (mE (at_ qs (n : Int)) (at_ bs (n : Int))).toNat (by omega) fun i hi => hr i (by omega)
        rw [show (((mE (at_ qs (n : Int)) (at_ bs (n : Int))).toNat : Nat) : Int) = mE (at_ qs (n : Int)) (at_ bs (n : Int)) by omega] at this
        omega
      · exact ih k hk fun i hi => hr i (by omega)
  have swok : PairsOk mills (ps.map swp) := fun p hp => by
    obtain ⟨q, hq, rfl⟩ := List.mem_map.mp hp
    obtain ⟨a0, a1, b0, b1, ne⟩ := wk.ok q hq
    exact ⟨b0, b1, a0, a1, fun z => ne z.symm⟩
  have swc : ∀ k : Nat, k < mills.toNat → 0 ≤ at_ (cntL mills.toNat (ps.map swp) bs ps.length) (k : Int) := fun k hk => cnt0 _ _ k hk fun i hi => mE_ok (swok _ (at_mem (xs := ps.map swp) (i := (i : Int)) (by omega) (by rw [List.length_map]; omega))) _
  have orc : ∀ k : Nat, k < mills.toNat → 0 ≤ at_ (cntL mills.toNat ps bs ps.length) (k : Int) := fun k hk => cnt0 _ _ k hk fun i hi => mE_ok (wk.ok _ (at_mem (xs := ps) (i := (i : Int)) (by omega) (by omega))) _
  refine ⟨⟨m1, wk.m2, by rw [List.length_map]; exact wk.pl, swok, ⟨by simp [mirLows], fun c hc => ?_⟩, by simp [mirHighs], fun h hh => ?_, by rw [List.length_map]; exact wk.ll, wk.lp⟩, by rw [List.length_map]; exact w.p7, bs, by rw [List.length_map]; exact hb, runP_iff.mpr ⟨by rw [List.length_map]; exact h1, fun k hk => ?_⟩⟩
  · obtain ⟨k, _, rfl⟩ := List.mem_map.mp hc
    unfold mirLow
    split <;> omega
  · obtain ⟨k, hk, rfl⟩ := List.mem_map.mp hh
    have hk := List.mem_range.mp hk
    intro x e
    unfold mirHigh at e
    split at e
    · cases e
    · have e := Option.some.inj e
      have q1 := (fit k hk).1
      have q2 := cs k hk
      have q3 := swc k hk
      omega
  · rw [List.length_map]
    have q1 := fit k hk
    have q2 := cs k hk
    have q3 := orc k hk
    have ea : at_ (mirLows ps high mills.toNat) (k : Int) = mirLow (at_ high (k : Int)) (nearN ps (k : Int)) := at_map_range (fun k : Nat => mirLow (at_ high (k : Int)) (nearN ps (k : Int))) mills.toNat k hk
    have eb : at_ (mirHighs ps low mills.toNat) (k : Int) = mirHigh (at_ low (k : Int)) (nearN ps (k : Int)) (k : Nat) := at_map_range (fun k : Nat => mirHigh (at_ low (k : Int)) (nearN ps (k : Int)) (k : Nat)) mills.toNat k hk
    rw [ea, eb]
    unfold outB
    rw [Bool.or_eq_false_iff]
    refine ⟨decide_eq_false ?_, ?_⟩
    · have q4 := swc k hk
      unfold mirLow
      cases e : at_ high (k : Int) with
      | none => dsimp only; omega
      | some h =>
        have := q1.2 h e
        dsimp only
        omega
    · unfold mirHigh
      split
      · rfl
      · show decide (nearN ps (k : Int) - at_ low (k : Int) < at_ (cntL mills.toNat (ps.map swp) bs ps.length) (k : Int)) = false
        have := q1.1
        exact decide_eq_false (by omega)
end
end LW
end

section
set_option maxHeartbeats 4000000
namespace LW
open PySem L2 EV
local macro_rules | `(tactic| get_elem_tactic_extensible) => `(tactic| first
  | ((with_reducible apply Ev.var); exact rfl)
  | with_reducible exact Ev.c
  | assumption
  | ((with_reducible apply Ev.add) <;> get_elem_tactic_extensible)
  | ((with_reducible apply Ev.sub) <;> get_elem_tactic_extensible)
  | ((with_reducible apply Ev.mulR) <;> get_elem_tactic_extensible)
  | ((with_reducible apply Ev.mulL) <;> get_elem_tactic_extensible)
  | ((with_reducible apply Ev.mod) <;> get_elem_tactic_extensible)
  | ((with_reducible apply Ev.fdiv) <;> get_elem_tactic_extensible)
  | ((with_reducible apply Ev.pow) <;> get_elem_tactic_extensible)
  | ((with_reducible apply Ev.neg) <;> get_elem_tactic_extensible)
  | ((with_reducible apply Ev.lt) <;> get_elem_tactic_extensible)
  | ((with_reducible apply Ev.le) <;> get_elem_tactic_extensible)
  | ((with_reducible apply Ev.gt) <;> get_elem_tactic_extensible)
  | ((with_reducible apply Ev.ge) <;> get_elem_tactic_extensible)
  | ((with_reducible apply Ev.eqI) <;> get_elem_tactic_extensible)
  | ((with_reducible apply Ev.neI) <;> get_elem_tactic_extensible)
  | ((with_reducible apply Ev.isN) <;> get_elem_tactic_extensible)
  | ((with_reducible apply Ev.notN) <;> get_elem_tactic_extensible)
  | ((with_reducible apply Ev.notP) <;> get_elem_tactic_extensible)
  | ((with_reducible apply Ev.andP) <;> get_elem_tactic_extensible)
  | ((with_reducible apply Ev.orP) <;> get_elem_tactic_extensible)
  | ((with_reducible apply Ev.int_) <;> get_elem_tactic_extensible)
  | ((with_reducible apply Ev.intB) <;> get_elem_tactic_extensible)
  | ((with_reducible apply Ev.lenL) <;> get_elem_tactic_extensible)
  | ((with_reducible apply Ev.lenT) <;> get_elem_tactic_extensible)
  | ((with_reducible apply Ev.lenS) <;> get_elem_tactic_extensible)
  | ((with_reducible apply Ev.min_) <;> get_elem_tactic_extensible)
  | ((with_reducible apply Ev.max_) <;> get_elem_tactic_extensible)
  | ((with_reducible apply Ev.abs_) <;> get_elem_tactic_extensible)
  | ((with_reducible apply Ev.tupleL) <;> get_elem_tactic_extensible)
  | ((with_reducible apply Ev.tupleT) <;> get_elem_tactic_extensible)
  | ((with_reducible apply EvL.listL) <;> get_elem_tactic_extensible)
  | ((with_reducible apply EvL.listT) <;> get_elem_tactic_extensible)
  | ((with_reducible apply Ev.ixL) <;> get_elem_tactic_extensible)
  | ((with_reducible apply Ev.ixT) <;> get_elem_tactic_extensible)
  | ((with_reducible apply Ev.ixM) <;> get_elem_tactic_extensible)
  | ((with_reducible apply Ev.ixMT) <;> get_elem_tactic_extensible)
  | ((with_reducible apply Ev.tup) <;> get_elem_tactic_extensible)
  | ((with_reducible apply Ev.vL) <;> get_elem_tactic_extensible)
  | with_reducible exact EvL.nil
  | ((with_reducible apply EvL.cons) <;> get_elem_tactic_extensible)
  | ((with_reducible apply EvL.lenOk) <;> get_elem_tactic_extensible)
  | ((with_reducible apply EvL.range1) <;> get_elem_tactic_extensible)
  | ((with_reducible apply EvL.seqL) <;> get_elem_tactic_extensible)
  | ((with_reducible apply EvL.seqT) <;> get_elem_tactic_extensible)
  | ((with_reducible apply EvL.seqS) <;> get_elem_tactic_extensible)
  | (intro; get_elem_tactic_extensible)
  | exact (show GetElem?.getElem? (List.cons _ _) _ = some _ from rfl)
  | omega
  | (simp only [List.length_map, List.length_append, List.length_replicate, List.length_cons, List.length_nil, List.length_range] <;> omega))
section
variable {mills : Int} {ps : List (Int × Int)} {low : List Int} {high : List (Option Int)} {lets : List (List Int)}
theorem mirLows_succ (n : Nat) : mirLows ps high (n + 1) = mirLows ps high n ++ [mirLow (at_ high (n : Int)) (nearN ps (n : Int))] := by
  unfold mirLows
  rw [List.range_succ, List.map_append]
  rfl
theorem mirHighs_succ (n : Nat) : mirHighs ps low (n + 1) = mirHighs ps low n ++ [mirHigh (at_ low (n : Int)) (nearN ps (n : Int)) (n : Nat)] := by
  unfold mirHighs
  rw [List.range_succ, List.map_append]
  rfl
theorem law_mirrored_ok (w : WOk mills ps low high lets) (rest : List D) : sem_law_mirrored [wD mills ps low high lets rest] = some (.ok (wD mills (ps.map swp) (mirLows ps high mills.toNat) (mirHighs ps low mills.toNat) lets [])) := by
  have ix := fun (k : Nat) (ρ : EV.Env) (h : ρ[k]? = some (.v (wD mills ps low high lets rest))) => wD_ix h
  have hl := w.lo.1
  have hh := w.hl
  have m1 := w.m1
  have m2 := w.m2
  have pl := w.pl
  generalize wD mills ps low high lets rest = S at ix ⊢
  refine sem_fin (n := 7) (ds := [S]) ?_
  have q0 := EvL.lc (fi := iSeq (v2 ixD (vVar 0) (vC (.int 1)))) (fg := nmG 6) (ft := vYes) (fe := vTup (aCons (v2 ixD (vVar 6) (vC (.int 1))) (aCons (v2 ixD (vVar 6) (vC (.int 0))) (aNil)))) (vs := [6]) (ρ := [.v S, .no, .no, .no, .no, .no, .no]) ps pairD (fun p => some (pairD (swp p))) (EvL.seqL (ix 0 _ rfl).2.1) (by omega) fun p hp => item_yes (ρ1 := [.v S, .no, .no, .no, .no, .no, .v (pairD p)]) rfl (Ev.tup (EvL.cons (Ev.ixT (Ev.var rfl) Ev.c (by decide) rfl) (EvL.cons (Ev.ixT (Ev.var rfl) Ev.c (by decide) rfl) .nil)) (by simp))
  rw [filterMap_some, show ps.map (fun p => pairD (swp p)) = (ps.map swp).map pairD by rw [List.map_map]; rfl] at q0
  refine Run.sset (Ev.vL q0) ?_
  refine Run.sown (ds := []) rfl (show (2 : Nat) < 7 by decide) (Run.sown (ds := []) rfl (show (3 : Nat) < 7 by decide) ?_)
  have sl : (ps.map swp).length ≤ 48 := by rw [List.length_map]; exact pl
  have nr := nearN_swp ps
  refine Run.seq (Run.for (fun n ρ => ∃ a b, ρ = [.v S, .v (.lst ((ps.map swp).map pairD)), .own ((mirLows ps high n).map D.int), .own ((mirHighs ps low n).map optD), a, b, .no]) (range_n (n := mills.toNat) (by have z := (ix 0 [.v S, .v (.lst ((ps.map swp).map pairD)), .own [], .own [], .no, .no, .no] rfl).1; rw [show mills = ((mills.toNat : Nat) : Int) by omega] at z; exact z) (by omega)) ⟨.no, .no, rfl⟩ (fun k d ρ hd hI => ?_) fun ρ hI => ?_)
  · obtain ⟨a, b, rfl⟩ := hI
    obtain ⟨rfl, hk⟩ := range0_get hd
    have ll : (mirLows ps high k).length = k := by simp [mirLows]
    have lh : (mirHighs ps low k).length = k := by simp [mirHighs]
    rw [mirLows_succ, mirHighs_succ, ← nr (k : Int)]
    generalize ps.map swp = qs at sl ⊢
    generalize mirLows ps high k = lo at ll ⊢
    generalize mirHighs ps low k = hi at lh ⊢
    have q1 := EvL.lc (fi := iSeq (vVar 1)) (fg := nmG 6) (ft := v2 inD (vVar 4) (vVar 6)) (fe := vVar 6) (vs := [6]) (ρ := [.v S, .v (.lst (qs.map pairD)), .own (lo.map D.int), .own (hi.map optD), .v (.int (k : Nat)), b, .no]) qs pairD (fun p => if (k : Int) ∈ [p.1, p.2] then some (pairD p) else none) (EvL.seqL (Ev.var rfl)) (by omega) fun p hp => item_if (ρ1 := ([.v S, .v (.lst (qs.map pairD)), .no, .no, .v (.int (k : Nat)), maskS b, .v (pairD p)])) rfl (in_ints (G := [p.1, p.2]) (V := pairD p) (Ev.var rfl) (Ev.var rfl) (.inr rfl)) (fun _ => Ev.var rfl)
    rw [filterMap_if pairD (fun p : Int × Int => (k : Int) ∈ [p.1, p.2])] at q1
    have hnear : Ev (vCall lenD (aCons (vL (nLc (iSeq (vVar 1)) (nmG 6) (v2 inD (vVar 4) (vVar 6)) (vVar 6) [6])) (aNil))) [.v S, .v (.lst (qs.map pairD)), .own (lo.map D.int), .own (hi.map optD), .v (.int (k : Nat)), b, .no] (.int (nearN qs (k : Int))) := by
      have z := Ev.lenL (Ev.vL q1)
      rw [List.length_map] at z
      exact z
    refine ⟨_, rfl, Run.sset hnear ?_⟩
    generalize nearN qs (k : Int) = near
    show Run (gSeq _ _) [.v S, .v (.lst (qs.map pairD)), .own (lo.map D.int), .own (hi.map optD), .v (.int (k : Nat)), .v (.int near), .no] _
    have hx : ∀ ρ : EV.Env, ρ[0]? = some (.v S) → ρ[4]? = some (.v (.int (k : Nat))) → Ev (v2 ixD (v2 ixD (vVar 0) (vC (.int 3))) (vVar 4)) ρ (optD (at_ high (k : Int))) := fun ρ h0 h4 => Ev.ixM (A := optD) (ix 0 ρ h0).2.2.2.1 (Ev.var h4) (by omega) (by omega)
    have lx : ∀ ρ : EV.Env, ρ[0]? = some (.v S) → ρ[4]? = some (.v (.int (k : Nat))) → Ev (v2 ixD (v2 ixD (vVar 0) (vC (.int 2))) (vVar 4)) ρ (.int (at_ low (k : Int))) := fun ρ h0 h4 => Ev.ixM (A := D.int) (ix 0 ρ h0).2.2.1 (Ev.var h4) (by omega) (by omega)
    generalize at_ high (k : Int) = o at hx ⊢
    generalize at_ low (k : Int) = l at lx ⊢
    refine Run.cut (fun ρ => ρ = [.v S, .v (.lst (qs.map pairD)), .own ((lo ++ [mirLow o near]).map D.int), .own (hi.map optD), .v (.int (k : Nat)), .v (.int near), .no]) ?_ ?_
    · refine Run.ifP (Ev.isN (hx _ rfl rfl)) (fun h => ?_) fun h => ?_
      · refine Run.app (xs := lo.map D.int) rfl Ev.c (by rw [List.length_map]; omega) ⟨_, rfl, ?_⟩
        cases o with
        | none => rw [← map_snoc D.int]; rfl
        | some y => cases h
      · cases o with
        | none => exact (h rfl).elim
        | some y =>
          refine Run.app (xs := lo.map D.int) (d := .int (max 0 (near - y))) rfl (Ev.max_ Ev.c (Ev.sub (Ev.var rfl) (hx _ rfl rfl))) (by rw [List.length_map]; omega) ⟨_, rfl, ?_⟩
          rw [← map_snoc D.int]
          rfl
    · rintro _ rfl
      refine Run.ifP (Ev.andP (Ev.eqI (lx _ rfl rfl) Ev.c) fun _ => Ev.eqI (Ev.mod (Ev.int_ (Ev.add (Ev.var rfl) (Ev.var rfl))) Ev.c (by decide)) Ev.c) (fun h => ?_) fun h => ?_
      · refine Run.app (xs := hi.map optD) rfl Ev.c (by rw [List.length_map]; omega) ⟨.v (.int (k : Nat)), .v (.int near), ?_⟩
        rw [show mirHigh l near (k : Nat) = none from if_pos h, ← map_snoc optD]
        rfl
      · refine Run.app (xs := hi.map optD) (d := .int (near - l)) rfl (Ev.sub (Ev.var rfl) (lx _ rfl rfl)) (by rw [List.length_map]; omega) ⟨.v (.int (k : Nat)), .v (.int near), ?_⟩
        rw [show mirHigh l near (k : Nat) = some (near - l) from if_neg h, ← map_snoc optD]
        rfl
  · obtain ⟨a, b, rfl⟩ := hI
    rw [rangeD_length]
    refine Run.rel (Run.rel (Run.ret (d := wD mills (ps.map swp) (mirLows ps high mills.toNat) (mirHighs ps low mills.toNat) lets []) ?_ rfl))
    exact Ev.vL (EvL.lenOk (EvL.cons (ix 0 _ rfl).1 (EvL.cons (Ev.var rfl) (EvL.cons (Ev.var rfl) (EvL.cons (Ev.var rfl) (EvL.cons (ix 0 _ rfl).2.2.2.2 .nil))))) (by simp))
theorem law_either_ok (ns : List Int) (at0 flag : Int) (h0 : 0 ≤ at0) : ∃ mills ps low high lets, sem_law_either [.scr ns, .int at0, .int flag] = some (.ok (wD mills ps low high lets [])) ∧ WR mills ps low high lets := by
  obtain ⟨mills, ps, low, high, lets, hd, wr⟩ := law_drawn_run ns at0 7 h0 (by decide)
  suffices H : Run g_law_either [.v (.scr ns), .v (.int at0), .v (.int flag), .no] (Ret fun d => ∃ mills ps low high lets, d = wD mills ps low high lets [] ∧ WR mills ps low high lets) by
    obtain ⟨d, h, mills, ps, low, high, lets, rfl, q⟩ := sem_ret (n := 4) (ds := [.scr ns, .int at0, .int flag]) H
    exact ⟨mills, ps, low, high, lets, h, q⟩
  refine Run.sset (Ev.callP (EvL.cons (Ev.var rfl) (EvL.cons (Ev.var rfl) (EvL.cons Ev.c .nil))) .nil ⟨rfl, rfl⟩ hd) ?_
  refine Run.seq (Run.ifP (Ev.eqI (Ev.mod (Ev.int_ (Ev.var rfl)) Ev.c (by decide)) Ev.c) (fun h => ?_) fun h => Run.next ?_)
  · exact Run.ret (Ev.callP (EvL.cons (Ev.var rfl) .nil) .nil ⟨rfl, rfl⟩ (law_mirrored_ok wr.w [])) ⟨_, _, _, _, _, rfl, mir_wr wr⟩
  · exact Run.ret (Ev.var rfl) ⟨_, _, _, _, _, rfl, wr⟩
end
end LW
end

section
set_option maxHeartbeats 4000000
namespace LW
open PySem L2 EV
local macro_rules | `(tactic| get_elem_tactic_extensible) => `(tactic| first
  | ((with_reducible apply Ev.var); exact rfl)
  | with_reducible exact Ev.c
  | assumption
  | ((with_reducible apply Ev.add) <;> get_elem_tactic_extensible)
  | ((with_reducible apply Ev.sub) <;> get_elem_tactic_extensible)
  | ((with_reducible apply Ev.mulR) <;> get_elem_tactic_extensible)
  | ((with_reducible apply Ev.mulL) <;> get_elem_tactic_extensible)
  | ((with_reducible apply Ev.mod) <;> get_elem_tactic_extensible)
  | ((with_reducible apply Ev.fdiv) <;> get_elem_tactic_extensible)
  | ((with_reducible apply Ev.pow) <;> get_elem_tactic_extensible)
  | ((with_reducible apply Ev.neg) <;> get_elem_tactic_extensible)
  | ((with_reducible apply Ev.lt) <;> get_elem_tactic_extensible)
  | ((with_reducible apply Ev.le) <;> get_elem_tactic_extensible)
  | ((with_reducible apply Ev.gt) <;> get_elem_tactic_extensible)
  | ((with_reducible apply Ev.ge) <;> get_elem_tactic_extensible)
  | ((with_reducible apply Ev.eqI) <;> get_elem_tactic_extensible)
  | ((with_reducible apply Ev.neI) <;> get_elem_tactic_extensible)
  | ((with_reducible apply Ev.isN) <;> get_elem_tactic_extensible)
  | ((with_reducible apply Ev.notN) <;> get_elem_tactic_extensible)
  | ((with_reducible apply Ev.notP) <;> get_elem_tactic_extensible)
  | ((with_reducible apply Ev.andP) <;> get_elem_tactic_extensible)
  | ((with_reducible apply Ev.orP) <;> get_elem_tactic_extensible)
  | ((with_reducible apply Ev.int_) <;> get_elem_tactic_extensible)
  | ((with_reducible apply Ev.intB) <;> get_elem_tactic_extensible)
  | ((with_reducible apply Ev.lenL) <;> get_elem_tactic_extensible)
  | ((with_reducible apply Ev.lenT) <;> get_elem_tactic_extensible)
  | ((with_reducible apply Ev.lenS) <;> get_elem_tactic_extensible)
  | ((with_reducible apply Ev.min_) <;> get_elem_tactic_extensible)
  | ((with_reducible apply Ev.max_) <;> get_elem_tactic_extensible)
  | ((with_reducible apply Ev.abs_) <;> get_elem_tactic_extensible)
  | ((with_reducible apply Ev.tupleL) <;> get_elem_tactic_extensible)
  | ((with_reducible apply Ev.tupleT) <;> get_elem_tactic_extensible)
  | ((with_reducible apply EvL.listL) <;> get_elem_tactic_extensible)
  | ((with_reducible apply EvL.listT) <;> get_elem_tactic_extensible)
  | ((with_reducible apply Ev.ixL) <;> get_elem_tactic_extensible)
  | ((with_reducible apply Ev.ixT) <;> get_elem_tactic_extensible)
  | ((with_reducible apply Ev.ixM) <;> get_elem_tactic_extensible)
  | ((with_reducible apply Ev.ixMT) <;> get_elem_tactic_extensible)
  | ((with_reducible apply Ev.tup) <;> get_elem_tactic_extensible)
  | ((with_reducible apply Ev.vL) <;> get_elem_tactic_extensible)
  | with_reducible exact EvL.nil
  | ((with_reducible apply EvL.cons) <;> get_elem_tactic_extensible)
  | ((with_reducible apply EvL.lenOk) <;> get_elem_tactic_extensible)
  | ((with_reducible apply EvL.range1) <;> get_elem_tactic_extensible)
  | ((with_reducible apply EvL.seqL) <;> get_elem_tactic_extensible)
  | ((with_reducible apply EvL.seqT) <;> get_elem_tactic_extensible)
  | ((with_reducible apply EvL.seqS) <;> get_elem_tactic_extensible)
  | (intro; get_elem_tactic_extensible)
  | exact (show GetElem?.getElem? (List.cons _ _) _ = some _ from rfl)
  | omega
  | (simp only [List.length_map, List.length_append, List.length_replicate, List.length_cons, List.length_nil, List.length_range] <;> omega))
section
variable {mills : Int} {ps : List (Int × Int)} {low : List Int} {high : List (Option Int)} {lets : List (List Int)}
theorem law_drawn_turns_ok (w : WOk mills ps low high lets) (rest : List D) {bs : List Int} (hb : Bits ps.length bs) (ds : List Int) (hd : ds.length ≤ 1000) : ∃ row, sem_law_drawn_turns [wD mills ps low high lets rest, letD bs, .lst (ds.map D.int)] = some (.ok (.lst (row.map D.int))) ∧ RowIn ps.length row ∧ row.length ≤ ds.length := by
  have lr := fun (b : List Int) (h : Bits ps.length b) => law_runs_ok w rest h (V := letD b) (.inr rfl)
  have pl := w.pl
  generalize wD mills ps low high lets rest = W at lr ⊢
  suffices H : Run g_law_drawn_turns [.v W, .v (letD bs), .v (.lst (ds.map D.int)), .no, .no, .no, .no, .no, .no] (Ret fun d => ∃ row, d = .lst (row.map D.int) ∧ RowIn ps.length row ∧ row.length ≤ ds.length) by
    obtain ⟨d, h, row, rfl, q⟩ := sem_ret (n := 9) (ds := [W, letD bs, .lst (ds.map D.int)]) H
    exact ⟨row, h, q⟩
  refine Run.sown (ds := []) rfl (show (3 : Nat) < 9 by decide) (Run.sset (Ev.var rfl) ?_)
  refine Run.sset (d := .int (ps.length : Nat)) (by
    have z := Ev.lenT (fa := vVar 1) (ρ := [.v W, .v (letD bs), .v (.lst (ds.map D.int)), .own [], .v (letD bs), .no, .no, .no, .no]) (ds := bs.map D.int) (Ev.var rfl)
    rw [List.length_map, hb.1] at z
    exact z) ?_
  generalize hn : ps.length = n at hb lr pl ⊢
  refine Run.cut (fun ρ => ∃ row st a b c, RowIn n row ∧ row.length ≤ ds.length ∧ ρ = [.v W, .v (letD bs), .v (.lst (ds.map D.int)), .own (row.map D.int), .v (letD st), .v (.int (n : Nat)), a, b, c]) ?_ ?_
  · refine Run.for (fun j ρ => ∃ row st a b c, RowIn n row ∧ row.length ≤ j ∧ Bits n st ∧ ρ = [.v W, .v (letD bs), .v (.lst (ds.map D.int)), .own (row.map D.int), .v (letD st), .v (.int (n : Nat)), a, b, c]) (EvL.seqL (Ev.var rfl)) ⟨[], bs, .no, .no, .no, fun x hx => by simp at hx, Nat.le_refl _, hb, rfl⟩ (fun j d ρ hd' hI => ?_) fun ρ hI => ?_
    · obtain ⟨row, st, a, b, c, hr, hlen, hst, rfl⟩ := hI
      have hj : j < ds.length := by
        have := (List.getElem?_eq_some_iff.mp hd').1
        rwa [List.length_map] at this
      rw [List.getElem?_map] at hd'
      obtain ⟨z, _, rfl⟩ := Option.map_eq_some_iff.mp hd'
      refine ⟨_, rfl, Run.seq (Run.ifP (Ev.eqI (Ev.var rfl) Ev.c) (fun h => Run.brk ⟨_, rfl, row, st, _, b, c, hr, by omega, rfl⟩) fun h => Run.next ?_)⟩
      have hm : ∀ y : Int, 0 ≤ y % (n : Int) ∧ y % (n : Int) < n := fun y => ⟨Int.emod_nonneg _ (by omega), Int.emod_lt_of_pos _ (by omega)⟩
      refine Run.sset (d := .int (z / 9 % (n : Int))) (Ev.mod (Ev.int_ (Ev.fdiv (Ev.int_ (Ev.var rfl)) Ev.c (by decide))) (Ev.var rfl) (by omega)) ?_
      have h0 := hm (z / 9)
      generalize z / 9 % (n : Int) = c0 at h0 ⊢
      refine Run.cut (fun ρ => ∃ c1 e, (0 ≤ c1 ∧ c1 < (n : Int)) ∧ ρ = [.v W, .v (letD bs), .v (.lst (ds.map D.int)), .own (row.map D.int), .v (letD st), .v (.int (n : Nat)), .v (.int z), .v (.int c1), e]) ?_ ?_
      · refine Run.ifP (Ev.lt (Ev.mod (Ev.int_ (Ev.var rfl)) Ev.c (by decide)) Ev.c) (fun _ => ?_) fun _ => Run.next ⟨_, rfl, c0, c, h0, rfl⟩
        refine Run.for (fun i ρ => ∃ e, ρ = [.v W, .v (letD bs), .v (.lst (ds.map D.int)), .own (row.map D.int), .v (letD st), .v (.int (n : Nat)), .v (.int z), .v (.int c0), e]) (range_n (n := n) (Ev.var rfl) (by omega)) ⟨c, rfl⟩ (fun i d ρ hd2 hI => ?_) fun ρ hI => ?_
        · obtain ⟨e, rfl⟩ := hI
          obtain ⟨rfl, hi⟩ := range0_get hd2
          have h2 := hm (z / 9 + (i : Nat))
          have ev2 : ∀ ρ : EV.Env, ρ[5]? = some (.v (.int (n : Nat))) → ρ[6]? = some (.v (.int z)) → ρ[8]? = some (.v (.int (i : Nat))) → Ev (v2 modD (vCall intD (aCons (v2 addD (v2 fdivD (vCall intD (aCons (vVar 6) (aNil))) (vC (.int 9))) (vVar 8)) (aNil))) (vVar 5)) ρ (.int ((z / 9 + (i : Nat)) % (n : Int))) := fun ρ e5 e6 e8 => Ev.mod (Ev.int_ (Ev.add (Ev.fdiv (Ev.int_ (Ev.var e6)) Ev.c (by decide)) (Ev.var e8))) (Ev.var e5) (by omega)
          refine ⟨_, rfl, Run.ifP (Ev.callP (EvL.cons (Ev.var rfl) (EvL.cons (Ev.callP (EvL.cons (Ev.var rfl) (EvL.cons (ev2 _ rfl rfl rfl) .nil)) .nil ⟨rfl, rfl⟩ (law_turn_eq hst (by omega) h2.1 h2.2)) .nil)) .nil ⟨rfl, rfl⟩ (lr _ (turnL_bits hst h2.1 h2.2))) (fun _ => ?_) fun _ => Run.next ⟨_, rfl⟩⟩
          exact Run.sset (ev2 _ rfl rfl rfl) (Run.brk ⟨_, rfl, _, _, h2, rfl⟩)
        · obtain ⟨e, rfl⟩ := hI
          exact ⟨_, rfl, c0, e, h0, rfl⟩
      · rintro _ ⟨c1, e, h1, rfl⟩
        refine Run.sapp (xs := row.map D.int) (d := .int c1) rfl (Ev.var rfl) (by rw [List.length_map]; omega) ?_
        rw [map_snoc D.int]
        refine Run.set (d := letD (turnL st c1)) (Ev.callP (EvL.cons (Ev.var rfl) (EvL.cons (Ev.var rfl) .nil)) .nil ⟨rfl, rfl⟩ (law_turn_eq hst (by omega) h1.1 h1.2)) ?_
        refine ⟨row ++ [c1], turnL st c1, _, _, _, fun x hx => ?_, by simp; omega, turnL_bits hst h1.1 h1.2, rfl⟩
        rcases List.mem_append.mp hx with hx | hx
        · exact hr x hx
        · rw [List.mem_singleton.mp hx]; exact h1
    · obtain ⟨row, st, a, b, c, hr, hlen, hst, rfl⟩ := hI
      rw [List.length_map] at hlen
      exact ⟨_, rfl, row, st, a, b, c, hr, hlen, rfl⟩
  · rintro _ ⟨row, st, a, b, c, hr, hlen, rfl⟩
    exact Run.rel (Run.ret (Ev.var rfl) ⟨row, rfl, hr, hlen⟩)
end
end LW
end

section
set_option maxHeartbeats 4000000
namespace LW
open PySem L2 EV
local macro_rules | `(tactic| get_elem_tactic_extensible) => `(tactic| first
  | ((with_reducible apply Ev.var); exact rfl)
  | with_reducible exact Ev.c
  | assumption
  | ((with_reducible apply Ev.add) <;> get_elem_tactic_extensible)
  | ((with_reducible apply Ev.sub) <;> get_elem_tactic_extensible)
  | ((with_reducible apply Ev.mulR) <;> get_elem_tactic_extensible)
  | ((with_reducible apply Ev.mulL) <;> get_elem_tactic_extensible)
  | ((with_reducible apply Ev.mod) <;> get_elem_tactic_extensible)
  | ((with_reducible apply Ev.fdiv) <;> get_elem_tactic_extensible)
  | ((with_reducible apply Ev.pow) <;> get_elem_tactic_extensible)
  | ((with_reducible apply Ev.neg) <;> get_elem_tactic_extensible)
  | ((with_reducible apply Ev.lt) <;> get_elem_tactic_extensible)
  | ((with_reducible apply Ev.le) <;> get_elem_tactic_extensible)
  | ((with_reducible apply Ev.gt) <;> get_elem_tactic_extensible)
  | ((with_reducible apply Ev.ge) <;> get_elem_tactic_extensible)
  | ((with_reducible apply Ev.eqI) <;> get_elem_tactic_extensible)
  | ((with_reducible apply Ev.neI) <;> get_elem_tactic_extensible)
  | ((with_reducible apply Ev.isN) <;> get_elem_tactic_extensible)
  | ((with_reducible apply Ev.notN) <;> get_elem_tactic_extensible)
  | ((with_reducible apply Ev.notP) <;> get_elem_tactic_extensible)
  | ((with_reducible apply Ev.andP) <;> get_elem_tactic_extensible)
  | ((with_reducible apply Ev.orP) <;> get_elem_tactic_extensible)
  | ((with_reducible apply Ev.int_) <;> get_elem_tactic_extensible)
  | ((with_reducible apply Ev.intB) <;> get_elem_tactic_extensible)
  | ((with_reducible apply Ev.lenL) <;> get_elem_tactic_extensible)
  | ((with_reducible apply Ev.lenT) <;> get_elem_tactic_extensible)
  | ((with_reducible apply Ev.lenS) <;> get_elem_tactic_extensible)
  | ((with_reducible apply Ev.min_) <;> get_elem_tactic_extensible)
  | ((with_reducible apply Ev.max_) <;> get_elem_tactic_extensible)
  | ((with_reducible apply Ev.abs_) <;> get_elem_tactic_extensible)
  | ((with_reducible apply Ev.tupleL) <;> get_elem_tactic_extensible)
  | ((with_reducible apply Ev.tupleT) <;> get_elem_tactic_extensible)
  | ((with_reducible apply EvL.listL) <;> get_elem_tactic_extensible)
  | ((with_reducible apply EvL.listT) <;> get_elem_tactic_extensible)
  | ((with_reducible apply Ev.ixL) <;> get_elem_tactic_extensible)
  | ((with_reducible apply Ev.ixT) <;> get_elem_tactic_extensible)
  | ((with_reducible apply Ev.ixM) <;> get_elem_tactic_extensible)
  | ((with_reducible apply Ev.ixMT) <;> get_elem_tactic_extensible)
  | ((with_reducible apply Ev.tup) <;> get_elem_tactic_extensible)
  | ((with_reducible apply Ev.vL) <;> get_elem_tactic_extensible)
  | with_reducible exact EvL.nil
  | ((with_reducible apply EvL.cons) <;> get_elem_tactic_extensible)
  | ((with_reducible apply EvL.lenOk) <;> get_elem_tactic_extensible)
  | ((with_reducible apply EvL.range1) <;> get_elem_tactic_extensible)
  | ((with_reducible apply EvL.seqL) <;> get_elem_tactic_extensible)
  | ((with_reducible apply EvL.seqT) <;> get_elem_tactic_extensible)
  | ((with_reducible apply EvL.seqS) <;> get_elem_tactic_extensible)
  | (intro; get_elem_tactic_extensible)
  | exact (show GetElem?.getElem? (List.cons _ _) _ = some _ from rfl)
  | omega
  | (simp only [List.length_map, List.length_append, List.length_replicate, List.length_cons, List.length_nil, List.length_range] <;> omega))
def szF0 : List Int := [29, 60, 6, 6]
def szF1 : List Int := List.replicate 48 1152
def szF2 : List Int := List.replicate 24 64
def tbSl : List D := [.int 0, .int 0, .int 1, .int 0, .int 0, .int 2, .int 0, .int 3]
def tbBo : List D := [.non, .int 1, .non, .int 0, .int 2, .int 1, .non, .int 3]
theorem law_far_ok (ns : List Int) : ∃ mills ps low high lets bs, sem_law_far [.scr ns, .int 6, .int 24, .int 48] = some (.ok (.lst [wD mills ps low high lets [], letD bs])) ∧ WOk mills ps low high lets ∧ Bits ps.length bs := by
  suffices H : Run g_law_far [.v (.scr ns), .v (.int 6), .v (.int 24), .v (.int 48), .no, .no, .no, .no, .no, .no, .no, .no, .no, .no, .no, .no, .no, .no, .no, .no, .no] (Ret fun d => ∃ mills ps low high lets bs, d = .lst [wD mills ps low high lets [], letD bs] ∧ WOk mills ps low high lets ∧ Bits ps.length bs) by
    obtain ⟨d, h, mills, ps, low, high, lets, bs, rfl, q⟩ := sem_ret (n := 21) (ds := [.scr ns, .int 6, .int 24, .int 48]) H
    exact ⟨mills, ps, low, high, lets, bs, h, q⟩
  obtain ⟨r0, e0, ro0⟩ := dig_cell (fs := vVar 0) (fk := vVar 1) (fz := vL (lenOk (aCons (vC (.int 29)) (aCons (vC (.int 60)) (aCons (vC (.int 6)) (aCons (vC (.int 6)) (aNil))))))) (ρ := [.v (.scr ns), .v (.int 6), .v (.int 24), .v (.int 48), .no, .no, .no, .no, .no, .no, .no, .no, .no, .no, .no, .no, .no, .no, .no, .no, .no]) szF0 (Ev.var rfl) (Ev.var rfl) (by decide) rfl (by decide)
  refine Run.sset e0 ?_
  obtain ⟨r1, e1, ro1⟩ := dig_cell (fs := vVar 0) (fk := v2 addD (vVar 1) (vC (.int 1))) (fz := vL (nRep (vL (lenOk (aCons (vC (.int 1152)) (aNil)))) (vC (.int 48)))) (ρ := [.v (.scr ns), .v (.int 6), .v (.int 24), .v (.int 48), .v (.lst (r0.map D.int)), .no, .no, .no, .no, .no, .no, .no, .no, .no, .no, .no, .no, .no, .no, .no, .no]) szF1 (Ev.var rfl) (Ev.add (Ev.var rfl) Ev.c) (by decide) rfl (by decide)
  refine Run.sset e1 ?_
  obtain ⟨r2, e2, ro2⟩ := dig_cell (fs := vVar 0) (fk := v2 addD (vVar 1) (vC (.int 2))) (fz := vL (nRep (vL (lenOk (aCons (vC (.int 64)) (aNil)))) (vC (.int 24)))) (ρ := [.v (.scr ns), .v (.int 6), .v (.int 24), .v (.int 48), .v (.lst (r0.map D.int)), .v (.lst (r1.map D.int)), .no, .no, .no, .no, .no, .no, .no, .no, .no, .no, .no, .no, .no, .no, .no]) szF2 (Ev.var rfl) (Ev.add (Ev.var rfl) Ev.c) (by decide) rfl (by decide)
  refine Run.sset e2 ?_
  clear e0 e1 e2
  have l0 : r0.length = 4 := ro0.1
  have l1 : r1.length = 48 := ro1.1
  have l2 : r2.length = 24 := ro2.1
  have c1 : ∀ k : Int, 0 ≤ k → k < 48 → 0 ≤ at_ r1 k ∧ at_ r1 k < 1152 := fun k h0 h1 => row_le ro1 1152 (by decide) h0 (by rw [show szF1.length = 48 from rfl]; exact h1)
  have c2 : ∀ k : Int, 0 ≤ k → k < 24 → 0 ≤ at_ r2 k ∧ at_ r2 k < 64 := fun k h0 h1 => row_le ro2 64 (by decide) h0 (by rw [show szF2.length = 24 from rfl]; exact h1)
  have sx : ∀ (ρ : EV.Env) (k : Int), ρ[4]? = some (.v (.lst (r0.map D.int))) → 0 ≤ k → k < 4 → Ev (v2 ixD (vVar 4) (vC (.int k))) ρ (.int (at_ r0 k)) := fun ρ k h h0 h1 => Ev.ixM (A := D.int) (Ev.var h) Ev.c h0 (by omega)
  refine Run.sset (d := .int (24 - max 0 (at_ r0 0 - 6) % (24 - 1))) (Ev.sub (Ev.var rfl) (Ev.mod (Ev.int_ (Ev.max_ Ev.c (Ev.sub (sx _ 0 rfl (by decide) (by decide)) Ev.c))) (Ev.sub (Ev.var rfl) Ev.c) (by decide))) ?_
  refine Run.sset (d := .int (48 - max 0 (at_ r0 1 - 12) % 48)) (Ev.sub (Ev.var rfl) (Ev.mod (Ev.int_ (Ev.max_ Ev.c (Ev.sub (sx _ 1 rfl (by decide) (by decide)) Ev.c))) (Ev.var rfl) (by decide))) ?_
  have hm : 2 ≤ 24 - max 0 (at_ r0 0 - 6) % (24 - 1) ∧ 24 - max 0 (at_ r0 0 - 6) % (24 - 1) ≤ 24 := by omega
  have hy : 1 ≤ 48 - max 0 (at_ r0 1 - 12) % 48 ∧ 48 - max 0 (at_ r0 1 - 12) % 48 ≤ 48 := by omega
  generalize 24 - max 0 (at_ r0 0 - 6) % (24 - 1) = mills at hm ⊢
  generalize 48 - max 0 (at_ r0 1 - 12) % 48 = many at hy ⊢
  obtain ⟨m1, m2⟩ := hm
  obtain ⟨y1, y2⟩ := hy
  refine Run.sown (ds := []) rfl (show (9 : Nat) < 21 by decide) (Run.sown (ds := []) rfl (show (10 : Nat) < 21 by decide) (Run.sown (ds := []) rfl (show (11 : Nat) < 21 by decide) ?_))
  refine Run.cut (fun ρ => ∃ (ps : List (Int × Int)) (bs : List Int) (lets : List (List Int)) (a b c : Sl), ps.length = many.toNat ∧ PairsOk mills ps ∧ Bits many.toNat bs ∧ lets.length = many.toNat ∧ (∀ l ∈ lets, l ∈ lets4) ∧ ρ = [.v (.scr ns), .v (.int 6), .v (.int 24), .v (.int 48), .v (.lst (r0.map D.int)), .v (.lst (r1.map D.int)), .v (.lst (r2.map D.int)), .v (.int mills), .v (.int many), .own (ps.map pairD), .own (bs.map D.int), .own (lets.map letD), a, b, c, .no, .no, .no, .no, .no, .no]) ?_ ?_
  · refine Run.for (fun n ρ => ∃ (ps : List (Int × Int)) (bs : List Int) (lets : List (List Int)) (a b c : Sl), ps.length = n ∧ PairsOk mills ps ∧ Bits n bs ∧ lets.length = n ∧ (∀ l ∈ lets, l ∈ lets4) ∧ ρ = [.v (.scr ns), .v (.int 6), .v (.int 24), .v (.int 48), .v (.lst (r0.map D.int)), .v (.lst (r1.map D.int)), .v (.lst (r2.map D.int)), .v (.int mills), .v (.int many), .own (ps.map pairD), .own (bs.map D.int), .own (lets.map letD), a, b, c, .no, .no, .no, .no, .no, .no]) (EvL.range1 (j := many) (Ev.var rfl) (by omega)) ⟨[], [], [], .no, .no, .no, rfl, fun p hp => by simp at hp, ⟨rfl, fun x hx => by simp at hx⟩, rfl, fun l hl => by simp at hl, rfl⟩ (fun k d ρ hd hI => ?_) fun ρ hI => ?_
    · obtain ⟨ps, bs, lets, a, b, c, hp, ok, hb, hl, h4, rfl⟩ := hI
      obtain ⟨rfl, hk⟩ := range0_get hd
      have hc := c1 (k : Int) (by omega) (by omega)
      have cx : ∀ ρ : EV.Env, ρ[5]? = some (.v (.lst (r1.map D.int))) → ρ[12]? = some (.v (.int (k : Nat))) → Ev (v2 ixD (vVar 5) (vVar 12)) ρ (.int (at_ r1 (k : Int))) := fun ρ h5 h12 => Ev.ixM (A := D.int) (Ev.var h5) (Ev.var h12) (by omega) (by omega)
      generalize at_ r1 (k : Int) = code at hc cx
      have hmod : ∀ y : Int, 0 ≤ y % mills ∧ y % mills < mills := fun y => ⟨Int.emod_nonneg _ (by omega), Int.emod_lt_of_pos _ (by omega)⟩
      refine ⟨_, rfl, Run.sset (d := .int (code % 24 % mills)) (Ev.mod (Ev.int_ (Ev.mod (Ev.int_ (cx _ rfl rfl)) Ev.c (by decide))) (Ev.var rfl) (by omega)) (Run.sset (d := .int (code / 24 % 24)) (Ev.mod (Ev.int_ (Ev.fdiv (cx _ rfl rfl) Ev.c (by decide))) Ev.c (by decide)) ?_)⟩
      have hf := hmod (code % 24)
      generalize code % 24 % mills = first at hf ⊢
      generalize code / 24 % 24 = step
      refine Run.cut (fun ρ => ∃ step : Int, ρ = [.v (.scr ns), .v (.int 6), .v (.int 24), .v (.int 48), .v (.lst (r0.map D.int)), .v (.lst (r1.map D.int)), .v (.lst (r2.map D.int)), .v (.int mills), .v (.int many), .own (ps.map pairD), .own (bs.map D.int), .own (lets.map letD), .v (.int (k : Nat)), .v (.int first), .v (.int step), .no, .no, .no, .no, .no, .no]) (Run.ifP (Ev.ge (sx _ 2 rfl (by decide) (by decide)) Ev.c) (fun _ => Run.set (Ev.mod (Ev.int_ (Ev.var rfl)) Ev.c (by decide)) ⟨_, rfl, _, rfl⟩) fun _ => Run.next ⟨_, rfl, _, rfl⟩) ?_
      rintro _ ⟨step, rfl⟩
      refine Run.cut (fun ρ => ∃ first : Int, (0 ≤ first ∧ first < mills) ∧ ρ = [.v (.scr ns), .v (.int 6), .v (.int 24), .v (.int 48), .v (.lst (r0.map D.int)), .v (.lst (r1.map D.int)), .v (.lst (r2.map D.int)), .v (.int mills), .v (.int many), .own (ps.map pairD), .own (bs.map D.int), .own (lets.map letD), .v (.int (k : Nat)), .v (.int first), .v (.int step), .no, .no, .no, .no, .no, .no]) (Run.ifP (Ev.orP (Ev.eqI (sx _ 2 rfl (by decide) (by decide)) Ev.c) fun _ => Ev.eqI (sx _ 2 rfl (by decide) (by decide)) Ev.c) (fun _ => Run.set (Ev.mod (Ev.int_ (Ev.var rfl)) (Ev.var rfl) (by omega)) ⟨_, rfl, _, hmod (k : Nat), rfl⟩) fun _ => Run.next ⟨_, rfl, _, hf, rfl⟩) ?_
      clear hf
      rintro _ ⟨first, hf, rfl⟩
      have hs : 0 ≤ step % (mills - 1) ∧ step % (mills - 1) < mills - 1 := ⟨Int.emod_nonneg _ (by omega), Int.emod_lt_of_pos _ (by omega)⟩
      have hne := mod_ne hf hs
      refine Run.sapp (xs := ps.map pairD) (d := pairD (first, (first + 1 + step % (mills - 1)) % mills)) rfl (Ev.tup (EvL.cons (Ev.var rfl) (EvL.cons (Ev.mod (Ev.int_ (Ev.add (Ev.add (Ev.var rfl) Ev.c) (Ev.mod (Ev.int_ (Ev.var rfl)) (Ev.sub (Ev.var rfl) Ev.c) (by omega)))) (Ev.var rfl) (by omega)) .nil)) (by simp)) (by rw [List.length_map]; omega) ?_
      rw [map_snoc pairD]
      have ok' := ok.snoc (p := (first, (first + 1 + step % (mills - 1)) % mills)) ⟨hf.1, hf.2, hne.1, hne.2.1, hne.2.2⟩
      have hp' : (ps ++ [(first, (first + 1 + step % (mills - 1)) % mills)]).length = k + 1 := by simp [hp]
      generalize ps ++ [(first, (first + 1 + step % (mills - 1)) % mills)] = ps' at ok' hp' ⊢
      have hbl := hb.1
      refine Run.sapp (xs := bs.map D.int) (d := .int (code / 576)) rfl (Ev.fdiv (cx _ rfl rfl) Ev.c (by decide)) (by rw [List.length_map]; omega) ?_
      rw [map_snoc D.int]
      have hbit : code / 576 = 0 ∨ code / 576 = 1 := by omega
      have hb' := hb.snoc hbit
      have hat : at_ (bs ++ [code / 576]) (k : Int) = code / 576 := at_last (by rw [hbl])
      generalize bs ++ [code / 576] = bs' at hb' hat ⊢
      have hbl' := hb'.1
      have e0 : (if at_ r0 3 = 1 ∧ code % 11 = 5 then D.tup [.int (code / 576)] else D.tup [.int 0, .int 1]) = letD (if at_ r0 3 = 1 ∧ code % 11 = 5 then [code / 576] else [0, 1]) := by split <;> rfl
      refine Run.appA (xs := lets.map letD) (d := letD (if at_ r0 3 = 1 ∧ code % 11 = 5 then [code / 576] else [0, 1])) rfl ?_ (pures_map (fun _ => rfl) _) (by rw [List.length_map]; omega) ⟨ps', bs', lets ++ [if at_ r0 3 = 1 ∧ code % 11 = 5 then [code / 576] else [0, 1]], .v (.int (k : Nat)), .v (.int first), .v (.int step), hp', ok', hb', by simp [hl], fun l hm => ?_, by rw [map_snoc letD]; rfl⟩
      · rw [← e0]
        refine Ev.ix2 (d0 := .tup [.int 0, .int 1]) (d1 := .tup [.int (code / 576)]) (Ev.vL (EvL.lenOk (EvL.cons (Ev.tup (EvL.cons Ev.c (EvL.cons Ev.c .nil)) (by simp)) (EvL.cons (Ev.tup (EvL.cons ?_ .nil) (by simp)) .nil)) (by simp))) (Ev.intB (Ev.andP (Ev.eqI (sx _ 3 rfl (by decide) (by decide)) Ev.c) fun _ => Ev.eqI (Ev.mod (Ev.int_ (cx _ rfl rfl)) Ev.c (by decide)) Ev.c))
        rw [← hat]
        exact Ev.ixM (A := D.int) (Ev.var rfl) (Ev.var rfl) (by omega) (by omega)
      · rcases List.mem_append.mp hm with hm | hm
        · exact h4 l hm
        · rw [List.mem_singleton.mp hm]
          split
          · rcases hbit with e | e <;> rw [e] <;> decide
          · decide
    · obtain ⟨ps, bs, lets, a, b, c, hp, ok, hb, hl, h4, rfl⟩ := hI
      rw [rangeD_length] at hp hb hl
      exact ⟨_, rfl, ps, bs, lets, a, b, c, hp, ok, hb, hl, h4, rfl⟩
  rintro _ ⟨ps, bs, lets, a, b, c, hp, ok, hb, hl, h4, rfl⟩
  rw [← hp] at hb hl
  obtain ⟨cs, hc, nn⟩ := law_fed_ok mills ps bs (.lst (bs.map D.int)) (by omega) (by omega) ok (by omega) hb (.inl rfl)
  refine Run.srel (Run.srel (Run.sset (Ev.callP (ds := [.int mills, .lst (ps.map pairD), .lst (bs.map D.int)]) (EvL.cons (Ev.var rfl) (EvL.cons (Ev.var rfl) (EvL.cons (Ev.var rfl) .nil))) EvL.nil ⟨rfl, rfl⟩ hc) ?_))
  refine Run.sown (ds := []) rfl (show (16 : Nat) < 21 by decide) (Run.sown (ds := []) rfl (show (17 : Nat) < 21 by decide) ?_)
  have hcs : cs.length = mills.toNat := nn.1
  refine Run.cut (fun ρ => ∃ (low : List Int) (hi : List (Option Int)) (x y z : Sl), NNs mills.toNat low ∧ hi.length = mills.toNat ∧ (∀ h ∈ hi, Pos h) ∧ ρ = [.v (.scr ns), .v (.int 6), .v (.int 24), .v (.int 48), .v (.lst (r0.map D.int)), .v (.lst (r1.map D.int)), .v (.lst (r2.map D.int)), .v (.int mills), .v (.int many), .v (.lst (ps.map pairD)), .v (.lst (bs.map D.int)), .own (lets.map letD), a, b, c, .v (.lst (cs.map D.int)), .own (low.map D.int), .own (hi.map optD), x, y, z]) ?_ ?_
  · refine Run.for (fun n ρ => ∃ (low : List Int) (hi : List (Option Int)) (x y z : Sl), NNs n low ∧ hi.length = n ∧ (∀ h ∈ hi, Pos h) ∧ ρ = [.v (.scr ns), .v (.int 6), .v (.int 24), .v (.int 48), .v (.lst (r0.map D.int)), .v (.lst (r1.map D.int)), .v (.lst (r2.map D.int)), .v (.int mills), .v (.int many), .v (.lst (ps.map pairD)), .v (.lst (bs.map D.int)), .own (lets.map letD), a, b, c, .v (.lst (cs.map D.int)), .own (low.map D.int), .own (hi.map optD), x, y, z]) (EvL.range1 (j := mills) (Ev.var rfl) (by omega)) ⟨[], [], .no, .no, .no, ⟨rfl, fun c hc => by simp at hc⟩, rfl, fun c hc => by simp at hc, rfl⟩ (fun j d ρ hd hI => ?_) fun ρ hI => ?_
    · obtain ⟨low, hi, x, y, z, nl, hh, hp1, rfl⟩ := hI
      obtain ⟨rfl, hj⟩ := range0_get hd
      have hr2 := c2 (j : Int) (by omega) (by omega)
      have bx : ∀ ρ : EV.Env, ρ[6]? = some (.v (.lst (r2.map D.int))) → ρ[18]? = some (.v (.int (j : Nat))) → Ev (v2 ixD (vVar 6) (vVar 18)) ρ (.int (at_ r2 (j : Int))) := fun ρ h5 h12 => Ev.ixM (A := D.int) (Ev.var h5) (Ev.var h12) (by omega) (by omega)
      have kx : ∀ ρ : EV.Env, ρ[15]? = some (.v (.lst (cs.map D.int))) → ρ[18]? = some (.v (.int (j : Nat))) → Ev (v2 ixD (vVar 15) (vVar 18)) ρ (.int (at_ cs (j : Int))) := fun ρ h5 h12 => Ev.ixM (A := D.int) (Ev.var h5) (Ev.var h12) (by omega) (by omega)
      have cj := nn.at (k := (j : Int)) (by omega) (by omega)
      generalize at_ r2 (j : Int) = bd at hr2 bx
      generalize at_ cs (j : Int) = cnt at cj kx
      have ls : tbSl.length = 8 := rfl
      have lt : tbBo.length = 8 := rfl
      obtain ⟨sl, hsl, _⟩ := tbl_get (tb := tbSl) (fun _ => true) (by decide) (i := bd % 8) (by omega)
      obtain ⟨tp, htp, ptp⟩ := tblO_get (tb := tbBo) (by decide) (i := bd / 8) (by omega)
      refine ⟨_, rfl, Run.sset (Ev.ixL (ds := tbSl) (i := bd % 8) rfl (Ev.mod (Ev.int_ (bx _ rfl rfl)) Ev.c (by decide)) (by omega) hsl) (Run.sset (Ev.ixL (ds := tbBo) (i := bd / 8) rfl (Ev.fdiv (bx _ rfl rfl) Ev.c (by decide)) (by omega) htp) ?_)⟩
      refine Run.cut (fun ρ => ∃ t : Option Int, Pos t ∧ ρ = [.v (.scr ns), .v (.int 6), .v (.int 24), .v (.int 48), .v (.lst (r0.map D.int)), .v (.lst (r1.map D.int)), .v (.lst (r2.map D.int)), .v (.int mills), .v (.int many), .v (.lst (ps.map pairD)), .v (.lst (bs.map D.int)), .own (lets.map letD), a, b, c, .v (.lst (cs.map D.int)), .own (low.map D.int), .own (hi.map optD), .v (.int (j : Nat)), .v (.int sl), .v (optD t)]) (Run.ifP (Ev.ge (sx _ 3 rfl (by decide) (by decide)) Ev.c) (fun _ => Run.set (d := .non) Ev.c ⟨_, rfl, none, fun x e => (by cases e), rfl⟩) fun _ => Run.next ⟨_, rfl, tp, ptp, rfl⟩) ?_
      rintro _ ⟨t, pt, rfl⟩
      refine Run.sapp (xs := low.map D.int) (d := .int (max 0 (cnt - sl))) rfl (Ev.max_ Ev.c (Ev.sub (kx _ rfl rfl) (Ev.var rfl))) (by rw [List.length_map, nl.1]; omega) ?_
      rw [map_snoc D.int]
      have nl1 := nl.snoc (c := max 0 (cnt - sl)) (by omega)
      generalize low ++ [max 0 (cnt - sl)] = low1 at nl1 ⊢
      refine Run.cut (fun ρ => ∃ t : Option Int, Pos t ∧ ρ = [.v (.scr ns), .v (.int 6), .v (.int 24), .v (.int 48), .v (.lst (r0.map D.int)), .v (.lst (r1.map D.int)), .v (.lst (r2.map D.int)), .v (.int mills), .v (.int many), .v (.lst (ps.map pairD)), .v (.lst (bs.map D.int)), .own (lets.map letD), a, b, c, .v (.lst (cs.map D.int)), .own (low1.map D.int), .own (hi.map optD), .v (.int (j : Nat)), .v (.int sl), .v (optD t)]) ?_ ?_
      · cases t with
        | none => exact Run.ifP (P := False) (iP := instDecidableFalse) rfl (fun h => h.elim) fun h => Run.next ⟨_, rfl, none, pt, rfl⟩
        | some v =>
          have hv := pt v rfl
          exact Run.ifP (P := True) (iP := instDecidableTrue) rfl (fun h => Run.set (d := .int (cnt + v)) (Ev.add (kx _ rfl rfl) (Ev.var rfl)) ⟨_, rfl, some (cnt + v), fun x e => by cases e; omega, rfl⟩) fun h => (h trivial).elim
      rintro _ ⟨t, pt, rfl⟩
      refine Run.app (xs := hi.map optD) (d := optD t) rfl (Ev.var rfl) (by rw [List.length_map, hh]; omega) ⟨low1, hi ++ [t], .v (.int (j : Nat)), .v (.int sl), .v (optD t), nl1, by simp [hh], fun h hm => ?_, by rw [← map_snoc optD]; rfl⟩
      rcases List.mem_append.mp hm with hm | hm
      · exact hp1 h hm
      · rw [List.mem_singleton.mp hm]; exact pt
    · obtain ⟨low, hi, x, y, z, nl, hh, hp1, rfl⟩ := hI
      rw [rangeD_length] at nl hh
      exact ⟨_, rfl, low, hi, x, y, z, nl, hh, hp1, rfl⟩
  rintro _ ⟨low, hi, x, y, z, nl, hh, hp1, rfl⟩
  refine Run.rel (Run.rel (Run.rel (Run.rel (Run.rel (Run.ret (d := .lst [wD mills ps low hi lets [], letD bs]) ?_ ⟨mills, ps, low, hi, lets, bs, rfl, ⟨by omega, by omega, by omega, ok, nl, hh, hp1, hl, h4⟩, hb⟩)))))
  exact Ev.vL (EvL.lenOk (EvL.cons (Ev.vL (EvL.lenOk (EvL.cons (Ev.var rfl) (EvL.cons (Ev.var rfl) (EvL.cons (Ev.var rfl) (EvL.cons (Ev.var rfl) (EvL.cons (Ev.var rfl) .nil))))) (by simp))) (EvL.cons (Ev.tupleL (Ev.var rfl)) .nil)) (by simp))
end LW
end

section
set_option maxHeartbeats 4000000
namespace LW
open PySem L2 EV
local macro_rules | `(tactic| get_elem_tactic_extensible) => `(tactic| first
  | ((with_reducible apply Ev.var); exact rfl)
  | with_reducible exact Ev.c
  | assumption
  | ((with_reducible apply Ev.add) <;> get_elem_tactic_extensible)
  | ((with_reducible apply Ev.sub) <;> get_elem_tactic_extensible)
  | ((with_reducible apply Ev.mulR) <;> get_elem_tactic_extensible)
  | ((with_reducible apply Ev.mulL) <;> get_elem_tactic_extensible)
  | ((with_reducible apply Ev.mod) <;> get_elem_tactic_extensible)
  | ((with_reducible apply Ev.fdiv) <;> get_elem_tactic_extensible)
  | ((with_reducible apply Ev.pow) <;> get_elem_tactic_extensible)
  | ((with_reducible apply Ev.neg) <;> get_elem_tactic_extensible)
  | ((with_reducible apply Ev.lt) <;> get_elem_tactic_extensible)
  | ((with_reducible apply Ev.le) <;> get_elem_tactic_extensible)
  | ((with_reducible apply Ev.gt) <;> get_elem_tactic_extensible)
  | ((with_reducible apply Ev.ge) <;> get_elem_tactic_extensible)
  | ((with_reducible apply Ev.eqI) <;> get_elem_tactic_extensible)
  | ((with_reducible apply Ev.neI) <;> get_elem_tactic_extensible)
  | ((with_reducible apply Ev.isN) <;> get_elem_tactic_extensible)
  | ((with_reducible apply Ev.notN) <;> get_elem_tactic_extensible)
  | ((with_reducible apply Ev.notP) <;> get_elem_tactic_extensible)
  | ((with_reducible apply Ev.andP) <;> get_elem_tactic_extensible)
  | ((with_reducible apply Ev.orP) <;> get_elem_tactic_extensible)
  | ((with_reducible apply Ev.int_) <;> get_elem_tactic_extensible)
  | ((with_reducible apply Ev.intB) <;> get_elem_tactic_extensible)
  | ((with_reducible apply Ev.lenL) <;> get_elem_tactic_extensible)
  | ((with_reducible apply Ev.lenT) <;> get_elem_tactic_extensible)
  | ((with_reducible apply Ev.lenS) <;> get_elem_tactic_extensible)
  | ((with_reducible apply Ev.min_) <;> get_elem_tactic_extensible)
  | ((with_reducible apply Ev.max_) <;> get_elem_tactic_extensible)
  | ((with_reducible apply Ev.abs_) <;> get_elem_tactic_extensible)
  | ((with_reducible apply Ev.tupleL) <;> get_elem_tactic_extensible)
  | ((with_reducible apply Ev.tupleT) <;> get_elem_tactic_extensible)
  | ((with_reducible apply EvL.listL) <;> get_elem_tactic_extensible)
  | ((with_reducible apply EvL.listT) <;> get_elem_tactic_extensible)
  | ((with_reducible apply Ev.ixL) <;> get_elem_tactic_extensible)
  | ((with_reducible apply Ev.ixT) <;> get_elem_tactic_extensible)
  | ((with_reducible apply Ev.ixM) <;> get_elem_tactic_extensible)
  | ((with_reducible apply Ev.ixMT) <;> get_elem_tactic_extensible)
  | ((with_reducible apply Ev.tup) <;> get_elem_tactic_extensible)
  | ((with_reducible apply Ev.vL) <;> get_elem_tactic_extensible)
  | with_reducible exact EvL.nil
  | ((with_reducible apply EvL.cons) <;> get_elem_tactic_extensible)
  | ((with_reducible apply EvL.lenOk) <;> get_elem_tactic_extensible)
  | ((with_reducible apply EvL.range1) <;> get_elem_tactic_extensible)
  | ((with_reducible apply EvL.seqL) <;> get_elem_tactic_extensible)
  | ((with_reducible apply EvL.seqT) <;> get_elem_tactic_extensible)
  | ((with_reducible apply EvL.seqS) <;> get_elem_tactic_extensible)
  | (intro; get_elem_tactic_extensible)
  | exact (show GetElem?.getElem? (List.cons _ _) _ = some _ from rfl)
  | omega
  | (simp only [List.length_map, List.length_append, List.length_replicate, List.length_cons, List.length_nil, List.length_range] <;> omega))
theorem rep1 (b : D) : ∀ k : Nat, (List.replicate k [b]).flatten = List.replicate k b
  | 0 => rfl
  | k + 1 => by rw [List.replicate_succ, List.flatten_cons, rep1 b k, List.replicate_succ]; rfl
theorem szRep {n : Nat} (hn : n ≤ 1000) : szOk (List.replicate n 540) = true := by
  unfold szOk
  rw [Bool.and_eq_true]
  refine ⟨List.all_eq_true.mpr fun s hs => ?_, decide_eq_true (by rw [List.length_replicate]; exact hn)⟩
  rw [(List.mem_replicate.mp hs).2]
  decide
theorem rep540 {f : FE} {ρ : EV.Env} {i : Int} (h : Ev f ρ (.int i)) (h0 : 0 ≤ i) (h1 : i ≤ 1000) : Ev (vL (nRep (vL (lenOk (aCons (vC (.int 540)) (aNil)))) f)) ρ (.lst ((List.replicate i.toNat 540).map D.int)) := by
  have z := EvL.rep (fa := vL (lenOk (aCons (vC (.int 540)) (aNil)))) (ρ := ρ) (ds := [.int 540]) (Ev.vL (EvL.lenOk (EvL.cons Ev.c .nil) (by simp))) h ⟨h0, by omega, by simp; omega⟩
  rw [rep1] at z
  rw [List.map_replicate]
  exact Ev.vL z
theorem EvL.rev {f : FE} {ρ : EV.Env} {ds : List D} (h : Ev f ρ (.lst ds)) : EvL (nRev f) ρ ds.reverse := by
  unfold EvL nRev
  rw [h]
  rfl
def szM : List Int := [5, 41, 41, 4, 4, 8, 2, 2, 2, 4, 3456, 32]
theorem law_ok (ns : List Int) : sem_law [.scr ns] = some (.ok (.bl true)) := by
  suffices H : Run g_law [.v (.scr ns), .no, .no, .no, .no, .no, .no, .no, .no, .no, .no, .no, .no, .no, .no] (Ret fun d => d = .bl true) by
    obtain ⟨d, h, rfl⟩ := sem_ret (n := 15) (ds := [.scr ns]) H
    exact h
  obtain ⟨r, e0, ro⟩ := dig_cell (fs := vVar 0) (fk := vC (.int 2)) (fz := vL (lenOk (aCons (vC (.int 5)) (aCons (vC (.int 41)) (aCons (vC (.int 41)) (aCons (vC (.int 4)) (aCons (vC (.int 4)) (aCons (vC (.int 8)) (aCons (vC (.int 2)) (aCons (vC (.int 2)) (aCons (vC (.int 2)) (aCons (vC (.int 4)) (aCons (vC (.int 3456)) (aCons (vC (.int 32)) (aNil))))))))))))))) (ρ := [.v (.scr ns), .no, .no, .no, .no, .no, .no, .no, .no, .no, .no, .no, .no, .no, .no]) szM (Ev.var rfl) Ev.c (by decide) rfl (by decide)
  refine Run.sset e0 ?_
  clear e0
  have l0 : r.length = 12 := ro.1
  have rx : ∀ (ρ : EV.Env) (k : Int), ρ[1]? = some (.v (.lst (r.map D.int))) → 0 ≤ k → k < 12 → Ev (v2 ixD (vVar 1) (vC (.int k))) ρ (.int (at_ r k)) := fun ρ k h h0 h1 => Ev.ixM (A := D.int) (Ev.var h) Ev.c h0 (by omega)
  have b1 : 0 ≤ at_ r 1 ∧ at_ r 1 < 41 := ro.2 1 (by decide) (by omega)
  have b2 : 0 ≤ at_ r 2 ∧ at_ r 2 < 41 := ro.2 2 (by decide) (by omega)
  have b10 : 0 ≤ at_ r 10 ∧ at_ r 10 < 3456 := ro.2 10 (by decide) (by omega)
  have cell : ∀ (ρ : EV.Env) (k : Int), ρ[0]? = some (.v (.scr ns)) → 0 ≤ k → ∃ z : Int, Ev (vCallP 2 0 [0, 1] sem_law_cell [] (aCons (vVar 0) (aCons (vC (.int k)) (aNil))) (aNil)) ρ (.int z) := fun ρ k h h0 => by
    obtain ⟨z, hz⟩ := law_cell_ok ns k h0
    exact ⟨z, Ev.callP (EvL.cons (Ev.var h) (EvL.cons Ev.c .nil)) .nil ⟨rfl, rfl⟩ hz⟩
  refine Run.cut (fun ρ => ∃ (mills : Int) (ps : List (Int × Int)) (low : List Int) (high : List (Option Int)) (lets : List (List Int)) (bs os : List Int) (a b c d : Sl), WOk mills ps low high lets ∧ Bits ps.length bs ∧ Bits ps.length os ∧ ρ = [.v (.scr ns), .v (.lst (r.map D.int)), a, .v (wD mills ps low high lets []), .v (letD bs), .v (letD os), b, c, d, .no, .no, .no, .no, .no, .no]) ?_ ?_
  · refine Run.ifP (Ev.eqI (rx _ 0 rfl (by decide) (by decide)) Ev.c) (fun _ => ?_) fun _ => ?_
    · obtain ⟨mills, ps, low, high, lets, bs, hf, w, hb⟩ := law_far_ok ns
      have pl := w.pl
      refine Run.sset (Ev.callP (EvL.cons (Ev.var rfl) (EvL.cons Ev.c (EvL.cons Ev.c (EvL.cons Ev.c .nil)))) .nil ⟨rfl, rfl⟩ hf) ?_
      refine Run.sset (d := wD mills ps low high lets []) (Ev.ixL (Ev.var rfl) Ev.c (by decide) rfl) (Run.sset (d := letD bs) (Ev.ixL (Ev.var rfl) Ev.c (by decide) rfl) (Run.sset (d := letD bs) (Ev.var rfl) ?_))
      refine Run.for (fun n ρ => ∃ os b, Bits ps.length os ∧ ρ = [.v (.scr ns), .v (.lst (r.map D.int)), .v (.lst [wD mills ps low high lets [], letD bs]), .v (wD mills ps low high lets []), .v (letD bs), .v (letD os), b, .no, .no, .no, .no, .no, .no, .no, .no]) (range_n (n := ps.length) (by
        have z := Ev.lenT (fa := vVar 4) (ρ := [.v (.scr ns), .v (.lst (r.map D.int)), .v (.lst [wD mills ps low high lets [], letD bs]), .v (wD mills ps low high lets []), .v (letD bs), .v (letD bs), .no, .no, .no, .no, .no, .no, .no, .no, .no]) (ds := bs.map D.int) (Ev.var rfl)
        rw [List.length_map, hb.1] at z
        exact z) (by omega)) ⟨bs, .no, hb, rfl⟩ (fun k d ρ hd hI => ?_) fun ρ hI => ?_
      · obtain ⟨os, b, ho, rfl⟩ := hI
        obtain ⟨rfl, hk⟩ := range0_get hd
        refine ⟨_, rfl, ?_⟩
        obtain ⟨z, hz⟩ := cell [.v (.scr ns), .v (.lst (r.map D.int)), .v (.lst [wD mills ps low high lets [], letD bs]), .v (wD mills ps low high lets []), .v (letD bs), .v (letD os), .v (.int (k : Nat)), .no, .no, .no, .no, .no, .no, .no, .no] 9 rfl (by decide)
        exact Run.ifP (Ev.eqI (Ev.mod (Ev.int_ (Ev.fdiv (Ev.int_ hz) (Ev.add (Ev.var rfl) Ev.c) (by omega))) Ev.c (by decide)) Ev.c) (fun _ => Run.set (d := letD (turnL os (k : Int))) (Ev.callP (EvL.cons (Ev.var rfl) (EvL.cons (Ev.var rfl) .nil)) .nil ⟨rfl, rfl⟩ (law_turn_eq ho (by omega) (by omega) (by omega))) ⟨turnL os (k : Int), _, turnL_bits ho (by omega) (by omega), rfl⟩) fun _ => Run.next ⟨os, _, ho, rfl⟩
      · obtain ⟨os, b, ho, rfl⟩ := hI
        exact ⟨_, rfl, mills, ps, low, high, lets, bs, os, _, _, _, _, w, hb, ho, rfl⟩
    · obtain ⟨mills, ps, low, high, lets, he, wr⟩ := law_either_ok ns 0 (at_ r 6) (by decide)
      refine Run.sset (Ev.callP (EvL.cons (Ev.var rfl) (EvL.cons Ev.c (EvL.cons (rx _ 6 rfl (by decide) (by decide)) .nil))) .nil ⟨rfl, rfl⟩ he) ?_
      clear he
      refine Run.cut (fun ρ => ∃ (mills : Int) (ps : List (Int × Int)) (low : List Int) (high : List (Option Int)) (lets : List (List Int)), WR mills ps low high lets ∧ ρ = [.v (.scr ns), .v (.lst (r.map D.int)), .no, .v (wD mills ps low high lets []), .no, .no, .no, .no, .no, .no, .no, .no, .no, .no, .no]) ?_ ?_
      · refine Run.ifP (Ev.eqI (rx _ 8 rfl (by decide) (by decide)) Ev.c) (fun _ => ?_) fun _ => Run.next ⟨_, rfl, mills, ps, low, high, lets, wr, rfl⟩
        exact Run.set (Ev.callP (EvL.cons (Ev.var rfl) .nil) .nil ⟨rfl, rfl⟩ (law_loosened_ok wr.w [])) ⟨_, rfl, _, _, _, _, _, loose_wr wr, rfl⟩
      clear wr mills ps low high lets
      rintro _ ⟨mills, ps, low, high, lets, wr, rfl⟩
      have p7 := wr.p7
      have hr := law_running_ok wr.w p7 []
      have hl := fun z => law_lively_ok wr [] z
      have hpos := wr.ready
      have hlen := readyL_len (mills := mills) (low := low) (high := high) (lets := lets) p7
      have hbits := readyL_bits (mills := mills) (ps := ps) (low := low) (high := high) (lets := lets)
      refine Run.sset (Ev.callP (EvL.cons (Ev.var rfl) .nil) .nil ⟨rfl, rfl⟩ hr) ?_
      refine Run.sset (d := .lst ((allS ps.length).map letD)) (Ev.callP (ds := [.int (ps.length : Nat)]) (EvL.cons (by
        have z := Ev.lenL (wD_ix (k := 3) (ρ := [.v (.scr ns), .v (.lst (r.map D.int)), .no, .v (wD mills ps low high lets []), .no, .no, .no, .v (.lst ((readyL mills ps low high lets).map letD)), .no, .no, .no, .no, .no, .no, .no]) (mills := mills) (ps := ps) (low := low) (high := high) (lets := lets) (rest := []) rfl).2.1
        rw [List.length_map] at z
        exact z) .nil) .nil ⟨rfl, rfl⟩ (law_settings_eq ps.length p7)) ?_
      have alen : (allS ps.length).length ≤ 128 := by
        rw [allS_len]
        exact Nat.pow_le_pow_right (n := 2) (j := 7) (by decide) p7
      have apos : 0 < (allS ps.length).length := by
        rw [allS_len]
        exact Nat.pow_pos (by decide)
      have abits := allS_bits ps.length
      generalize readyL mills ps low high lets = rs at hpos hlen hbits hl ⊢
      refine Run.cut (fun ρ => ∃ es : List (List Int), 0 < es.length ∧ (∀ l ∈ es, Bits ps.length l) ∧ ρ = [.v (.scr ns), .v (.lst (r.map D.int)), .no, .v (wD mills ps low high lets []), .no, .no, .no, .v (.lst (rs.map letD)), .v (.lst (es.map letD)), .no, .no, .no, .no, .no, .no]) ?_ ?_
      · exact Run.ifP (Ev.eqI (rx _ 7 rfl (by decide) (by decide)) Ev.c) (fun _ => Run.set (d := .lst (rs.map letD)) (Ev.var rfl) ⟨_, rfl, rs, hpos, hbits, rfl⟩) fun _ => Run.next ⟨_, rfl, allS ps.length, apos, abits, rfl⟩
      rintro _ ⟨es, epos, ebits, rfl⟩
      obtain ⟨z3, h3⟩ := cell [.v (.scr ns), .v (.lst (r.map D.int)), .no, .v (wD mills ps low high lets []), .no, .no, .no, .v (.lst (rs.map letD)), .v (.lst (es.map letD)), .no, .no, .no, .no, .no, .no] 3 rfl (by decide)
      obtain ⟨bs, hbs, hb⟩ := hl z3
      refine Run.sset (d := letD bs) (Ev.callP (EvL.cons (Ev.var rfl) (EvL.cons (Ev.var rfl) (EvL.cons h3 .nil))) .nil ⟨rfl, rfl⟩ hbs) ?_
      obtain ⟨z4, h4⟩ := cell [.v (.scr ns), .v (.lst (r.map D.int)), .no, .v (wD mills ps low high lets []), .v (letD bs), .no, .no, .v (.lst (rs.map letD)), .v (.lst (es.map letD)), .no, .no, .no, .no, .no, .no] 4 rfl (by decide)
      have hm : 0 ≤ z4 % (es.length : Int) ∧ z4 % (es.length : Int) < es.length := ⟨Int.emod_nonneg _ (by omega), Int.emod_lt_of_pos _ (by omega)⟩
      refine Run.set (d := letD (at_ es (z4 % (es.length : Int)))) (Ev.ixM (A := letD) (Ev.var rfl) (Ev.mod (Ev.int_ h4) (by
        have z := Ev.lenL (fa := vVar 8) (ρ := [.v (.scr ns), .v (.lst (r.map D.int)), .no, .v (wD mills ps low high lets []), .v (letD bs), .no, .no, .v (.lst (rs.map letD)), .v (.lst (es.map letD)), .no, .no, .no, .no, .no, .no]) (ds := es.map letD) (Ev.var rfl)
        rw [List.length_map] at z
        exact z) (by omega)) hm.1 hm.2) ⟨_, rfl, mills, ps, low, high, lets, bs, _, _, _, _, _, wr.w, hb, ebits _ (at_mem hm.1 hm.2), rfl⟩
  rintro _ ⟨mills, ps, low, high, lets, bs, os, a, b, c, d, w, hb, ho, rfl⟩
  refine Run.sset (Ev.callP (EvL.cons (Ev.var rfl) .nil) .nil ⟨rfl, rfl⟩ (law_season_ok [] w)) ?_
  have asked := fun (st row : List Int) (h1 : Bits ps.length st) (h2 : RowIn ps.length row) (h3 : row.length ≤ 80000) (kind : Int) => law_asked_ok w [] h1 h2 h3 kind
  have turns := fun (st : List Int) (h1 : Bits ps.length st) (ds : List Int) (h3 : ds.length ≤ 1000) => law_drawn_turns_ok w [] h1 ds h3
  have barred := fun z z0 => law_barred_ok w [] z z0
  have sib := fun (low1 : List Int) (high1 : List (Option Int)) (lets1 : List (List Int)) (w1 : WOk mills ps low1 high1 lets1) => law_sibling_ok [] (low0 := low) (high0 := high) (lets0 := lets) w1
  have asked1 := fun (low1 : List Int) (high1 : List (Option Int)) (lets1 : List (List Int)) (w1 : WOk mills ps low1 high1 lets1) (st row : List Int) (h1 : Bits ps.length st) (h2 : RowIn ps.length row) (h3 : row.length ≤ 80000) (kind : Int) => law_asked_ok w1 [] h1 h2 h3 kind
  generalize wD mills ps low high lets [] = W at asked turns barred ⊢
  generalize seasonD (landD mills ps) low high lets = S at asked sib ⊢
  obtain ⟨dg, e1, ro1⟩ := dig_cell (fs := vVar 0) (fk := vC (.int 5)) (fz := vL (nRep (vL (lenOk (aCons (vC (.int 540)) (aNil)))) (v2 ixD (vVar 1) (vC (.int 1))))) (ρ := [.v (.scr ns), .v (.lst (r.map D.int)), a, .v W, .v (letD bs), .v (letD os), b, c, d, .v S, .no, .no, .no, .no, .no]) (List.replicate (at_ r 1).toNat 540) (Ev.var rfl) Ev.c (by decide) (rep540 (rx _ 1 rfl (by decide) (by decide)) b1.1 (by omega)) (szRep (by omega))
  refine Run.sset e1 ?_
  have ld : dg.length ≤ 40 := by
    have z := ro1.1
    rw [List.length_replicate] at z
    omega
  clear e1 ro1
  refine Run.cut (fun ρ => ∃ dg : List Int, dg.length ≤ 40 ∧ ρ = [.v (.scr ns), .v (.lst (r.map D.int)), a, .v W, .v (letD bs), .v (letD os), b, c, d, .v S, .v (.lst (dg.map D.int)), .no, .no, .no, .no]) ?_ ?_
  · refine Run.ifP (Ev.eqI (rx _ 11 rfl (by decide) (by decide)) Ev.c) (fun _ => ?_) fun _ => Run.next ⟨_, rfl, dg, ld, rfl⟩
    have q0 := EvL.lc (fi := iSeq (vVar 10)) (fg := nmG 14) (ft := vYes) (fe := v2 mulD (v2 fdivD (vVar 14) (vC (.int 9))) (vC (.int 9))) (vs := [14]) (ρ := [.v (.scr ns), .v (.lst (r.map D.int)), a, .v W, .v (letD bs), .v (letD os), b, c, d, .v S, .v (.lst (dg.map D.int)), .no, .no, .no, .no]) dg D.int (fun x => some (.int (x / 9 * 9))) (EvL.seqL (Ev.var rfl)) (by omega) fun x hx => item_yes (ρ1 := [.v (.scr ns), .v (.lst (r.map D.int)), maskS a, .v W, .v (letD bs), .v (letD os), maskS b, maskS c, maskS d, .v S, .v (.lst (dg.map D.int)), .no, .no, .no, .v (.int x)]) rfl (Ev.mulR (Ev.fdiv (Ev.var rfl) Ev.c (by decide)) Ev.c (by decide))
    rw [filterMap_some, show dg.map (fun x => D.int (x / 9 * 9)) = (dg.map fun x => x / 9 * 9).map D.int by rw [List.map_map]; rfl] at q0
    exact Run.set (Ev.vL q0) ⟨_, rfl, dg.map fun x => x / 9 * 9, by rw [List.length_map]; exact ld, rfl⟩
  clear ld dg
  rintro _ ⟨dg, ld, rfl⟩
  obtain ⟨row, hrow, hin, hle⟩ := turns bs hb dg (by omega)
  refine Run.sset (d := .lst (row.map D.int)) (Ev.callP (EvL.cons (Ev.var rfl) (EvL.cons (Ev.var rfl) (EvL.cons (Ev.var rfl) .nil))) .nil ⟨rfl, rfl⟩ hrow) ?_
  clear hrow
  refine Run.cut (fun ρ => ∃ row : List Int, RowIn ps.length row ∧ row.length ≤ 80000 ∧ ρ = [.v (.scr ns), .v (.lst (r.map D.int)), a, .v W, .v (letD bs), .v (letD os), b, c, d, .v S, .v (.lst (dg.map D.int)), .v (.lst (row.map D.int)), .no, .no, .no]) ?_ ?_
  · refine Run.ifP (Ev.eqI (rx _ 11 rfl (by decide) (by decide)) Ev.c) (fun _ => ?_) fun _ => Run.next ⟨_, rfl, row, hin, by omega, rfl⟩
    have hl40 : row.length ≤ 40 := by omega
    have hq : 0 ≤ 600 / max 1 (row.length : Int) ∧ (row.length : Int) * (600 / max 1 (row.length : Int)) ≤ 600 ∧ 600 / max 1 (row.length : Int) ≤ 600 := by
      have p0 : (0 : Int) < max 1 (row.length : Int) := by omega
      have q0 : 0 ≤ 600 / max 1 (row.length : Int) := Int.ediv_nonneg (by decide) (by omega)
      have q1 : max 1 (row.length : Int) * (600 / max 1 (row.length : Int)) ≤ 600 := Int.mul_ediv_self_le (by omega)
      have q2 : (row.length : Int) * (600 / max 1 (row.length : Int)) ≤ max 1 (row.length : Int) * (600 / max 1 (row.length : Int)) := Int.mul_le_mul_of_nonneg_right (by omega) q0
      have q3 : 1 * (600 / max 1 (row.length : Int)) ≤ max 1 (row.length : Int) * (600 / max 1 (row.length : Int)) := Int.mul_le_mul_of_nonneg_right (by omega) q0
      omega
    have lenE : Ev (vCall lenD (aCons (vVar 11) (aNil))) [.v (.scr ns), .v (.lst (r.map D.int)), a, .v W, .v (letD bs), .v (letD os), b, c, d, .v S, .v (.lst (dg.map D.int)), .v (.lst (row.map D.int)), .no, .no, .no] (.int (row.length : Nat)) := by
      have z := Ev.lenL (fa := vVar 11) (ρ := [.v (.scr ns), .v (.lst (r.map D.int)), a, .v W, .v (letD bs), .v (letD os), b, c, d, .v S, .v (.lst (dg.map D.int)), .v (.lst (row.map D.int)), .no, .no, .no]) (ds := row.map D.int) (Ev.var rfl)
      rw [List.length_map] at z
      exact z
    have hmul : (row.map D.int ++ (row.map D.int).reverse).length * (1 + 600 / max 1 (row.length : Int)).toNat ≤ 2000 := by
      have e1 : (row.map D.int ++ (row.map D.int).reverse).length = 2 * row.length := by simp; omega
      rw [e1]
      have e2 : ((2 * row.length * (1 + 600 / max 1 (row.length : Int)).toNat : Nat) : Int) ≤ 2000 := by
        rw [Int.natCast_mul, Int.toNat_of_nonneg (by omega), Int.natCast_mul]
        generalize 600 / max 1 (row.length : Int) = q at hq ⊢
        have e3 : ((2 : Nat) : Int) * (row.length : Int) * (1 + q) = 2 * (row.length : Int) + 2 * ((row.length : Int) * q) := by
          rw [Int.mul_add, Int.mul_assoc, Int.mul_one, Int.mul_assoc]
          rfl
        rw [e3]
        omega
      omega
    have hrep := EvL.rep (fa := vL (nAdd (vVar 11) (vL (nRev (vVar 11))))) (fb := v2 addD (vC (.int 1)) (v2 fdivD (vC (.int 600)) (vCall maxD (aCons (vC (.int 1)) (aCons (vCall lenD (aCons (vVar 11) (aNil))) (aNil)))))) (Ev.vL (EvL.add (Ev.var (d := .lst (row.map D.int)) rfl) (Ev.vL (EvL.rev (Ev.var rfl))) (by simp; omega))) (Ev.add Ev.c (Ev.fdiv Ev.c (Ev.max_ Ev.c lenE) (by omega))) ⟨by omega, by omega, by omega⟩
    have ef : (List.replicate (1 + 600 / max 1 (row.length : Int)).toNat (row.map D.int ++ (row.map D.int).reverse)).flatten = (List.replicate (1 + 600 / max 1 (row.length : Int)).toNat (row ++ row.reverse)).flatten.map D.int := by
      rw [List.map_flatten, List.map_replicate, List.map_append, List.map_reverse]
    have hlenf : ((List.replicate (1 + 600 / max 1 (row.length : Int)).toNat (row ++ row.reverse)).flatten).length ≤ 2000 := by
      rw [List.length_flatten, List.map_replicate, List.sum_replicate_nat]
      have e1 : (row.map D.int ++ (row.map D.int).reverse).length = (row ++ row.reverse).length := by simp
      rw [e1, Nat.mul_comm] at hmul
      exact hmul
    have hinf : RowIn ps.length (List.replicate (1 + 600 / max 1 (row.length : Int)).toNat (row ++ row.reverse)).flatten := fun x hx => by
      obtain ⟨l, hl, hx⟩ := List.mem_flatten.mp hx
      rw [(List.mem_replicate.mp hl).2] at hx
      rcases List.mem_append.mp hx with hx | hx
      · exact hin x hx
      · exact hin x (List.mem_reverse.mp hx)
    rw [ef] at hrep
    generalize (List.replicate (1 + 600 / max 1 (row.length : Int)).toNat (row ++ row.reverse)).flatten = big at hrep hlenf hinf
    have hadd := EvL.add (Ev.vL hrep) (Ev.var (k := 11) (d := .lst (row.map D.int)) rfl) (by rw [List.length_map, List.length_map]; omega)
    refine Run.set (Ev.vL hadd) ⟨_, rfl, big ++ row, fun x hx => ?_, by rw [List.length_append]; omega, by rw [List.map_append]; rfl⟩
    rcases List.mem_append.mp hx with hx | hx
    · exact hinf x hx
    · exact hin x hx
  clear hle hin row
  rintro _ ⟨row, hin, hle, rfl⟩
  obtain ⟨dm, e2, ro2⟩ := dig_cell (fs := vVar 0) (fk := vC (.int 10)) (fz := vL (nRep (vL (lenOk (aCons (vC (.int 540)) (aNil)))) (v2 ixD (vVar 1) (vC (.int 2))))) (ρ := [.v (.scr ns), .v (.lst (r.map D.int)), a, .v W, .v (letD bs), .v (letD os), b, c, d, .v S, .v (.lst (dg.map D.int)), .v (.lst (row.map D.int)), .no, .no, .no]) (List.replicate (at_ r 2).toNat 540) (Ev.var rfl) Ev.c (by decide) (rep540 (rx _ 2 rfl (by decide) (by decide)) b2.1 (by omega)) (szRep (by omega))
  have lm : dm.length ≤ 40 := by
    have z := ro2.1
    rw [List.length_replicate] at z
    omega
  obtain ⟨more, hmore, hmin, hmle⟩ := turns os ho dm (by omega)
  refine Run.sset (d := .lst (more.map D.int)) (Ev.callP (EvL.cons (Ev.var rfl) (EvL.cons (Ev.var rfl) (EvL.cons e2 .nil))) .nil ⟨rfl, rfl⟩ hmore) ?_
  clear hmore e2 ro2
  refine Run.cut (fun ρ => ∃ more : List Int, RowIn ps.length more ∧ more.length ≤ 80000 ∧ ρ = [.v (.scr ns), .v (.lst (r.map D.int)), a, .v W, .v (letD bs), .v (letD os), b, c, d, .v S, .v (.lst (dg.map D.int)), .v (.lst (row.map D.int)), .v (.lst (more.map D.int)), .no, .no]) ?_ ?_
  · exact Run.ifP (Ev.eqI (rx _ 5 rfl (by decide) (by decide)) Ev.c) (fun _ => Run.set (d := .lst []) (Ev.vL (EvL.lenOk .nil (by simp))) ⟨_, rfl, [], fun x hx => by simp at hx, by simp, rfl⟩) fun _ => Run.next ⟨_, rfl, more, hmin, by omega, rfl⟩
  clear hmle hmin more lm dm
  rintro _ ⟨more, hmin, hmle, rfl⟩
  refine Run.seq (Run.ifF (Ev.v1 (p := .bl true) (Ev.callP (EvL.cons (Ev.var rfl) (EvL.cons (Ev.var rfl) (EvL.cons (Ev.var rfl) (EvL.cons (Ev.var rfl) (EvL.cons (rx _ 3 rfl (by decide) (by decide)) .nil))))) .nil ⟨rfl, rfl⟩ (asked bs row hb hin hle _)) rfl) (Run.next ?_))
  refine Run.seq (Run.ifF (Ev.v1 (p := .bl true) (Ev.callP (EvL.cons (Ev.var rfl) (EvL.cons (Ev.var rfl) (EvL.cons (Ev.var rfl) (EvL.cons (Ev.var rfl) (EvL.cons (rx _ 4 rfl (by decide) (by decide)) .nil))))) .nil ⟨rfl, rfl⟩ (asked os more ho hmin hmle _)) rfl) (Run.next ?_))
  refine Run.cut (fun ρ => ∃ x : Sl, ρ = [.v (.scr ns), .v (.lst (r.map D.int)), a, .v W, .v (letD bs), .v (letD os), b, c, d, .v S, .v (.lst (dg.map D.int)), .v (.lst (row.map D.int)), .v (.lst (more.map D.int)), x, .no]) ?_ ?_
  · refine Run.ifP (Ev.eqI (rx _ 9 rfl (by decide) (by decide)) Ev.c) (fun _ => ?_) fun _ => Run.next ⟨_, rfl, _, rfl⟩
    obtain ⟨low1, high1, lets1, hbar, w1⟩ := barred (at_ r 10) b10.1
    refine Run.sset (Ev.callP (EvL.cons (Ev.var rfl) (EvL.cons (rx _ 10 rfl (by decide) (by decide)) .nil)) .nil ⟨rfl, rfl⟩ hbar) ?_
    refine Run.ifF (Ev.v1 (p := .bl true) (Ev.callP (EvL.cons (Ev.var rfl) (EvL.cons (Ev.callP (EvL.cons (Ev.var rfl) (EvL.cons (Ev.var rfl) .nil)) .nil ⟨rfl, rfl⟩ (sib low1 high1 lets1 w1)) (EvL.cons (Ev.var rfl) (EvL.cons (Ev.var rfl) (EvL.cons (rx _ 3 rfl (by decide) (by decide)) .nil))))) .nil ⟨rfl, rfl⟩ (asked1 low1 high1 lets1 w1 bs row hb hin hle _)) rfl) (Run.next ⟨_, rfl, _, rfl⟩)
  rintro _ ⟨x, rfl⟩
  exact Run.ret (Ev.callP (EvL.cons (Ev.var rfl) (EvL.cons (Ev.var rfl) (EvL.cons (Ev.var rfl) (EvL.cons (Ev.var rfl) (EvL.cons (rx _ 4 rfl (by decide) (by decide)) .nil))))) .nil ⟨rfl, rfl⟩ (asked bs row hb hin hle _)) rfl
end LW
end

section
set_option maxHeartbeats 0
namespace LW
open PySem PySem.Spec PyProof.Rows L2 EV
theorem law_fd {P : Program} {w : World} {K : PySem.W.Frag} {mg : Str → Option Value} {h : Heap} {f : Addr} (X : K.In h) (G : h.Ns mainGlobals mg) (hfa : mg ("law" : Str) = some (.ref f)) (c : Says K) :
    ∃ fd : FuncData, (∀ (s : Shared) (v : Value), BindsTo s fd ⟨[v], []⟩ [("_law_script", v)]) ∧ ∀ base : Heap, FnOk P w K mg base (L2N.CX P w) 7 f fd ["_law_script"] (spF (tab K) 1 sem_law) := by
  have hy : Hyp K mg := ⟨c, h, X, G⟩
  obtain ⟨fd, F, _⟩ := ok_law (P := P) (w := w) (base := h) hy
  have e := hfa.symm.trans (glo_law hy)
  cases e
  have b := FunD.bindsA (ps := ["_law_script"]) F fun _ _ _ _ _ _ us hl => match us, hl with | [_], _ => rfl
  refine ⟨fd, fun s v => b s [v] rfl, fun base => ?_⟩
  obtain ⟨fd', F', Gd⟩ := ok_law (P := P) (w := w) (base := base) hy
  have ef : fd' = fd := by
    obtain ⟨_, _, _, _, _, _, _, _, _, _, e1, l1, _⟩ := F.ex
    obtain ⟨_, _, _, _, _, _, _, _, _, _, e2, l2, _⟩ := F'.ex
    rw [l1] at l2
    injection l2 with l2
    injection l2 with _ _ l2 _
    injection l2 with l2
    exact l2.symm
  rw [← ef]
  exact Gd
end LW
open PySem PySem.W PySem.Calls PyProof.Rows
theorem LW.fin_ (hp : ∀ ns : List Int, ns.length ≤ 63 → LW.sem_law [.scr ns] = some (.ok (.bl true))) : PySem.Challenge.rw_millsluices_k13_walks_followed.Holds := by
  w_on; o_law
  refine HandSHeadRun.head_any (r := OpenLaw.row PySem.Challenge.rw_millsluices_k13_walks_followed) (q := view (OpenLaw.row PySem.Challenge.rw_millsluices_k13_walks_followed).prog [76]) (H := LW.hk) (ob := LW.ob) (M := 9000) (loose := LW.loose) (d := HandSHeadRun.topDef (OpenLaw.row PySem.Challenge.rw_millsluices_k13_walks_followed).prog 76) (kwd := []) LW.ob_eq
    (by kernel_rfl) (fun s => by kernel_rfl) LW.run (by kernel_rfl) (by kernel_rfl) (by kernel_rfl) (by rfl) (by first | assumption | decide +kernel) (by decide +kernel) ⟨rfl, rfl, rfl, rfl, rfl, by decide +kernel⟩ ?hw ?hc
  case hw => w_witness2
  case hc =>
    refine EV.walk_end (l := PySem.Challenge.rw_millsluices_k13_walks_followed) (n := 63) (k := 7) (x := "_law_script") (fun w => L2N.CX (PySem.Challenge.rw_millsluices_k13_walks_followed).prog w) rfl (by decide) (by kernel_rfl) ⟨rfl, by decide, by decide⟩ ?F (fun w H s e s' c => ?_)
    · intro w mg fa h Y G hmg0
      obtain ⟨K, KX, c⟩ := Y
      have hmg : mg ("law" : PySem.Str) = some (.ref fa) := by
        have e : (HandSHeadRun.topDef (OpenLaw.row PySem.Challenge.rw_millsluices_k13_walks_followed).prog 76).name = ("law" : PySem.Str) := by kernel_rfl
        rw [← e]
        exact hmg0
      obtain ⟨fd, hb, hF⟩ := LW.law_fd (P := (PySem.Challenge.rw_millsluices_k13_walks_followed).prog) (w := w) KX G hmg c
      refine ⟨K, fd, _, KX, hb, fun H a ms hl hS => ?_, fun g _ _ => hF g⟩
      exact ⟨H, [.scr ms], _, EV.Sub.refl H, .cons (.scr hS (Nat.le_trans hl (by decide))) .nil, rfl, hp ms hl, fun v S' H' _ i => by cases i; rfl⟩
    · obtain ⟨_, _, _, _, _, _, _, _, _, _, _, _, z⟩ := c
      exact z
end
open PySem PySem.W PyProof.Rows
set_option Elab.async false
set_option maxRecDepth 100000 in
set_option maxHeartbeats 8000000 in
theorem PySem.Challenge.cw_millsluices_k13_walks_followed_holds : PySem.Challenge.rw_millsluices_k13_walks_followed.Holds := by
  exact LW.fin_ fun ns _ => LW.law_ok ns
