import PyProof.Rows.All
import Wide.All
import OpenK.AllK
import Wide.FinOn
import HandS.ForMost
import HandS.Exc
import HandS.More
import HandS.WordsExc
import HandS.ForExc
import HandS.Defaults
import HandS.IsInst
import HandS.Walk
import HandS.TupAny
import HandS.Deep
import HandS.NoneIn
import HandS.MakeKw
import KE.GoesMore
import KE.GoesZip
import HandS.SetFor
import HandS.Set
import HandS.Strs
import HandS.Zip
import HandS.Head0
import HandS.Head1
import HandS.Head2
import HandS.HeadEnd
import HandS.HeadHook1
import HandS.HeadHook2
import PySem.Challenge.RW_millsluices_k06_lot_numbers_and_obstacle
set_option Elab.async false
set_option linter.all false
set_option maxRecDepth 100000
section
set_option maxHeartbeats 4000000
/-! EV: expressions and statements as partial functions over heap-free data. -/
namespace EV
open PySem L2

/-- data -/
inductive D where
  | non | bl (b : Bool) | int (i : Int) | str (s : Str)
  | tup (xs : List D) | lst (xs : List D) | obj (c : Nat) (xs : List D)
  | scr (xs : List Int)
instance : Inhabited D := ⟨.non⟩

/-- the classes by number: where they stand, their fields in order -/
structure Tab where
  K : PySem.W.Frag
  cls : Nat → Addr
  flds : Nat → List Str

mutual
/-- the value v stands for the datum d -/
inductive Is (T : Tab) (H : Hp) : V → D → Prop where
  | non : Is T H .non .non
  | bl (b : Bool) : Is T H (.bl b) (.bl b)
  | int (i : Int) : Is T H (.int i) (.int i)
  | str (s : Str) : Is T H (.str s) (.str s)
  | tup {a : Addr} {vs : List V} {ds : List D} : SqT T.K H a vs → Iss T H vs ds → Is T H (.ref a) (.tup ds)
  | lst {a : Addr} {vs : List V} {ds : List D} : H a = some (.lst vs) → Iss T H vs ds → Is T H (.ref a) (.lst ds)
  | obj {a dx : Addr} {c : Nat} {vs : List V} {ds : List D} : H a = some (.ins (T.cls c) dx ((T.flds c).zip vs)) → vs.length ≤ (T.flds c).length → Iss T H vs ds → Is T H (.ref a) (.obj c ds)
  | scr {a : Addr} {ns : List Int} : SqL T.K H a (ns.map V.int) → ns.length ≤ 100 → Is T H (.ref a) (.scr ns)
inductive Iss (T : Tab) (H : Hp) : List V → List D → Prop where
  | nil : Iss T H [] []
  | cons {v : V} {vs : List V} {d : D} {ds : List D} : Is T H v d → Iss T H vs ds → Iss T H (v :: vs) (d :: ds)
end

theorem Same.seqT {K : PySem.W.Frag} {H H' : Hp} {a : Addr} {xs : List V} (e : Same H H') (h : SqT K H a xs) : SqT K H' a xs := by
  rcases h with (h | ⟨o, h⟩) | h
  · exact .inl (.inl (e _ _ h))
  · exact .inl (.inr ⟨o, e _ _ h⟩)
  · exact .inr h

mutual
theorem Is.mono {T : Tab} {H H' : Hp} (e : Same H H') : ∀ {v : V} {d : D}, Is T H v d → Is T H' v d
  | _, _, .non => .non
  | _, _, .bl b => .bl b
  | _, _, .int i => .int i
  | _, _, .str s => .str s
  | _, _, .tup h hs => .tup (Same.seqT e h) (Iss.mono e hs)
  | _, _, .lst h hs => .lst (e _ _ h) (Iss.mono e hs)
  | _, _, .obj h l hs => .obj (e _ _ h) l (Iss.mono e hs)
  | _, _, .scr h l => .scr (e.seq h) l
theorem Iss.mono {T : Tab} {H H' : Hp} (e : Same H H') : ∀ {vs : List V} {ds : List D}, Iss T H vs ds → Iss T H' vs ds
  | _, _, .nil => .nil
  | _, _, .cons h hs => .cons (Is.mono e h) (Iss.mono e hs)
end

theorem Iss.length {T : Tab} {H : Hp} : ∀ {vs : List V} {ds : List D}, Iss T H vs ds → vs.length = ds.length
  | _, _, .nil => rfl
  | _, _, .cons _ hs => by simp [Iss.length hs]
theorem Iss.get {T : Tab} {H : Hp} : ∀ {vs : List V} {ds : List D} {i : Nat} {v : V}, Iss T H vs ds → vs[i]? = some v → ∃ d, ds[i]? = some d ∧ Is T H v d
  | _, _, _, _, .nil, e => by simp at e
  | _, _, 0, _, .cons h _, e => by simp at e; subst e; exact ⟨_, rfl, h⟩
  | _, _, i + 1, v, .cons _ hs, e => by
    obtain ⟨d, h1, h2⟩ := Iss.get (i := i) (v := v) hs (by simpa using e)
    exact ⟨d, by simpa using h1, h2⟩
theorem Iss.get' {T : Tab} {H : Hp} : ∀ {vs : List V} {ds : List D} {i : Nat} {d : D}, Iss T H vs ds → ds[i]? = some d → ∃ v, vs[i]? = some v ∧ Is T H v d
  | _, _, _, _, .nil, e => by simp at e
  | _, _, 0, _, .cons h _, e => by simp at e; subst e; exact ⟨_, rfl, h⟩
  | _, _, i + 1, v, .cons _ hs, e => by
    obtain ⟨d, h1, h2⟩ := Iss.get' (i := i) (d := v) hs (by simpa using e)
    exact ⟨d, by simpa using h1, h2⟩
theorem Iss.append {T : Tab} {H : Hp} : ∀ {vs ws : List V} {ds es : List D}, Iss T H vs ds → Iss T H ws es → Iss T H (vs ++ ws) (ds ++ es)
  | _, _, _, _, .nil, h => h
  | _, _, _, _, .cons h hs, h' => .cons h (Iss.append hs h')
theorem Iss.take {T : Tab} {H : Hp} : ∀ {vs : List V} {ds : List D} (n : Nat), Iss T H vs ds → Iss T H (vs.take n) (ds.take n)
  | _, _, 0, _ => by simp; exact .nil
  | _, _, _ + 1, .nil => .nil
  | _, _, n + 1, .cons h hs => .cons h (Iss.take n hs)
theorem Iss.drop {T : Tab} {H : Hp} : ∀ {vs : List V} {ds : List D} (n : Nat), Iss T H vs ds → Iss T H (vs.drop n) (ds.drop n)
  | _, _, 0, h => h
  | _, _, _ + 1, .nil => .nil
  | _, _, n + 1, .cons _ hs => Iss.drop n hs
theorem Iss.set {T : Tab} {H : Hp} {v : V} {d : D} (h : Is T H v d) : ∀ {vs : List V} {ds : List D} (i : Nat), Iss T H vs ds → Iss T H (vs.set i v) (ds.set i d)
  | _, _, _, .nil => .nil
  | _, _, 0, .cons _ hs => .cons h hs
  | _, _, i + 1, .cons h' hs => .cons h' (Iss.set h i hs)
theorem Iss.reverse {T : Tab} {H : Hp} : ∀ {vs : List V} {ds : List D}, Iss T H vs ds → Iss T H vs.reverse ds.reverse
  | _, _, .nil => .nil
  | _, _, .cons h hs => by simp only [List.reverse_cons]; exact (Iss.reverse hs).append (.cons h .nil)
theorem Iss.ints {T : Tab} {H : Hp} : ∀ (ns : List Int), Iss T H (ns.map V.int) (ns.map D.int)
  | [] => .nil
  | _ :: r => .cons (.int _) (Iss.ints r)
theorem Iss.rep {T : Tab} {H : Hp} {vs : List V} {ds : List D} (h : Iss T H vs ds) : ∀ k : Nat, Iss T H (List.replicate k vs).flatten (List.replicate k ds).flatten
  | 0 => by simp; exact .nil
  | k + 1 => by
    rw [List.replicate_succ, List.replicate_succ, List.flatten_cons, List.flatten_cons]
    exact h.append (Iss.rep h k)
theorem Iss.dropLast {T : Tab} {H : Hp} {vs : List V} {ds : List D} (h : Iss T H vs ds) : Iss T H vs.dropLast ds.dropLast := by
  rw [List.dropLast_eq_take, List.dropLast_eq_take, h.length]
  exact h.take _

/-! ### the part of the heap that stands -/
/-- tuples (and what is locked) never change -/
def isFix : HO → Bool
  | .tup _ => true
  | .frz _ _ => true
  | .xd _ => true
  | _ => false
/-- S: what stands for good; H: all. Only lists, instances and the like may be in H alone -/
structure Sub (S H : Hp) : Prop where
  same : Same S H
  fix : ∀ a o, H a = some o → isFix o = true → S a = some o
theorem Sub.refl (H : Hp) : Sub H H := ⟨Same.refl H, fun _ _ h _ => h⟩
/-- a step that changes nothing tracked: more objects -/
structure Kp (S H S' H' : Hp) : Prop where
  s : Same S S'
  h : Same H H'
  sub : Sub S' H'
  hid : ∀ a, H a ≠ none → S a = none → S' a = none
theorem Kp.refl {S H : Hp} (sh : Sub S H) : Kp S H S H := ⟨Same.refl S, Same.refl H, sh, fun _ _ h => h⟩
theorem Same.some {H H' : Hp} (e : Same H H') {a : Addr} (h : H a ≠ none) : H' a ≠ none := by
  cases q : H a with
  | none => exact absurd q h
  | some o => rw [e a o q]; intro z; cases z
theorem Kp.trans {S H S1 H1 S2 H2 : Hp} (a : Kp S H S1 H1) (b : Kp S1 H1 S2 H2) : Kp S H S2 H2 :=
  ⟨a.s.trans b.s, a.h.trans b.h, b.sub, fun x h1 h2 => b.hid x (Same.some a.h h1) (a.hid x h1 h2)⟩
/-- a new object, standing -/
theorem Kp.new {S H : Hp} {p : Addr} {o : HO} (sh : Sub S H) (hp : H p = none) : Kp S H (upd S p o) (upd H p o) := by
  have sp : S p = none := sh.same.free hp
  refine ⟨fun a u e => ?_, fun a u e => ?_, ⟨fun a u e => ?_, fun a u e f => ?_⟩, fun a h1 h2 => ?_⟩
  · rw [upd_ne (ne_of_none e sp)]; exact e
  · rw [upd_ne (ne_of_none e hp)]; exact e
  · by_cases h : a = p
    · subst h; rw [upd_same] at e ⊢; exact e
    · rw [upd_ne h] at e ⊢; exact sh.same a u e
  · by_cases h : a = p
    · subst h; rw [upd_same] at e ⊢; exact e
    · rw [upd_ne h] at e ⊢; exact sh.fix a u e f
  · have : a ≠ p := fun z => h1 (z ▸ hp)
    rw [upd_ne this]; exact h2
/-- a new object, not yet standing -/
theorem Kp.hide {S H : Hp} {p : Addr} {o : HO} (sh : Sub S H) (hp : H p = none) (hf : isFix o = false) : Kp S H S (upd H p o) := by
  have sp : S p = none := sh.same.free hp
  refine ⟨Same.refl S, fun a u e => ?_, ⟨fun a u e => ?_, fun a u e f => ?_⟩, fun a h1 h2 => h2⟩
  · rw [upd_ne (ne_of_none e hp)]; exact e
  · rw [upd_ne (ne_of_none e sp)]; exact sh.same a u e
  · by_cases h : a = p
    · subst h; rw [upd_same] at e; cases e; rw [hf] at f; cases f
    · rw [upd_ne h] at e; exact sh.fix a u e f

/-! ### results -/
/-- an exception: its class by number, its fields -/
structure Xn where
  c : Nat
  fs : List D
inductive R where
  | ok (d : D)
  | ex (x : Xn)
def R1 (o : Option R) (k : D → Option R) : Option R := match o with
  | some (.ok d) => k d
  | some (.ex x) => some (.ex x)
  | none => none
@[simp] theorem R1_ok (d : D) (k : D → Option R) : R1 (some (.ok d)) k = k d := rfl
@[simp] theorem R1_ex (x : Xn) (k : D → Option R) : R1 (some (.ex x)) k = some (.ex x) := rfl
@[simp] theorem R1_none (k : D → Option R) : R1 none k = none := rfl
def okO (o : Option D) : Option R := o.map R.ok
@[simp] theorem okO_some (d : D) : okO (some d) = some (.ok d) := rfl
@[simp] theorem okO_none : okO none = none := rfl

/-- a slot of the frame -/
inductive Sl where
  | no
  | v (d : D)
  | own (ds : List D)
  | ins (c : Nat) (ds : List D)
abbrev Env := List Sl
abbrev FE := Env → Option R

/-- how an exception lies -/
def XIs (T : Tab) (H : Hp) (x : Xn) (cls : Value) (d : Option Addr) : Prop :=
  cls = .ref (T.cls x.c) ∧ ((x.fs = [] ∧ d = none) ∨ ∃ dx vs, d = some dx ∧ H dx = some (.xd ((T.flds x.c).zip vs)) ∧ vs.length = (T.flds x.c).length ∧ Iss T H vs x.fs)

structure RepE (T : Tab) (S : Hp) (ρ : Env) (σ : L2.St) : Prop where
  len : σ.length = ρ.length
  v : ∀ (i : Nat) (d : D), ρ[i]? = some (.v d) → ∃ v, σ[i]? = some (some v) ∧ Is T S v d
theorem RepE.mono {T : Tab} {S S' : Hp} {ρ : Env} {σ : L2.St} (e : Same S S') (h : RepE T S ρ σ) : RepE T S' ρ σ := ⟨h.len, fun i d q => by
  obtain ⟨v, h1, h2⟩ := h.v i d q
  exact ⟨v, h1, h2.mono e⟩⟩

def REnd (T : Tab) (W : WX) (S H : Hp) (σ : L2.St) (Q : VK) : R → Prop
  | .ok d => ∀ v S' H', Kp S H S' H' → Is T S' v d → Q v H'
  | .ex x => ∀ S' H' cls d, Kp S H S' H' → XIs T S' x cls d → W cls d σ H'
theorem REnd.mono {T : Tab} {W : WX} {S H S' H' : Hp} {σ : L2.St} {Q : VK} {r : R} (k : Kp S H S' H') (h : REnd T W S H σ Q r) : REnd T W S' H' σ Q r := by
  cases r with
  | ok d => exact fun v S2 H2 k2 i => h v S2 H2 (k.trans k2) i
  | ex x => exact fun S2 H2 cls d k2 i => h S2 H2 cls d (k.trans k2) i

def tF (T : Tab) (W : WX) (f : FE) : TE := fun σ H Q => ∃ ρ S r, Sub S H ∧ RepE T S ρ σ ∧ f ρ = some r ∧ REnd T W S H σ Q r
/-- THE judgement of an expression -/
def EE (X : Cx) (T : Tab) (W : WX) (e : Expr) (f : FE) : Prop := PE X e (tF T W f)
theorem PE.weak {X : Cx} {e : Expr} {t u : TE} (h : PE X e t) (w : ∀ σ H Q, u σ H Q → t σ H Q) : PE X e u := ⟨fun pins s σ H Q I q => h.run pins s σ H Q I (w σ H Q q)⟩

section
variable {T : Tab} {W : WX} {S H : Hp} {σ : L2.St} {ρ : Env} {Q P : VK} {f : FE} {k : D → Option R} {r : R}
/-- the first part of an expression -/
theorem tF_go (sh : Sub S H) (rep : RepE T S ρ σ) (h : R1 (f ρ) k = some r) (fin : REnd T W S H σ Q r)
    (go : ∀ d v S' H', Kp S H S' H' → Is T S' v d → RepE T S' ρ σ → k d = some r → REnd T W S' H' σ Q r → P v H') : tF T W f σ H P := by
  cases e : f ρ with
  | none => rw [e] at h; cases h
  | some q =>
    rw [e] at h
    refine ⟨ρ, S, q, sh, rep, e, ?_⟩
    cases q with
    | ok d => exact fun v S' H' kp i => go d v S' H' kp i (rep.mono kp.s) h (fin.mono kp)
    | ex x =>
      cases h
      exact fin
end

/-! ### atoms -/
section
variable {X : Cx} {T : Tab} {W : WX} {e a b : Expr} {f fa fb : FE} {pos : Pos}
def vVar (i : Nat) : FE := fun ρ => match ρ[i]? with
  | some (.v d) => some (.ok d)
  | _ => none
def vC (d : D) : FE := fun _ => some (.ok d)
theorem ee_var (i : Nat) {x : Str} (hN : X.N[i]? = some x := by rfl) (hv : Vis X.env.scope x := by first | exact Or.inl rfl | exact Or.inr (Or.inl rfl) | exact Or.inr (Or.inr rfl)) (hd : (x == ("__debug__" : Str)) = false := by decide)
    (hcd : (x == ("__classdict__" : Str)) = false := by decide) : EE X T W (.Name x pos) (vVar i) := by
  refine PE.weak (pe_var hN hv hd hcd) fun σ H Q h => ?_
  obtain ⟨ρ, S, r, sh, rep, e, fin⟩ := h
  unfold vVar at e
  split at e
  · rename_i d hd'
    cases e
    obtain ⟨v, h1, h2⟩ := rep.v i d hd'
    exact ⟨v, h1, fin v S H (Kp.refl sh) h2⟩
  · cases e
theorem ee_const {v : V} {d : D} (h : PE X e (tC v)) (hi : ∀ H, Is T H v d) : EE X T W e (vC d) := by
  refine PE.weak h fun σ H Q q => ?_
  obtain ⟨ρ, S, r, sh, rep, e, fin⟩ := q
  cases e
  exact fin v S H (Kp.refl sh) (hi S)
theorem ee_int {i : Int} {j} : EE X T W (.Constant (.int i) j pos) (vC (.int i)) := ee_const pe_int fun _ => .int i
theorem ee_bl {b : Bool} {j} : EE X T W (.Constant (.bool b) j pos) (vC (.bl b)) := ee_const pe_bl fun _ => .bl b
theorem ee_non {j} : EE X T W (.Constant .none j pos) (vC .non) := ee_const pe_non fun _ => .non
theorem ee_str {x : Str} {j} : EE X T W (.Constant (.str x) j pos) (vC (.str x)) := ee_const pe_str fun _ => .str x

/-! ### operators by values -/
/-- r does what o says -/
def Op2 (T : Tab) (r : R2) (o : D → D → Option D) : Prop := ∀ (S H : Hp) (x y : V) (p q d : D) (Q : VK), Sub S H → Is T S x p → Is T S y q → o p q = some d → (∀ v S' H', Kp S H S' H' → Is T S' v d → Q v H') → r x y H Q
def Op1 (T : Tab) (r : V → Hp → VK → Prop) (o : D → Option D) : Prop := ∀ (S H : Hp) (x : V) (p d : D) (Q : VK), Sub S H → Is T S x p → o p = some d → (∀ v S' H', Kp S H S' H' → Is T S' v d → Q v H') → r x H Q
def v2 (o : D → D → Option D) (fa fb : FE) : FE := fun ρ => R1 (fa ρ) fun p => R1 (fb ρ) fun q => okO (o p q)
def v1 (o : D → Option D) (fa : FE) : FE := fun ρ => R1 (fa ρ) fun p => okO (o p)
theorem okO_inv {o : Option D} {r : R} (h : okO o = some r) : ∃ d, o = some d ∧ r = .ok d := by
  cases o with
  | none => cases h
  | some d => cases h; exact ⟨d, rfl, rfl⟩
theorem w2 {r : R2} {o : D → D → Option D} (h : Op2 T r o) (σ : L2.St) (H : Hp) (Q : VK) (q : tF T W (v2 o fa fb) σ H Q) : tOp r (tF T W fa) (tF T W fb) σ H Q := by
  obtain ⟨ρ, S, z, sh, rep, e, fin⟩ := q
  refine tF_go sh rep e fin fun p x S1 H1 k1 i1 rep1 e1 fin1 => ?_
  refine tF_go k1.sub rep1 e1 fin1 fun p2 y S2 H2 k2 i2 rep2 e2 fin2 => ?_
  obtain ⟨d, e3, rfl⟩ := okO_inv e2
  exact h S2 H2 x y p p2 d Q k2.sub (i1.mono k2.s) i2 e3 fin2
theorem ee_op {op : Operator} {r : R2} {o : D → D → Option D} (ho : OpR X (binaryOp op) r) (h : Op2 T r o) (ha : EE X T W a fa) (hb : EE X T W b fb) : EE X T W (.BinOp a op b pos) (v2 o fa fb) :=
  PE.weak (pe_op ho ha hb) (w2 h)
theorem ee_cmp {op : CmpOp} {r : R2} {o : D → D → Option D} (ho : OpR X (compareOp op) r) (h : Op2 T r o) (ha : EE X T W a fa) (hb : EE X T W b fb) (hm : behindInMarks op b = false) : EE X T W (.Compare a [op] [b] pos) (v2 o fa fb) :=
  PE.weak (pe_cmpR ho ha hb hm) (w2 h)
theorem ee_un {op : UnaryOp} {r : V → Hp → VK → Prop} {o : D → Option D} (ho : UnR X (unaryOp op) r) (h : Op1 T r o) (ha : EE X T W a fa) : EE X T W (.UnaryOp op a pos) (v1 o fa) := by
  refine PE.weak (pe_un ho ha) fun σ H Q q => ?_
  obtain ⟨ρ, S, z, sh, rep, e, fin⟩ := q
  refine tF_go sh rep e fin fun p x S1 H1 k1 i1 rep1 e1 fin1 => ?_
  obtain ⟨d, e3, rfl⟩ := okO_inv e1
  exact h S1 H1 x p d Q k1.sub i1 e3 fin1
theorem Op2.or {r r' : R2} {o : D → D → Option D} {o1 o2 : D → D → Option D} (h1 : Op2 T r o1) (h2 : Op2 T r' o2) (ho : ∀ p q d, o p q = some d → o1 p q = some d ∨ o2 p q = some d) : Op2 T (fun x y H Q => r x y H Q ∨ r' x y H Q) o :=
  fun S H x y p q d Q sh i1 i2 e fin => (ho p q d e).elim (fun e => .inl (h1 S H x y p q d Q sh i1 i2 e fin)) fun e => .inr (h2 S H x y p q d Q sh i1 i2 e fin)
end
end EV
end

section
set_option maxHeartbeats 4000000
/-! EV2: operators, subscripts, slices, comparisons. -/
namespace EV
open PySem L2

/-! ### equality of data -/
mutual
def D.eqv : D → D → Bool
  | .non, .non => true
  | .bl a, .bl b => a == b
  | .bl a, .int j => (if a then 1 else 0) == j
  | .int i, .bl b => i == (if b then 1 else 0)
  | .int i, .int j => i == j
  | .str x, .str y => x == y
  | .lst xs, .lst ys => D.eqvs xs ys
  | .tup xs, .tup ys => D.eqvs xs ys
  | _, _ => false
def D.eqvs : List D → List D → Bool
  | [], [] => true
  | x :: xs, y :: ys => D.eqv x y && D.eqvs xs ys
  | _, _ => false
end
mutual
def D.py : D → PyData
  | .non => .none
  | .bl b => .bool b
  | .int i => .int i
  | .str s => .str s
  | .tup xs => .tuple (D.pys xs)
  | .lst xs => .list (D.pys xs)
  | .obj _ _ => .none
  | .scr _ => .none
def D.pys : List D → List PyData
  | [] => []
  | x :: xs => D.py x :: D.pys xs
end
mutual
/-- plain data of depth at most n -/
def D.pl : Nat → D → Bool
  | _, .non => true
  | _, .bl _ => true
  | _, .int _ => true
  | _, .str s => PyData.strOk s
  | n + 1, .tup xs => D.pls n xs
  | n + 1, .lst xs => D.pls n xs
  | _, _ => false
def D.pls : Nat → List D → Bool
  | _, [] => true
  | n, x :: xs => D.pl n x && D.pls n xs
end
theorem pls_all {n : Nat} : ∀ {xs : List D}, D.pls n xs = true ↔ ∀ x ∈ xs, D.pl n x = true
  | [] => by simp [D.pls]
  | x :: xs => by
    rw [D.pls, Bool.and_eq_true, pls_all]
    simp

mutual
theorem shaped_pl : ∀ (n : Nat) (d : D), D.pl n d = true → (D.py d).canLay0 = true ∧ (D.py d).depth ≤ n
  | n, .non, _ => by simp [D.py, PyData.canLay0, PyData.depth]
  | n, .bl _, _ => by simp [D.py, PyData.canLay0, PyData.depth]
  | n, .int _, _ => by simp [D.py, PyData.canLay0, PyData.depth]
  | n, .str s, h => by
    cases n <;> simp only [D.pl] at h <;> simp [D.py, PyData.canLay0, PyData.depth, h]
  | n + 1, .tup xs, h => by
    have h' : D.pls n xs = true := by simpa [D.pl] using h
    have q := shaped_pls n xs h'
    simp only [D.py, PyData.canLay0, PyData.depth]
    exact ⟨q.1, by have := q.2; omega⟩
  | n + 1, .lst xs, h => by
    have h' : D.pls n xs = true := by simpa [D.pl] using h
    have q := shaped_pls n xs h'
    simp only [D.py, PyData.canLay0, PyData.depth]
    exact ⟨q.1, by have := q.2; omega⟩
  | 0, .tup _, h => by simp [D.pl] at h
  | 0, .lst _, h => by simp [D.pl] at h
  | 0, .obj _ _, h => by simp [D.pl] at h
  | _ + 1, .obj _ _, h => by simp [D.pl] at h
  | 0, .scr _, h => by simp [D.pl] at h
  | _ + 1, .scr _, h => by simp [D.pl] at h
theorem shaped_pls : ∀ (n : Nat) (xs : List D), D.pls n xs = true → PyData.canLayAll0 (D.pys xs) = true ∧ PyData.depthAll (D.pys xs) ≤ n
  | _, [], _ => by simp [D.pys, PyData.canLayAll0, PyData.depthAll]
  | n, x :: xs, h => by
    rw [D.pls, Bool.and_eq_true] at h
    have h1 := shaped_pl n x h.1
    have h2 := shaped_pls n xs h.2
    simp only [D.pys, PyData.canLayAll0, PyData.depthAll, h1.1, h2.1]
    exact ⟨rfl, by have := h1.2; have := h2.2; omega⟩
end
theorem shaped_of {n : Nat} {d : D} (h : D.pl n d = true) (hn : n ≤ 64) : SeqAt.shaped (D.py d) = true := by
  have q := shaped_pl n d h
  unfold SeqAt.shaped
  rw [q.1, decide_eq_true (Nat.le_trans q.2 hn)]
  rfl
mutual
theorem eqv_py : ∀ (n : Nat) (d e : D), D.pl n d = true → D.pl n e = true → PyData.eqv (D.py d) (D.py e) = D.eqv d e
  | n, d, e, h1, h2 => by
    cases d <;> cases e <;> first
      | (cases n <;> simp [D.pl] at h1; done)
      | (cases n <;> simp [D.pl] at h2; done)
      | (simp only [D.py, PyData.eqv, D.eqv]; done)
      | (cases n with
         | zero => simp [D.pl] at h1
         | succ n =>
           simp only [D.py, PyData.eqv, D.eqv]
           exact eqvs_pys n _ _ (by simpa [D.pl] using h1) (by simpa [D.pl] using h2))
theorem eqvs_pys : ∀ (n : Nat) (ds es : List D), D.pls n ds = true → D.pls n es = true → PyData.eqvAll (D.pys ds) (D.pys es) = D.eqvs ds es
  | _, [], [], _, _ => by simp [D.pys, PyData.eqvAll, D.eqvs]
  | _, [], _ :: _, _, _ => by simp [D.pys, PyData.eqvAll, D.eqvs]
  | _, _ :: _, [], _, _ => by simp [D.pys, PyData.eqvAll, D.eqvs]
  | n, d :: ds, e :: es, h1, h2 => by
    rw [D.pls, Bool.and_eq_true] at h1 h2
    simp only [D.pys, PyData.eqvAll, D.eqvs]
    rw [eqv_py n d e h1.1 h2.1, eqvs_pys n ds es h1.2 h2.2]
end
mutual
theorem Is.dp {T : Tab} {H : Hp} : ∀ {n : Nat} {v : V} {d : D}, Is T H v d → D.pl n d = true → Dp T.K H v (D.py d)
  | _, _, _, .non, _ => by rw [D.py]; exact .non
  | _, _, _, .bl b, _ => by rw [D.py]; exact .bl b
  | _, _, _, .int i, _ => by rw [D.py]; exact .int i
  | _, _, _, .str s, _ => by rw [D.py]; exact .str s
  | n + 1, _, _, .tup h hs, p => by rw [D.py]; exact .tup h (Iss.dps hs (n := n) (by simpa [D.pl] using p))
  | n + 1, _, _, .lst h hs, p => by rw [D.py]; exact .lst (SqL.of h) (Iss.dps hs (n := n) (by simpa [D.pl] using p))
  | 0, _, _, .tup h hs, p => by simp [D.pl] at p
  | 0, _, _, .lst h hs, p => by simp [D.pl] at p
  | n, _, _, .obj h l hs, p => by cases n <;> simp [D.pl] at p
  | n, _, _, .scr h l, p => by cases n <;> simp [D.pl] at p
theorem Iss.dps {T : Tab} {H : Hp} : ∀ {n : Nat} {vs : List V} {ds : List D}, Iss T H vs ds → D.pls n ds = true → DpAll T.K H vs (D.pys ds)
  | _, _, _, .nil, _ => by rw [D.pys]; exact .nil
  | n, _, _, .cons h hs, p => by
    rw [D.pls, Bool.and_eq_true] at p
    rw [D.pys]
    exact .cons (Is.dp h p.1) (Iss.dps hs p.2)
end
theorem pys_map : ∀ ds : List D, D.pys ds = ds.map D.py
  | [] => by simp [D.pys]
  | d :: ds => by simp [D.pys, pys_map ds]

/-! ### arithmetic -/
def addD : D → D → Option D
  | .int i, .int j => some (.int (i + j))
  | .lst xs, .lst ys => if xs.length + ys.length ≤ 100000 then some (.lst (xs ++ ys)) else none
  | .tup xs, .tup ys => if xs.length + ys.length ≤ 100000 then some (.tup (xs ++ ys)) else none
  | .str x, .str y => if x.length + y.length ≤ 100000 then some (.str (x ++ y)) else none
  | _, _ => none
def subD : D → D → Option D
  | .int i, .int j => some (.int (i - j))
  | _, _ => none
def mulD : D → D → Option D
  | .int i, .int j => if (-(2 ^ 64) < i ∧ i < 2 ^ 64) ∨ (-(2 ^ 64) < j ∧ j < 2 ^ 64) then some (.int (i * j)) else none
  | .lst xs, .int k => if -(2 ^ 63) ≤ k ∧ k < 2 ^ 63 ∧ xs.length * k.toNat ≤ 100000 then some (.lst (List.replicate k.toNat xs).flatten) else none
  | _, _ => none
def modD : D → D → Option D
  | .int i, .int j => if 0 < j then some (.int (i % j)) else none
  | _, _ => none
def fdivD : D → D → Option D
  | .int i, .int j => if 0 < j ∧ j < 1073741824 then some (.int (i / j)) else none
  | _, _ => none
def powD : D → D → Option D
  | .int i, .int j => if 0 ≤ j ∧ j ≤ 1000000 ∧ i.natAbs < 2 ^ 64 then some (.int (i ^ j.toNat)) else none
  | _, _ => none
def negD : D → Option D
  | .int i => some (.int (-i))
  | _ => none
def cmpD (p : Int → Int → Bool) : D → D → Option D
  | .int i, .int j => some (.bl (p i j))
  | _, _ => none
abbrev ltD := cmpD fun i j => decide (i < j)
abbrev leD := cmpD fun i j => decide (i ≤ j)
abbrev gtD := cmpD fun i j => decide (j < i)
abbrev geD := cmpD fun i j => decide (j ≤ i)
def eqD (p q : D) : Option D := if D.pl 8 p && D.pl 8 q then some (.bl (D.eqv p q)) else none
def neD (p q : D) : Option D := if D.pl 8 p && D.pl 8 q then some (.bl (!D.eqv p q)) else none
def D.isNon : D → Bool
  | .non => true
  | _ => false
def isNonD : D → D → Option D
  | p, .non => some (.bl p.isNon)
  | _, _ => none
def notNonD : D → D → Option D
  | p, .non => some (.bl (!p.isNon))
  | _, _ => none

theorem line_of {n : Nat} (h : n ≤ 100000) : n ≤ sizeLine := by rw [sizeLine_eq]; omega
theorem line_lt {n : Nat} (h : n < 100000) : n < sizeLine := by rw [sizeLine_eq]; omega
section
variable {T : Tab} {X : Cx}
theorem o_I0 {g : Int → Int → D} {gv : Int → Int → V} {o : D → D → Option D} (hg : ∀ H i j, Is T H (gv i j) (g i j)) (ho : ∀ p q d, o p q = some d → ∃ i j, p = .int i ∧ q = .int j ∧ d = g i j) : Op2 T (rI0 gv) o := by
  intro S H x y p q d Q sh i1 i2 e fin
  obtain ⟨i, j, rfl, rfl, rfl⟩ := ho p q d e
  cases i1
  cases i2
  exact ⟨i, j, rfl, rfl, fin _ S H (Kp.refl sh) (hg S i j)⟩
theorem o_I {C : Int → Int → Prop} {g : Int → Int → D} {gv : Int → Int → V} {o : D → D → Option D} (hg : ∀ H i j, Is T H (gv i j) (g i j)) (ho : ∀ p q d, o p q = some d → ∃ i j, p = .int i ∧ q = .int j ∧ C i j ∧ d = g i j) : Op2 T (rI C gv) o := by
  intro S H x y p q d Q sh i1 i2 e fin
  obtain ⟨i, j, rfl, rfl, c, rfl⟩ := ho p q d e
  cases i1
  cases i2
  exact ⟨i, j, rfl, rfl, c, fin _ S H (Kp.refl sh) (hg S i j)⟩

def addI : D → D → Option D
  | .int i, .int j => some (.int (i + j))
  | _, _ => none
def addL : D → D → Option D
  | .lst xs, .lst ys => if xs.length + ys.length ≤ 100000 then some (.lst (xs ++ ys)) else none
  | _, _ => none
def addT : D → D → Option D
  | .tup xs, .tup ys => if xs.length + ys.length ≤ 100000 then some (.tup (xs ++ ys)) else none
  | _, _ => none
def addS : D → D → Option D
  | .str x, .str y => if x.length + y.length ≤ 100000 then some (.str (x ++ y)) else none
  | _, _ => none
theorem o_addI : Op2 T (rI0 fun i j => .int (i + j)) addI := o_I0 (g := fun i j => .int (i + j)) (fun _ i j => .int _) fun p q d e => by
  unfold addI at e
  split at e <;> cases e
  exact ⟨_, _, rfl, rfl, rfl⟩
theorem o_addL : Op2 T rCat addL := by
  intro S H x y p q d Q sh i1 i2 e fin
  unfold addL at e
  split at e <;> try cases e
  rename_i xs ys
  split at e <;> cases e
  rename_i hl
  cases i1 with
  | @lst a1 vs1 _ h1 s1 => cases i2 with
    | @lst a2 vs2 _ h2 s2 =>
      refine ⟨_, _, _, _, rfl, rfl, sh.same _ _ h1, sh.same _ _ h2, ?_, fun np hp => ?_⟩
      · rw [s1.length, s2.length]; exact line_of hl
      · have k := Kp.new (o := .lst (vs1 ++ vs2)) sh hp
        exact fin _ _ _ k (.lst upd_same ((s1.mono k.s).append (s2.mono k.s)))
theorem o_addT {K : PySem.W.Frag} (hK : K = T.K) : Op2 T (rCatA K) addT := by
  subst hK
  intro S H x y p q d Q sh i1 i2 e fin
  unfold addT at e
  split at e <;> try cases e
  rename_i xs ys
  split at e <;> cases e
  rename_i hl
  cases i1 with
  | @tup a1 vs1 _ h1 s1 => cases i2 with
    | @tup a2 vs2 _ h2 s2 =>
      refine ⟨_, _, _, _, rfl, rfl, Same.seqT sh.same h1, Same.seqT sh.same h2, ?_, fun z => ?_, fun z1 z2 => ?_, fun z1 z2 np hp => ?_⟩
      · rw [s1.length, s2.length]; exact line_of hl
      · subst z
        cases s1
        exact fin _ S H (Kp.refl sh) (.tup h2 s2)
      · subst z2
        cases s2
        rw [List.append_nil] at *
        exact fin _ S H (Kp.refl sh) (.tup h1 s1)
      · have k := Kp.new (o := .tup (vs1 ++ vs2)) sh hp
        exact fin _ _ _ k (.tup (SqT.of upd_same) ((s1.mono k.s).append (s2.mono k.s)))
theorem o_addS : Op2 T (fun x y H Q => ∃ i j, x = .str i ∧ y = .str j ∧ i.length + j.length ≤ sizeLine ∧ Q (.str (i ++ j)) H) addS := by
  intro S H x y p q d Q sh i1 i2 e fin
  unfold addS at e
  split at e <;> try cases e
  split at e <;> cases e
  rename_i hl
  cases i1
  cases i2
  exact ⟨_, _, rfl, rfl, line_of hl, fin _ S H (Kp.refl sh) (.str _)⟩
theorem o_add {K : PySem.W.Frag} (hK : K = T.K) : Op2 T (fun x y H Q => (rI0 (fun i j => .int (i + j)) x y H Q ∨ rCat x y H Q) ∨ (rCatA K x y H Q ∨ ∃ i j, x = .str i ∧ y = .str j ∧ i.length + j.length ≤ sizeLine ∧ Q (.str (i ++ j)) H)) addD := by
  refine Op2.or (o1 := fun p q => if (addI p q).isSome then addI p q else addL p q) (o2 := fun p q => if (addT p q).isSome then addT p q else addS p q)
    (Op2.or o_addI o_addL fun p q d e => ?_) (Op2.or (o_addT hK) o_addS fun p q d e => ?_) fun p q d e => ?_
  · split at e
    · exact .inl e
    · exact .inr e
  · split at e
    · exact .inl e
    · exact .inr e
  · unfold addD at e
    split at e
    · exact .inl e
    · exact .inl e
    · split at e <;> cases e
      rename_i h
      exact .inr (by simp [addT, h])
    · exact .inr e
    · cases e
variable {W : WX} {a b : Expr} {fa fb : FE} {pos : Pos}
theorem ee_add (hK : X.K = T.K := by rfl) (ha : EE X T W a fa) (hb : EE X T W b fb) : EE X T W (.BinOp a .Add b pos) (v2 addD fa fb) := ee_op ((op_add.or op_cat).or (op_catA.or op_add_str)) (o_add hK) ha hb
theorem ee_sub (ha : EE X T W a fa) (hb : EE X T W b fb) : EE X T W (.BinOp a .Sub b pos) (v2 subD fa fb) := ee_op op_sub (o_I0 (g := fun i j => .int (i - j)) (fun _ i j => .int _) fun p q d e => by
  unfold subD at e
  split at e <;> cases e
  exact ⟨_, _, rfl, rfl, rfl⟩) ha hb
theorem ee_mul (ha : EE X T W a fa) (hb : EE X T W b fb) : EE X T W (.BinOp a .Mult b pos) (v2 mulD fa fb) := by
  refine ee_op (op_mul.or op_rep) (Op2.or (o1 := fun p q => match p, q with | .int _, .int _ => mulD p q | _, _ => none) (o2 := fun p q => match p, q with | .lst _, .int _ => mulD p q | _, _ => none)
    (o_I (g := fun i j => .int (i * j)) (fun _ i j => .int _) fun p q d e => ?_) ?_ fun p q d e => ?_) ha hb
  · split at e <;> try cases e
    simp only [mulD] at e
    split at e <;> cases e
    rename_i h
    exact ⟨_, _, rfl, rfl, h, rfl⟩
  · intro S H x y p q d Q sh i1 i2 e fin
    dsimp only at e
    split at e <;> try cases e
    rename_i xs kk
    simp only [mulD] at e
    split at e <;> cases e
    rename_i h
    cases i1 with
    | @lst a1 vs1 _ h1 s1 =>
      cases i2
      refine ⟨_, _, _, rfl, rfl, sh.same _ _ h1, h.1, h.2.1, ?_, fun np hp => ?_⟩
      · rw [s1.length]; exact line_of h.2.2
      · have k := Kp.new (o := .lst (List.replicate kk.toNat vs1).flatten) sh hp
        exact fin _ _ _ k (.lst upd_same ((s1.mono k.s).rep _))
  · unfold mulD at e
    split at e
    · exact .inl e
    · exact .inr e
    · cases e
theorem ee_mod (ha : EE X T W a fa) (hb : EE X T W b fb) : EE X T W (.BinOp a .Mod b pos) (v2 modD fa fb) := ee_op op_mod (o_I (g := fun i j => .int (i % j)) (fun _ i j => .int _) fun p q d e => by
  unfold modD at e
  split at e <;> try cases e
  split at e <;> cases e
  rename_i h
  exact ⟨_, _, rfl, rfl, h, rfl⟩) ha hb
theorem ee_fdiv (ha : EE X T W a fa) (hb : EE X T W b fb) : EE X T W (.BinOp a .FloorDiv b pos) (v2 fdivD fa fb) := ee_op op_fdiv (o_I (g := fun i j => .int (i / j)) (fun _ i j => .int _) fun p q d e => by
  unfold fdivD at e
  split at e <;> try cases e
  split at e <;> cases e
  rename_i h
  exact ⟨_, _, rfl, rfl, h, rfl⟩) ha hb
theorem ee_pow (ha : EE X T W a fa) (hb : EE X T W b fb) : EE X T W (.BinOp a .Pow b pos) (v2 powD fa fb) := ee_op op_pow (o_I (g := fun i j => .int (i ^ j.toNat)) (fun _ i j => .int _) fun p q d e => by
  unfold powD at e
  split at e <;> try cases e
  split at e <;> cases e
  rename_i h
  exact ⟨_, _, rfl, rfl, h, rfl⟩) ha hb
theorem ee_neg (ha : EE X T W a fa) : EE X T W (.UnaryOp .USub a pos) (v1 negD fa) := by
  refine ee_un un_neg (fun S H x p d Q sh i1 e fin => ?_) ha
  unfold negD at e
  split at e <;> cases e
  cases i1
  exact ⟨_, rfl, fin _ S H (Kp.refl sh) (.int _)⟩
theorem o_cmp {c : Int → Int → Bool} : Op2 T (rI0 fun i j => .bl (c i j)) (cmpD c) := o_I0 (g := fun i j => .bl (c i j)) (fun _ i j => .bl _) fun p q d e => by
  unfold cmpD at e
  split at e <;> cases e
  exact ⟨_, _, rfl, rfl, rfl⟩
theorem ee_lt (ha : EE X T W a fa) (hb : EE X T W b fb) : EE X T W (.Compare a [.Lt] [b] pos) (v2 ltD fa fb) := ee_cmp op_lt o_cmp ha hb (nomark _)
theorem ee_le (ha : EE X T W a fa) (hb : EE X T W b fb) : EE X T W (.Compare a [.LtE] [b] pos) (v2 leD fa fb) := ee_cmp op_le o_cmp ha hb (nomark _)
theorem ee_gt (ha : EE X T W a fa) (hb : EE X T W b fb) : EE X T W (.Compare a [.Gt] [b] pos) (v2 gtD fa fb) := ee_cmp op_gt o_cmp ha hb (nomark _)
theorem ee_ge (ha : EE X T W a fa) (hb : EE X T W b fb) : EE X T W (.Compare a [.GtE] [b] pos) (v2 geD fa fb) := ee_cmp op_ge o_cmp ha hb (nomark _)
theorem o_eq {K : PySem.W.Frag} (hK : K = T.K) : Op2 T (rEqD K) eqD := by
  subst hK
  intro S H x y p q d Q sh i1 i2 e fin
  unfold eqD at e
  split at e <;> cases e
  rename_i h
  rw [Bool.and_eq_true] at h
  refine ⟨_, _, (i1.mono sh.same).dp h.1, (i2.mono sh.same).dp h.2, shaped_of h.1 (by decide), shaped_of h.2 (by decide), ?_⟩
  rw [eqv_py 8 p q h.1 h.2]
  exact fin _ S H (Kp.refl sh) (.bl _)
theorem o_ne {K : PySem.W.Frag} (hK : K = T.K) : Op2 T (rNeD K) neD := by
  subst hK
  intro S H x y p q d Q sh i1 i2 e fin
  unfold neD at e
  split at e <;> cases e
  rename_i h
  rw [Bool.and_eq_true] at h
  refine ⟨_, _, (i1.mono sh.same).dp h.1, (i2.mono sh.same).dp h.2, shaped_of h.1 (by decide), shaped_of h.2 (by decide), ?_⟩
  rw [eqv_py 8 p q h.1 h.2]
  exact fin _ S H (Kp.refl sh) (.bl _)
theorem ee_eq {n : Nat} (hr : Room n X.A) (hK : X.K = T.K := by rfl) (ha : EE X T W a fa) (hb : EE X T W b fb) : EE X T W (.Compare a [.Eq] [b] pos) (v2 eqD fa fb) := ee_cmp (op_eqD hr.units) (o_eq hK) ha hb (nomark _)
theorem ee_ne {n : Nat} (hr : Room n X.A) (hK : X.K = T.K := by rfl) (ha : EE X T W a fa) (hb : EE X T W b fb) : EE X T W (.Compare a [.NotEq] [b] pos) (v2 neD fa fb) := ee_cmp (op_neD hr.units) (o_ne hK) ha hb (nomark _)
theorem is_non {H : Hp} {x : V} {p : D} (h : Is T H x p) : decide (x = .non) = p.isNon := by
  cases h <;> simp [D.isNon]
theorem ee_isN (ha : EE X T W a fa) (hb : EE X T W b fb) : EE X T W (.Compare a [.Is] [b] pos) (v2 isNonD fa fb) := by
  refine ee_cmp op_isN (fun S H x y p q d Q sh i1 i2 e fin => ?_) ha hb (nomark _)
  unfold isNonD at e
  split at e <;> cases e
  cases i2
  refine ⟨rfl, ?_⟩
  rw [is_non i1]
  exact fin _ S H (Kp.refl sh) (.bl _)
theorem ee_notN (ha : EE X T W a fa) (hb : EE X T W b fb) : EE X T W (.Compare a [.IsNot] [b] pos) (v2 notNonD fa fb) := by
  refine ee_cmp op_notN (fun S H x y p q d Q sh i1 i2 e fin => ?_) ha hb (nomark _)
  unfold notNonD at e
  split at e <;> cases e
  cases i2
  refine ⟨rfl, ?_⟩
  rw [is_non i1]
  exact fin _ S H (Kp.refl sh) (.bl _)

/-! ### in -/
def inD : D → D → Option D
  | p, .lst xs => if D.pl 8 p && D.pls 8 xs then some (.bl (xs.any fun z => D.eqv z p)) else none
  | p, .tup xs => if D.pl 8 p && D.pls 8 xs then some (.bl (xs.any fun z => D.eqv z p)) else none
  | _, _ => none
def ninD : D → D → Option D
  | p, .lst xs => if D.pl 8 p && D.pls 8 xs then some (.bl (!xs.any fun z => D.eqv z p)) else none
  | p, .tup xs => if D.pl 8 p && D.pls 8 xs then some (.bl (!xs.any fun z => D.eqv z p)) else none
  | _, _ => none
theorem any_py {p : D} (hp : D.pl 8 p = true) : ∀ {xs : List D}, D.pls 8 xs = true → ((D.pys xs).any fun z => PyData.eqv z (D.py p)) = xs.any fun z => D.eqv z p
  | [], _ => by simp [D.pys]
  | x :: xs, h => by
    rw [D.pls, Bool.and_eq_true] at h
    rw [D.pys, List.any_cons, List.any_cons, eqv_py 8 x p h.1 hp, any_py hp h.2]
def rAmong (K : PySem.W.Frag) (neg : Bool) : R2 := fun x y H Q => ∃ d ds, Dp K H x d ∧ (Dp K H y (.list ds) ∨ Dp K H y (.tuple ds)) ∧ d.canLay0 = true ∧ PyData.canLayAll0 ds = true ∧ d.depth ≤ 60 ∧ Q (.bl (if neg then !(ds.any fun z => PyData.eqv z d) else ds.any fun z => PyData.eqv z d)) H
theorem op_among (hu : X.A.units + 64 < cLine) : OpR X (compareOp .In) (rAmong X.K false) := by
  intro pins s σ H x y v u Q I rx ry h
  obtain ⟨d, ds, hd, he, c1, c2, hdp, q⟩ := h
  obtain ⟨as, r1⟩ := Dp.reads I d x v hd rx
  have hm : X.A.units + 1 + min (PyData.depthAll ds) d.depth < cLine := by
    have := Nat.min_le_right (PyData.depthAll ds) d.depth
    omega
  rcases he with he | he
  · obtain ⟨bs, r2⟩ := Dp.reads I (.list ds) y u he ry
    exact SeqAt.in_list_reads r2 r1 c2 c1 hm ⟨.bl _, H, I, rfl, q⟩
  · obtain ⟨bs, r2⟩ := Dp.reads I (.tuple ds) y u he ry
    exact SeqAt.in_tuple_reads r2 r1 c2 c1 hm ⟨.bl _, H, I, rfl, q⟩
theorem op_namong (hu : X.A.units + 64 < cLine) : OpR X (compareOp .NotIn) (rAmong X.K true) := by
  intro pins s σ H x y v u Q I rx ry h
  obtain ⟨d, ds, hd, he, c1, c2, hdp, q⟩ := h
  obtain ⟨as, r1⟩ := Dp.reads I d x v hd rx
  have hm : X.A.units + 1 + min (PyData.depthAll ds) d.depth < cLine := by
    have := Nat.min_le_right (PyData.depthAll ds) d.depth
    omega
  rcases he with he | he
  · obtain ⟨bs, r2⟩ := Dp.reads I (.list ds) y u he ry
    exact SeqAt.notIn_list_reads r2 r1 c2 c1 hm ⟨.bl _, H, I, rfl, q⟩
  · obtain ⟨bs, r2⟩ := Dp.reads I (.tuple ds) y u he ry
    exact SeqAt.notIn_tuple_reads r2 r1 c2 c1 hm ⟨.bl _, H, I, rfl, q⟩
theorem among_go {K : PySem.W.Frag} (hK : K = T.K) {neg : Bool} {S H : Hp} {x y : V} {p : D} {xs : List D} {Q : VK} (sh : EV.Sub S H) (i1 : Is T S x p) (h : (D.pl 8 p && D.pls 8 xs) = true) (i2 : Is T S y (.lst xs) ∨ Is T S y (.tup xs))
    (fin : Q (.bl (if neg then !(xs.any fun z => D.eqv z p) else xs.any fun z => D.eqv z p)) H) : rAmong K neg x y H Q := by
  subst hK
  rw [Bool.and_eq_true] at h
  have q1 := shaped_pl 8 p h.1
  have q2 := shaped_pls 8 xs h.2
  refine ⟨D.py p, D.pys xs, (i1.mono sh.same).dp h.1, ?_, q1.1, q2.1, Nat.le_trans q1.2 (by decide), by rw [any_py h.1 h.2]; exact fin⟩
  rcases i2 with i2 | i2
  · have z := (i2.mono sh.same).dp (n := 9) (by simpa [D.pl] using h.2)
    rw [D.py] at z
    exact .inl z
  · have z := (i2.mono sh.same).dp (n := 9) (by simpa [D.pl] using h.2)
    rw [D.py] at z
    exact .inr z
theorem o_in {K : PySem.W.Frag} (hK : K = T.K) : Op2 T (rAmong K false) inD := by
  intro S H x y p q d Q sh i1 i2 e fin
  unfold inD at e
  split at e <;> try cases e
  all_goals
    split at e <;> cases e
    rename_i h
    exact among_go hK sh i1 h (by first | exact .inl i2 | exact .inr i2) (fin _ S H (Kp.refl sh) (.bl _))
theorem o_nin {K : PySem.W.Frag} (hK : K = T.K) : Op2 T (rAmong K true) ninD := by
  intro S H x y p q d Q sh i1 i2 e fin
  unfold ninD at e
  split at e <;> try cases e
  all_goals
    split at e <;> cases e
    rename_i h
    exact among_go hK sh i1 h (by first | exact .inl i2 | exact .inr i2) (fin _ S H (Kp.refl sh) (.bl _))
theorem room64 {n : Nat} (hr : Room n X.A) : X.A.units + 64 < cLine := by
  have := hr.un
  omega
theorem ee_in {n : Nat} (hr : Room n X.A) (hm : behindInMarks .In b = false) (hK : X.K = T.K := by rfl) (ha : EE X T W a fa) (hb : EE X T W b fb) : EE X T W (.Compare a [.In] [b] pos) (v2 inD fa fb) := ee_cmp (op_among (room64 hr)) (o_in hK) ha hb hm
theorem ee_nin {n : Nat} (hr : Room n X.A) (hm : behindInMarks .NotIn b = false) (hK : X.K = T.K := by rfl) (ha : EE X T W a fa) (hb : EE X T W b fb) : EE X T W (.Compare a [.NotIn] [b] pos) (v2 ninD fa fb) := ee_cmp (op_namong (room64 hr)) (o_nin hK) ha hb hm

/-! ### subscripts -/
def ixD : D → D → Option D
  | .lst xs, .int i => atI xs i
  | .tup xs, .int i => atI xs i
  | .scr ns, .int i => (atI ns i).map D.int
  | _, _ => none
theorem atI_iss {H : Hp} {vs : List V} {ds : List D} {i : Int} {d : D} (h : Iss T H vs ds) (e : atI ds i = some d) : ∃ v, atI vs i = some v ∧ Is T H v d := by
  unfold atI at e ⊢
  rw [h.length]
  cases q : ixN ds.length i with
  | none => rw [q] at e; cases e
  | some j =>
    rw [q] at e
    exact h.get' e
theorem atI_map {ns : List Int} {i j : Int} (e : atI ns i = some j) : atI (ns.map V.int) i = some (V.int j) := by
  unfold atI at e ⊢
  rw [List.length_map]
  cases q : ixN ns.length i with
  | none => rw [q] at e; cases e
  | some k =>
    rw [q] at e
    have e' : ns[k]? = some j := e
    show (ns.map V.int)[k]? = some (V.int j)
    rw [List.getElem?_map, e']
    rfl
theorem o_ix {K : PySem.W.Frag} (hK : K = T.K) : Op2 T (fun x y H Q => rIxL K x y H Q ∨ rIxT K x y H Q) ixD := by
  subst hK
  intro S H x y p q d Q sh i1 i2 e fin
  unfold ixD at e
  split at e <;> try cases e
  · cases i1 with
    | lst h1 s1 =>
      cases i2
      obtain ⟨v, h2, h3⟩ := atI_iss s1 e
      exact .inl ⟨_, _, _, _, rfl, rfl, SqL.of (sh.same _ _ h1), h2, fin _ S H (Kp.refl sh) h3⟩
  · cases i1 with
    | tup h1 s1 =>
      cases i2
      obtain ⟨v, h2, h3⟩ := atI_iss s1 e
      exact .inr ⟨_, _, _, _, rfl, rfl, Same.seqT sh.same h1, h2, fin _ S H (Kp.refl sh) h3⟩
  · cases i1 with
    | scr h1 l1 =>
      cases i2
      obtain ⟨j, h2, rfl⟩ := Option.map_eq_some_iff.mp e
      exact .inl ⟨_, _, _, _, rfl, rfl, sh.same.seq h1, atI_map h2, fin _ S H (Kp.refl sh) (.int j)⟩
theorem ee_ix (hs : PlainIx b := by exact fun _ _ => rfl) (hK : X.K = T.K := by rfl) (ha : EE X T W a fa) (hb : EE X T W b fb) : EE X T W (.Subscript a b pos) (v2 ixD fa fb) :=
  PE.weak (pe_ix (ix_list.or ix_tup) ha hb hs) (w2 (o_ix hK))

/-! ### slices -/
def cutD (xs : List D) (lo hi : Option Int) : List D := (xs.drop (HT.sIx xs.length 0 lo)).take (HT.sIx xs.length xs.length hi - HT.sIx xs.length 0 lo)
theorem Iss.cut {H : Hp} {vs : List V} {ds : List D} (h : Iss T H vs ds) (lo hi : Option Int) : Iss T H (cutV vs lo hi) (cutD ds lo hi) := by
  unfold cutV cutD
  rw [h.length]
  exact (h.drop _).take _
def sliceD : D → Option Int → Option Int → Option D
  | .lst xs, lo, hi => some (.lst (cutD xs lo hi))
  | .tup xs, lo, hi => some (.tup (cutD xs lo hi))
  | _, _, _ => none
/-- a slice's part -/
def FO := Env → Option (Option R)
def oNone : FO := fun _ => some none
def oSome (f : FE) : FO := fun ρ => (f ρ).map some
def RO (o : Option (Option R)) (k : Option Int → Option R) : Option R := match o with
  | some none => k none
  | some (some (.ok (.int i))) => k (some i)
  | some (some (.ex x)) => some (.ex x)
  | _ => none
@[simp] theorem RO_none (k : Option Int → Option R) : RO (some none) k = k none := rfl
@[simp] theorem RO_int (i : Int) (k : Option Int → Option R) : RO (some (some (.ok (.int i)))) k = k (some i) := rfl
def vSlice (f : FE) (l u : FO) : FE := fun ρ => R1 (f ρ) fun d => RO (l ρ) fun lo => RO (u ρ) fun hi => okO (sliceD d lo hi)
def tO (T : Tab) (W : WX) (f : FO) : TO := fun σ H Q => ∃ ρ S r, L2.Same S H ∧ EV.Sub S H ∧ RepE T S ρ σ ∧ f ρ = some r ∧ (match r with
  | none => Q none H
  | some r => REnd T W S H σ (fun v H' => ∃ i, v = .int i ∧ Q (some i) H') r)
def EO (X : Cx) (T : Tab) (W : WX) (e : Option Expr) (f : FO) : Prop := PO X e (tO T W f)
theorem eo_none : EO X T W none oNone := ⟨fun pins s σ H Q I h => by
  obtain ⟨ρ, S, r, _, sh, rep, e, q⟩ := h
  cases e
  exact po_none.run pins s σ H Q I q⟩
theorem eo_some (h : EE X T W a fa) : EO X T W (some a) (oSome fa) := ⟨fun pins s σ H Q I hw => by
  obtain ⟨ρ, S, r, _, sh, rep, e, q⟩ := hw
  refine (po_some h).run pins s σ H Q I ?_
  obtain ⟨r', e1, rfl⟩ := Option.map_eq_some_iff.mp e
  exact ⟨ρ, S, r', sh, rep, e1, q⟩⟩
theorem tO_go {S H : Hp} {σ : L2.St} {ρ : Env} {Q : VK} {P : Option Int → Hp → Prop} {f : FO} {k : Option Int → Option R} {r : R} (sh : EV.Sub S H) (rep : RepE T S ρ σ) (h : RO (f ρ) k = some r) (fin : REnd T W S H σ Q r)
    (go : ∀ o S' H', Kp S H S' H' → RepE T S' ρ σ → k o = some r → REnd T W S' H' σ Q r → P o H') : tO T W f σ H P := by
  cases e : f ρ with
  | none => rw [e] at h; cases h
  | some q =>
    rw [e] at h
    refine ⟨ρ, S, q, sh.same, sh, rep, e, ?_⟩
    cases q with
    | none => exact go none S H (Kp.refl sh) rep h fin
    | some q =>
      cases q with
      | ok d =>
        intro v S' H' kp i
        cases i with
        | int i => exact ⟨i, rfl, go (some i) S' H' kp (rep.mono kp.s) h (fin.mono kp)⟩
        | _ => cases h
      | ex x =>
        cases h
        exact fin
theorem ee_slice {lo hi : Option Expr} {fl fu : FO} {p2 : Pos} (hK : X.K = T.K := by rfl) (ha : EE X T W a fa) (hl : EO X T W lo fl) (hu : EO X T W hi fu) : EE X T W (.Subscript a (.Slice lo hi none p2) pos) (vSlice fa fl fu) := by
  refine PE.weak (pe_slice (sl_list.or sl_tupA) ha hl hu) fun σ H Q q => ?_
  obtain ⟨ρ, S, z, sh, rep, e, fin⟩ := q
  refine tF_go sh rep e fin fun p x S1 H1 k1 i1 rep1 e1 fin1 => ?_
  refine tO_go k1.sub rep1 e1 fin1 fun l S2 H2 k2 rep2 e2 fin2 => ?_
  refine tO_go k2.sub rep2 e2 fin2 fun u S3 H3 k3 rep3 e3 fin3 => ?_
  obtain ⟨d, e4, rfl⟩ := okO_inv e3
  have i3 := (i1.mono k2.s).mono k3.s
  rw [hK]
  unfold sliceD at e4
  split at e4 <;> cases e4
  all_goals rename_i ys
  · cases i3 with
    | @lst a vs _ h s =>
      refine .inl ⟨_, _, rfl, SqL.of (k3.sub.same _ _ h), fun p hp => ?_⟩
      have k := Kp.new (o := .lst (cutV vs l u)) k3.sub hp
      exact fin3 _ _ _ k (.lst upd_same ((s.cut l u).mono k.s))
  · cases i3 with
    | @tup a vs _ h s =>
      refine .inr ⟨_, _, rfl, Same.seqT k3.sub.same h, fun hw => ?_, fun _ p hp => ?_⟩
      · have c : cutD ys l u = ys := by
          unfold cutD
          rw [← s.length, hw.1, hw.2, List.drop_zero, s.length, Nat.sub_zero]
          exact List.take_length
        rw [c] at fin3
        exact fin3 _ _ _ (Kp.refl k3.sub) (.tup h s)
      · have k := Kp.new (o := .tup (cutV vs l u)) k3.sub hp
        exact fin3 _ _ _ k (.tup (SqT.of upd_same) ((s.cut l u).mono k.s))
end
end EV
end

section
set_option maxHeartbeats 4000000
/-! EV3: tests, displays, comprehensions, statements, loops. -/
namespace EV
open PySem L2

section
variable {T : Tab} {X : Cx} {W : WX} {a b c e : Expr} {f fa fb fc : FE} {pos : Pos} {es rest : List Expr}

/-! ### tests -/
def tFT (T : Tab) (W : WX) (f : FE) : TT := fun σ H Q => tF T W f σ H fun v H' => ∃ b, v = .bl b ∧ Q b H'
def EB (X : Cx) (T : Tab) (W : WX) (e : Expr) (f : FE) : Prop := PT X e (tFT T W f)
def EW (X : Cx) (T : Tab) (W : WX) (e : Expr) (f : FE) : Prop := PW X e (tFT T W f)
theorem PT.weak {e : Expr} {t u : TT} (h : PT X e t) (w : ∀ σ H Q, u σ H Q → t σ H Q) : PT X e u := ⟨fun pins s σ H Q I q => h.run pins s σ H Q I (w σ H Q q)⟩
theorem PW.weak {e : Expr} {t u : TT} (h : PW X e t) (w : ∀ σ H Q, u σ H Q → t σ H Q) : PW X e u := ⟨fun wh pins s σ H Q I q => h.run wh pins s σ H Q I (w σ H Q q)⟩
theorem eb_val (h : EE X T W e f) (he : ∀ whole, isTrue e X.env whole = (do let v ← whole; standAt e.pos; holding [v] (truthy v)) := by intro _; rfl) : EB X T W e f := pt_val h he
theorem eb_cmp {op : CmpOp} {r : R2} {o : D → D → Option D} (ho : OpR X (compareOp op) r) (h : Op2 T r o) (ha : EE X T W a fa) (hb : EE X T W b fb) (hm : behindInMarks op b = false) : EB X T W (.Compare a [op] [b] pos) (v2 o fa fb) :=
  PT.weak (pt_cmpR ho ha hb hm) fun σ H Q q => w2 h σ H _ q
theorem eb_lt (ha : EE X T W a fa) (hb : EE X T W b fb) : EB X T W (.Compare a [.Lt] [b] pos) (v2 ltD fa fb) := eb_cmp op_lt o_cmp ha hb (nomark _)
theorem eb_le (ha : EE X T W a fa) (hb : EE X T W b fb) : EB X T W (.Compare a [.LtE] [b] pos) (v2 leD fa fb) := eb_cmp op_le o_cmp ha hb (nomark _)
theorem eb_gt (ha : EE X T W a fa) (hb : EE X T W b fb) : EB X T W (.Compare a [.Gt] [b] pos) (v2 gtD fa fb) := eb_cmp op_gt o_cmp ha hb (nomark _)
theorem eb_ge (ha : EE X T W a fa) (hb : EE X T W b fb) : EB X T W (.Compare a [.GtE] [b] pos) (v2 geD fa fb) := eb_cmp op_ge o_cmp ha hb (nomark _)
theorem eb_eq {n : Nat} (hr : Room n X.A) (hK : X.K = T.K := by rfl) (ha : EE X T W a fa) (hb : EE X T W b fb) : EB X T W (.Compare a [.Eq] [b] pos) (v2 eqD fa fb) := eb_cmp (op_eqD hr.units) (o_eq hK) ha hb (nomark _)
theorem eb_ne {n : Nat} (hr : Room n X.A) (hK : X.K = T.K := by rfl) (ha : EE X T W a fa) (hb : EE X T W b fb) : EB X T W (.Compare a [.NotEq] [b] pos) (v2 neD fa fb) := eb_cmp (op_neD hr.units) (o_ne hK) ha hb (nomark _)
theorem eb_in {n : Nat} (hr : Room n X.A) (hm : behindInMarks .In b = false) (hK : X.K = T.K := by rfl) (ha : EE X T W a fa) (hb : EE X T W b fb) : EB X T W (.Compare a [.In] [b] pos) (v2 inD fa fb) := eb_cmp (op_among (room64 hr)) (o_in hK) ha hb hm
theorem eb_nin {n : Nat} (hr : Room n X.A) (hm : behindInMarks .NotIn b = false) (hK : X.K = T.K := by rfl) (ha : EE X T W a fa) (hb : EE X T W b fb) : EB X T W (.Compare a [.NotIn] [b] pos) (v2 ninD fa fb) := eb_cmp (op_namong (room64 hr)) (o_nin hK) ha hb hm
theorem o_isN : Op2 T (fun x y H Q => y = .non ∧ Q (.bl (decide (x = .non))) H) isNonD := by
  intro S H x y p q d Q sh i1 i2 e fin
  unfold isNonD at e
  split at e <;> cases e
  cases i2
  refine ⟨rfl, ?_⟩
  rw [is_non i1]
  exact fin _ S H (Kp.refl sh) (.bl _)
theorem o_notN : Op2 T (fun x y H Q => y = .non ∧ Q (.bl (!decide (x = .non))) H) notNonD := by
  intro S H x y p q d Q sh i1 i2 e fin
  unfold notNonD at e
  split at e <;> cases e
  cases i2
  refine ⟨rfl, ?_⟩
  rw [is_non i1]
  exact fin _ S H (Kp.refl sh) (.bl _)
theorem eb_isN (ha : EE X T W a fa) (hb : EE X T W b fb) : EB X T W (.Compare a [.Is] [b] pos) (v2 isNonD fa fb) := eb_cmp op_isN o_isN ha hb (nomark _)
theorem eb_notN (ha : EE X T W a fa) (hb : EE X T W b fb) : EB X T W (.Compare a [.IsNot] [b] pos) (v2 notNonD fa fb) := eb_cmp op_notN o_notN ha hb (nomark _)
def notD : D → Option D
  | .bl b => some (.bl (!b))
  | _ => none
def vAnd (fa fb : FE) : FE := fun ρ => R1 (fa ρ) fun
  | .bl true => fb ρ
  | .bl false => some (.ok (.bl false))
  | _ => none
def vOr (fa fb : FE) : FE := fun ρ => R1 (fa ρ) fun
  | .bl true => some (.ok (.bl true))
  | .bl false => fb ρ
  | _ => none
theorem eb_not (ha : EB X T W a fa) : EB X T W (.UnaryOp .Not a pos) (v1 notD fa) := by
  refine PT.weak (pt_not ha) fun σ H Q q => ?_
  obtain ⟨ρ, S, z, sh, rep, e, fin⟩ := q
  refine tF_go sh rep e fin fun p x S1 H1 k1 i1 rep1 e1 fin1 => ?_
  obtain ⟨d, e3, rfl⟩ := okO_inv e1
  unfold notD at e3
  split at e3 <;> cases e3
  cases i1
  obtain ⟨b, e4, q⟩ := fin1 _ S1 H1 (Kp.refl k1.sub) (.bl _)
  cases e4
  exact ⟨_, rfl, q⟩
theorem ew_and1 (ha : EB X T W a fa) : EW X T W (.BoolOp .And [a] pos) fa := pw_and1 ha
theorem ew_or1 (ha : EB X T W a fa) : EW X T W (.BoolOp .Or [a] pos) fa := pw_or1 ha
theorem ew_and (ha : EB X T W a fa) (hb : EW X T W (.BoolOp .And (b :: rest) pos) fb) : EW X T W (.BoolOp .And (a :: b :: rest) pos) (vAnd fa fb) := by
  refine PW.weak (pw_and ha hb) fun σ H Q q => ?_
  obtain ⟨ρ, S, z, sh, rep, e, fin⟩ := q
  refine tF_go sh rep e fin fun p x S1 H1 k1 i1 rep1 e1 fin1 => ?_
  split at e1
  · cases i1
    refine ⟨true, rfl, ?_⟩
    show tFT T W fb σ H1 Q
    exact ⟨ρ, S1, z, k1.sub, rep1, e1, fin1⟩
  · cases i1
    cases e1
    refine ⟨false, rfl, ?_⟩
    obtain ⟨b, e4, q⟩ := fin1 _ S1 H1 (Kp.refl k1.sub) (.bl _)
    cases e4
    exact q
  · cases e1
theorem ew_or (ha : EB X T W a fa) (hb : EW X T W (.BoolOp .Or (b :: rest) pos) fb) : EW X T W (.BoolOp .Or (a :: b :: rest) pos) (vOr fa fb) := by
  refine PW.weak (pw_or ha hb) fun σ H Q q => ?_
  obtain ⟨ρ, S, z, sh, rep, e, fin⟩ := q
  refine tF_go sh rep e fin fun p x S1 H1 k1 i1 rep1 e1 fin1 => ?_
  split at e1
  · cases i1
    cases e1
    refine ⟨true, rfl, ?_⟩
    obtain ⟨b, e4, q⟩ := fin1 _ S1 H1 (Kp.refl k1.sub) (.bl _)
    cases e4
    exact q
  · cases i1
    refine ⟨false, rfl, ?_⟩
    show tFT T W fb σ H1 Q
    exact ⟨ρ, S1, z, k1.sub, rep1, e1, fin1⟩
  · cases e1
theorem eb_w (h : EW X T W e f) : EB X T W e f := L2.PW.pt h
/-- as values -/
theorem ee_one {op} (ha : EE X T W a fa) : EE X T W (.BoolOp op [a] pos) fa := pe_one ha
theorem ee_and (ha : EE X T W a fa) (hb : EE X T W (.BoolOp .And (b :: rest) pos) fb) : EE X T W (.BoolOp .And (a :: b :: rest) pos) (vAnd fa fb) := by
  refine PE.weak (pe_and ha hb) fun σ H Q q => ?_
  obtain ⟨ρ, S, z, sh, rep, e, fin⟩ := q
  refine tF_go sh rep e fin fun p x S1 H1 k1 i1 rep1 e1 fin1 => ?_
  split at e1
  · cases i1
    refine ⟨true, rfl, ?_⟩
    show tF T W fb σ H1 Q
    exact ⟨ρ, S1, z, k1.sub, rep1, e1, fin1⟩
  · cases i1
    cases e1
    exact ⟨false, rfl, fin1 _ S1 H1 (Kp.refl k1.sub) (.bl _)⟩
  · cases e1
theorem ee_or (ha : EE X T W a fa) (hb : EE X T W (.BoolOp .Or (b :: rest) pos) fb) : EE X T W (.BoolOp .Or (a :: b :: rest) pos) (vOr fa fb) := by
  refine PE.weak (pe_or ha hb) fun σ H Q q => ?_
  obtain ⟨ρ, S, z, sh, rep, e, fin⟩ := q
  refine tF_go sh rep e fin fun p x S1 H1 k1 i1 rep1 e1 fin1 => ?_
  split at e1
  · cases i1
    cases e1
    exact ⟨true, rfl, fin1 _ S1 H1 (Kp.refl k1.sub) (.bl _)⟩
  · cases i1
    refine ⟨false, rfl, ?_⟩
    show tF T W fb σ H1 Q
    exact ⟨ρ, S1, z, k1.sub, rep1, e1, fin1⟩
  · cases e1
theorem ee_not (ha : EE X T W a fa) : EE X T W (.UnaryOp .Not a pos) (v1 notD fa) := by
  refine PE.weak (pe_not ha) fun σ H Q q => ?_
  obtain ⟨ρ, S, z, sh, rep, e, fin⟩ := q
  refine tF_go sh rep e fin fun p x S1 H1 k1 i1 rep1 e1 fin1 => ?_
  obtain ⟨d, e3, rfl⟩ := okO_inv e1
  unfold notD at e3
  split at e3 <;> cases e3
  cases i1
  exact ⟨_, rfl, fin1 _ S1 H1 (Kp.refl k1.sub) (.bl _)⟩
def vIf (fc fa fb : FE) : FE := fun ρ => R1 (fc ρ) fun
  | .bl true => fa ρ
  | .bl false => fb ρ
  | _ => none
theorem ee_if (hc : EB X T W c fc) (ha : EE X T W a fa) (hb : EE X T W b fb) : EE X T W (.IfExp c a b pos) (vIf fc fa fb) := by
  refine PE.weak (pe_ifExp hc ha hb) fun σ H Q q => ?_
  obtain ⟨ρ, S, z, sh, rep, e, fin⟩ := q
  refine tF_go sh rep e fin fun p x S1 H1 k1 i1 rep1 e1 fin1 => ?_
  split at e1
  · cases i1
    refine ⟨true, rfl, ?_⟩
    show tF T W fa σ H1 Q
    exact ⟨ρ, S1, z, k1.sub, rep1, e1, fin1⟩
  · cases i1
    refine ⟨false, rfl, ?_⟩
    show tF T W fb σ H1 Q
    exact ⟨ρ, S1, z, k1.sub, rep1, e1, fin1⟩
  · cases e1

/-! ### arguments, displays, new lists -/
inductive RL where
  | ok (ds : List D)
  | ex (x : Xn)
abbrev FL := Env → Option RL
def RLEnd (T : Tab) (W : WX) (S H : Hp) (σ : L2.St) (Q : List V → Hp → Prop) : RL → Prop
  | .ok ds => ∀ vs S' H', Kp S H S' H' → Iss T S' vs ds → Q vs H'
  | .ex x => ∀ S' H' cls d, Kp S H S' H' → XIs T S' x cls d → W cls d σ H'
theorem RLEnd.mono {S H S' H' : Hp} {σ : L2.St} {Q : List V → Hp → Prop} {r : RL} (k : Kp S H S' H') (h : RLEnd T W S H σ Q r) : RLEnd T W S' H' σ Q r := by
  cases r with
  | ok d => exact fun v S2 H2 k2 i => h v S2 H2 (k.trans k2) i
  | ex x => exact fun S2 H2 cls d k2 i => h S2 H2 cls d (k.trans k2) i
def tA (T : Tab) (W : WX) (f : FL) : TA := fun σ H Q => ∃ ρ S r, EV.Sub S H ∧ RepE T S ρ σ ∧ f ρ = some r ∧ RLEnd T W S H σ Q r
def EA (X : Cx) (T : Tab) (W : WX) (es : List Expr) (f : FL) : Prop := PA X es (tA T W f)
def aNil : FL := fun _ => some (.ok [])
def R1L (o : Option R) (k : D → Option RL) : Option RL := match o with
  | some (.ok d) => k d
  | some (.ex x) => some (.ex x)
  | none => none
def RL1 (o : Option RL) (k : List D → Option R) : Option R := match o with
  | some (.ok d) => k d
  | some (.ex x) => some (.ex x)
  | none => none
def RLL (o : Option RL) (k : List D → Option RL) : Option RL := match o with
  | some (.ok d) => k d
  | some (.ex x) => some (.ex x)
  | none => none
@[simp] theorem R1L_ok (d : D) (k : D → Option RL) : R1L (some (.ok d)) k = k d := rfl
@[simp] theorem R1L_ex (x : Xn) (k : D → Option RL) : R1L (some (.ex x)) k = some (.ex x) := rfl
@[simp] theorem RL1_ok (d : List D) (k : List D → Option R) : RL1 (some (.ok d)) k = k d := rfl
@[simp] theorem RL1_ex (x : Xn) (k : List D → Option R) : RL1 (some (.ex x)) k = some (.ex x) := rfl
@[simp] theorem RLL_ok (d : List D) (k : List D → Option RL) : RLL (some (.ok d)) k = k d := rfl
@[simp] theorem RLL_ex (x : Xn) (k : List D → Option RL) : RLL (some (.ex x)) k = some (.ex x) := rfl
def aCons (fa : FE) (fr : FL) : FL := fun ρ => R1L (fa ρ) fun d => RLL (fr ρ) fun ds => some (.ok (d :: ds))
theorem tF_goL {S H : Hp} {σ : L2.St} {ρ : Env} {Q : List V → Hp → Prop} {P : VK} {f : FE} {k : D → Option RL} {r : RL} (sh : EV.Sub S H) (rep : RepE T S ρ σ) (h : R1L (f ρ) k = some r) (fin : RLEnd T W S H σ Q r)
    (go : ∀ d v S' H', Kp S H S' H' → Is T S' v d → RepE T S' ρ σ → k d = some r → RLEnd T W S' H' σ Q r → P v H') : tF T W f σ H P := by
  cases e : f ρ with
  | none => rw [e] at h; cases h
  | some q =>
    rw [e] at h
    refine ⟨ρ, S, q, sh, rep, e, ?_⟩
    cases q with
    | ok d => exact fun v S' H' kp i => go d v S' H' kp i (rep.mono kp.s) h (fin.mono kp)
    | ex x =>
      cases h
      exact fin
theorem tA_goL {S H : Hp} {σ : L2.St} {ρ : Env} {Q P : List V → Hp → Prop} {f : FL} {k : List D → Option RL} {r : RL} (sh : EV.Sub S H) (rep : RepE T S ρ σ) (h : RLL (f ρ) k = some r) (fin : RLEnd T W S H σ Q r)
    (go : ∀ ds vs S' H', Kp S H S' H' → Iss T S' vs ds → RepE T S' ρ σ → k ds = some r → RLEnd T W S' H' σ Q r → P vs H') : tA T W f σ H P := by
  cases e : f ρ with
  | none => rw [e] at h; cases h
  | some q =>
    rw [e] at h
    refine ⟨ρ, S, q, sh, rep, e, ?_⟩
    cases q with
    | ok d => exact fun v S' H' kp i => go d v S' H' kp i (rep.mono kp.s) h (fin.mono kp)
    | ex x =>
      cases h
      exact fin
theorem tA_go {S H : Hp} {σ : L2.St} {ρ : Env} {Q : VK} {P : List V → Hp → Prop} {f : FL} {k : List D → Option R} {r : R} (sh : EV.Sub S H) (rep : RepE T S ρ σ) (h : RL1 (f ρ) k = some r) (fin : REnd T W S H σ Q r)
    (go : ∀ ds vs S' H', Kp S H S' H' → Iss T S' vs ds → RepE T S' ρ σ → k ds = some r → REnd T W S' H' σ Q r → P vs H') : tA T W f σ H P := by
  cases e : f ρ with
  | none => rw [e] at h; cases h
  | some q =>
    rw [e] at h
    refine ⟨ρ, S, q, sh, rep, e, ?_⟩
    cases q with
    | ok d => exact fun v S' H' kp i => go d v S' H' kp i (rep.mono kp.s) h (fin.mono kp)
    | ex x =>
      cases h
      exact fin
theorem PA.weak {es : List Expr} {t u : TA} (h : PA X es t) (w : ∀ σ H Q, u σ H Q → t σ H Q) : PA X es u := ⟨fun po pins s σ H Q I q => h.run po pins s σ H Q I (w σ H Q q)⟩
theorem ea_nil : EA X T W [] aNil := PA.weak pa_nil fun σ H Q q => by
  obtain ⟨ρ, S, r, sh, rep, e, fin⟩ := q
  cases e
  exact fin [] S H (Kp.refl sh) .nil
theorem ea_cons {fr : FL} (ha : EE X T W a fa) (hr : EA X T W es fr) (hs : starEach (a :: es) X.env = (false, eval a X.env) :: starEach es X.env := by rfl) : EA X T W (a :: es) (aCons fa fr) := by
  refine PA.weak (pa_cons ha hr hs) fun σ H Q q => ?_
  obtain ⟨ρ, S, r, sh, rep, e, fin⟩ := q
  refine tF_goL sh rep e fin fun d v S1 H1 k1 i1 rep1 e1 fin1 => ?_
  refine tA_goL k1.sub rep1 e1 fin1 fun ds vs S2 H2 k2 i2 rep2 e2 fin2 => ?_
  cases e2
  exact fin2 _ S2 H2 (Kp.refl k2.sub) (.cons (i1.mono k2.s) i2)
def tupD (ds : List D) : Option D := if ds.length ≤ 100000 then some (.tup ds) else none
def vTup (f : FL) : FE := fun ρ => RL1 (f ρ) fun ds => okO (tupD ds)
theorem ee_tup {x1} {f : FL} (h : EA X T W es f) : EE X T W (.Tuple es x1 pos) (vTup f) := by
  refine PE.weak (pe_tup h) fun σ H Q q => ?_
  obtain ⟨ρ, S, r, sh, rep, e, fin⟩ := q
  refine tA_go sh rep e fin fun ds vs S1 H1 k1 i1 rep1 e1 fin1 => ?_
  obtain ⟨d, e2, rfl⟩ := okO_inv e1
  unfold tupD at e2
  split at e2 <;> cases e2
  rename_i hl
  refine ⟨by rw [i1.length]; exact line_of hl, fun p hp => ?_⟩
  have k := Kp.new (o := .tup vs) k1.sub hp
  exact fin1 _ _ _ k (.tup (SqT.of upd_same) (i1.mono k.s))

/-- a new list, in nobody's hands -/
def RNEnd (T : Tab) (W : WX) (S H : Hp) (σ : L2.St) (Q : VK) : RL → Prop
  | .ok ds => ∀ a vs S' H', Kp S H S' H' → H a = none → S' a = none → H' a = some (.lst vs) → Iss T S' vs ds → Q (.ref a) H'
  | .ex x => ∀ S' H' cls d, Kp S H S' H' → XIs T S' x cls d → W cls d σ H'
theorem RNEnd.mono {S H S' H' : Hp} {σ : L2.St} {Q : VK} {r : RL} (k : Kp S H S' H') (h : RNEnd T W S H σ Q r) : RNEnd T W S' H' σ Q r := by
  cases r with
  | ok d => exact fun a vs S2 H2 k2 h1 h2 h3 i => h a vs S2 H2 (k.trans k2) (k.h.free h1) h2 h3 i
  | ex x => exact fun S2 H2 cls d k2 i => h S2 H2 cls d (k.trans k2) i
def tN (T : Tab) (W : WX) (f : FL) : TE := fun σ H Q => ∃ ρ S r, EV.Sub S H ∧ RepE T S ρ σ ∧ f ρ = some r ∧ RNEnd T W S H σ Q r
def EN (X : Cx) (T : Tab) (W : WX) (e : Expr) (f : FL) : Prop := PE X e (tN T W f)
def vL (f : FL) : FE := fun ρ => RL1 (f ρ) fun ds => some (.ok (.lst ds))
/-- what is hidden is laid open -/
theorem Kp.open {S H S' H' : Hp} {a : Addr} {o : HO} (k : Kp S H S' H') (hn : H a = none) (h' : H' a = some o) (hs : S' a = none) : Kp S H (upd S' a o) H' := by
  refine ⟨fun b u e => ?_, k.h, ⟨fun b u e => ?_, fun b u e f => ?_⟩, fun b h1 h2 => ?_⟩
  · have : b ≠ a := fun z => by
      have := k.s b u e
      rw [z, hs] at this; cases this
    rw [upd_ne this]; exact k.s b u e
  · by_cases h : b = a
    · subst h; rw [upd_same] at e; rw [← e]; exact h'
    · rw [upd_ne h] at e; exact k.sub.same b u e
  · by_cases h : b = a
    · subst h; rw [upd_same]; rw [h'] at e; exact e
    · rw [upd_ne h]; exact k.sub.fix b u e f
  · have : b ≠ a := fun z => h1 (z ▸ hn)
    rw [upd_ne this]; exact k.hid b h1 h2
theorem Same.opened {S' : Hp} {a : Addr} {o : HO} (hs : S' a = none) : Same S' (upd S' a o) := fun b u e => by
  have : b ≠ a := fun z => by rw [z, hs] at e; cases e
  rw [upd_ne this]; exact e
theorem en_ee {f : FL} (h : EN X T W e f) : EE X T W e (vL f) := by
  refine PE.weak h fun σ H Q q => ?_
  obtain ⟨ρ, S, r, sh, rep, e, fin⟩ := q
  unfold vL at e
  cases e1 : f ρ with
  | none => rw [e1] at e; cases e
  | some z =>
    rw [e1] at e
    refine ⟨ρ, S, z, sh, rep, e1, ?_⟩
    cases z with
    | ok ds =>
      cases e
      intro a vs S' H' k hn hs h' i
      exact fin _ _ _ (k.open hn h' hs) (.lst upd_same (i.mono (Same.opened hs)))
    | ex x =>
      cases e
      exact fin
theorem tA_goN {S H : Hp} {σ : L2.St} {ρ : Env} {Q : VK} {P : List V → Hp → Prop} {f : FL} {k : List D → Option RL} {r : RL} (sh : EV.Sub S H) (rep : RepE T S ρ σ) (h : RLL (f ρ) k = some r) (fin : RNEnd T W S H σ Q r)
    (go : ∀ ds vs S' H', Kp S H S' H' → Iss T S' vs ds → RepE T S' ρ σ → k ds = some r → RNEnd T W S' H' σ Q r → P vs H') : tA T W f σ H P := by
  cases e : f ρ with
  | none => rw [e] at h; cases h
  | some q =>
    rw [e] at h
    refine ⟨ρ, S, q, sh, rep, e, ?_⟩
    cases q with
    | ok d => exact fun v S' H' kp i => go d v S' H' kp i (rep.mono kp.s) h (fin.mono kp)
    | ex x =>
      cases h
      exact fin
theorem tF_goN {S H : Hp} {σ : L2.St} {ρ : Env} {Q P : VK} {f : FE} {k : D → Option RL} {r : RL} (sh : EV.Sub S H) (rep : RepE T S ρ σ) (h : R1L (f ρ) k = some r) (fin : RNEnd T W S H σ Q r)
    (go : ∀ d v S' H', Kp S H S' H' → Is T S' v d → RepE T S' ρ σ → k d = some r → RNEnd T W S' H' σ Q r → P v H') : tF T W f σ H P := by
  cases e : f ρ with
  | none => rw [e] at h; cases h
  | some q =>
    rw [e] at h
    refine ⟨ρ, S, q, sh, rep, e, ?_⟩
    cases q with
    | ok d => exact fun v S' H' kp i => go d v S' H' kp i (rep.mono kp.s) h (fin.mono kp)
    | ex x =>
      cases h
      exact fin
def lenOk (f : FL) : FL := fun ρ => RLL (f ρ) fun ds => if ds.length ≤ 100000 then some (.ok ds) else none
theorem en_lst {f : FL} (h : EA X T W es f) : EN X T W (.List es pos) (lenOk f) := by
  refine PE.weak (pe_lst h) fun σ H Q q => ?_
  obtain ⟨ρ, S, r, sh, rep, e, fin⟩ := q
  refine tA_goN sh rep e fin fun ds vs S1 H1 k1 i1 rep1 e1 fin1 => ?_
  split at e1 <;> cases e1
  rename_i hl
  refine ⟨by rw [i1.length]; exact line_of hl, fun p hp => ?_⟩
  exact fin1 p vs S1 _ (Kp.hide k1.sub hp rfl) hp (k1.sub.same.free hp) upd_same i1
/-- operators that make a list -/
def nAdd (fa fb : FE) : FL := fun ρ => R1L (fa ρ) fun p => R1L (fb ρ) fun q => match p, q with
  | .lst xs, .lst ys => if xs.length + ys.length ≤ 100000 then some (.ok (xs ++ ys)) else none
  | _, _ => none
def nRep (fa fb : FE) : FL := fun ρ => R1L (fa ρ) fun p => R1L (fb ρ) fun q => match p, q with
  | .lst xs, .int k => if -(2 ^ 63) ≤ k ∧ k < 2 ^ 63 ∧ xs.length * k.toNat ≤ 100000 then some (.ok (List.replicate k.toNat xs).flatten) else none
  | _, _ => none
theorem en_add (ha : EE X T W a fa) (hb : EE X T W b fb) : EN X T W (.BinOp a .Add b pos) (nAdd fa fb) := by
  refine PE.weak (pe_op op_cat ha hb) fun σ H Q q => ?_
  obtain ⟨ρ, S, r, sh, rep, e, fin⟩ := q
  refine tF_goN sh rep e fin fun p x S1 H1 k1 i1 rep1 e1 fin1 => ?_
  refine tF_goN k1.sub rep1 e1 fin1 fun p2 y S2 H2 k2 i2 rep2 e2 fin2 => ?_
  split at e2 <;> try cases e2
  split at e2 <;> cases e2
  rename_i hl
  have i1' := i1.mono k2.s
  cases i1' with
  | @lst a1 vs1 _ h1 s1 => cases i2 with
    | @lst a2 vs2 _ h2 s2 =>
      refine ⟨_, _, _, _, rfl, rfl, k2.sub.same _ _ h1, k2.sub.same _ _ h2, ?_, fun np hp => ?_⟩
      · rw [s1.length, s2.length]; exact line_of hl
      · exact fin2 np _ S2 _ (Kp.hide k2.sub hp rfl) hp (k2.sub.same.free hp) upd_same (s1.append s2)
theorem en_rep (ha : EE X T W a fa) (hb : EE X T W b fb) : EN X T W (.BinOp a .Mult b pos) (nRep fa fb) := by
  refine PE.weak (pe_op op_rep ha hb) fun σ H Q q => ?_
  obtain ⟨ρ, S, r, sh, rep, e, fin⟩ := q
  refine tF_goN sh rep e fin fun p x S1 H1 k1 i1 rep1 e1 fin1 => ?_
  refine tF_goN k1.sub rep1 e1 fin1 fun p2 y S2 H2 k2 i2 rep2 e2 fin2 => ?_
  split at e2 <;> try cases e2
  split at e2 <;> cases e2
  rename_i hl
  have i1' := i1.mono k2.s
  cases i1' with
  | @lst a1 vs1 _ h1 s1 =>
    cases i2
    refine ⟨_, _, _, rfl, rfl, k2.sub.same _ _ h1, hl.1, hl.2.1, ?_, fun np hp => ?_⟩
    · rw [s1.length]; exact line_of hl.2.2
    · exact fin2 np _ S2 _ (Kp.hide k2.sub hp rfl) hp (k2.sub.same.free hp) upd_same (s1.rep _)
end
end EV
end

section
set_option maxHeartbeats 4000000
/-! EV4: the frame with lists of its own; statements. -/
namespace EV
open PySem L2

/-! ### the frame -/
structure Rep (T : Tab) (ρ : Env) (σ : L2.St) (S H : Hp) (L : Nat → Option Addr) : Prop where
  sub : EV.Sub S H
  len : σ.length = ρ.length
  v : ∀ (i : Nat) (d : D), ρ[i]? = some (.v d) → ∃ v, σ[i]? = some (some v) ∧ Is T S v d
  own : ∀ (i : Nat) (ds : List D), ρ[i]? = some (.own ds) → ∃ a vs, L i = some a ∧ σ[i]? = some (some (.ref a)) ∧ H a = some (.lst vs) ∧ S a = none ∧ Iss T S vs ds
  ins : ∀ (i c : Nat) (ds : List D), ρ[i]? = some (.ins c ds) → ∃ a dx vs, L i = some a ∧ σ[i]? = some (some (.ref a)) ∧ H a = some (.ins (T.cls c) dx ((T.flds c).zip vs)) ∧ S a = none ∧ vs.length ≤ (T.flds c).length ∧ Iss T S vs ds
  inj : ∀ i j a, L i = some a → L j = some a → i = j
  dom : ∀ i a, L i = some a → (∃ ds, ρ[i]? = some (.own ds)) ∨ ∃ c ds, ρ[i]? = some (.ins c ds)
structure Stp (S H : Hp) (L : Nat → Option Addr) (S' H' : Hp) (L' : Nat → Option Addr) : Prop where
  s : Same S S'
  fr : ∀ a o, H a = some o → (∀ i, L i ≠ some a) → H' a = some o
  hid : ∀ a, H a ≠ none → S a = none → (∀ i, L i ≠ some a) → S' a = none
  own : ∀ i a, L' i = some a → (∃ j, L j = some a) ∨ (H a = none ∧ ∃ xs, H' a = some (.lst xs))
  lk : ∀ a xs, H a = some (.lst xs) → ∃ ys, H' a = some (.lst ys)
  ik : ∀ a C dx fs, H a = some (.ins C dx fs) → ∃ fs', H' a = some (.ins C dx fs')
section
variable {T : Tab} {ρ : Env} {σ : L2.St} {S H S' H' S2 H2 : Hp} {L L' L2' : Nat → Option Addr}
theorem Stp.refl : Stp S H L S H L := ⟨Same.refl S, fun _ _ h _ => h, fun _ _ h _ => h, fun i a h => .inl ⟨i, h⟩, fun _ xs h => ⟨xs, h⟩, fun _ _ _ fs h => ⟨fs, h⟩⟩
theorem Stp.trans (a : Stp S H L S' H' L') (b : Stp S' H' L' S2 H2 L2') : Stp S H L S2 H2 L2' := by
  have nl : ∀ x o, H x = some o → (∀ i, L i ≠ some x) → ∀ i, L' i ≠ some x := fun x o h n i z => by
    rcases a.own i x z with ⟨j, q⟩ | ⟨q, _⟩
    · exact n j q
    · rw [h] at q; cases q
  refine ⟨a.s.trans b.s, fun x o h n => b.fr x o (a.fr x o h n) (nl x o h n), fun x h1 h2 n => ?_, fun i x z => ?_, fun x xs h => ?_, fun x C dx fs h => ?_⟩
  · cases q : H x with
    | none => exact absurd q h1
    | some o => exact b.hid x (by rw [a.fr x o q n]; intro z; cases z) (a.hid x h1 h2 n) (nl x o q n)
  · rcases b.own i x z with ⟨j, q⟩ | ⟨q, q2⟩
    · rcases a.own j x q with q | ⟨q, xs, q2⟩
      · exact .inl q
      · exact .inr ⟨q, b.lk x xs q2⟩
    · by_cases hj : ∃ j, L j = some x
      · exact .inl hj
      · refine .inr ⟨?_, q2⟩
        cases e : H x with
        | none => rfl
        | some o =>
          rw [a.fr x o e fun i z => hj ⟨i, z⟩] at q
          cases q
  · obtain ⟨ys, h1⟩ := a.lk x xs h
    exact b.lk x ys h1
  · obtain ⟨ys, h1⟩ := a.ik x C dx fs h
    exact b.ik x C dx ys h1
theorem Kp.stp (k : Kp S H S' H') : Stp S H L S' H' L := ⟨k.s, fun a o h _ => k.h a o h, fun a h1 h2 _ => k.hid a h1 h2, fun i a h => .inl ⟨i, h⟩, fun a xs h => ⟨xs, k.h a _ h⟩, fun a _ _ fs h => ⟨fs, k.h a _ h⟩⟩
theorem Rep.kp (r : Rep T ρ σ S H L) (k : Kp S H S' H') : Rep T ρ σ S' H' L := by
  refine ⟨k.sub, r.len, fun i d e => ?_, fun i ds e => ?_, fun i c ds e => ?_, r.inj, r.dom⟩
  · obtain ⟨v, h1, h2⟩ := r.v i d e
    exact ⟨v, h1, h2.mono k.s⟩
  · obtain ⟨a, vs, h1, h2, h3, h4, h5⟩ := r.own i ds e
    exact ⟨a, vs, h1, h2, k.h a _ h3, k.hid a (by rw [h3]; intro z; cases z) h4, h5.mono k.s⟩
  · obtain ⟨a, dx, vs, h1, h2, h3, h4, h5, h6⟩ := r.ins i c ds e
    exact ⟨a, dx, vs, h1, h2, k.h a _ h3, k.hid a (by rw [h3]; intro z; cases z) h4, h5, h6.mono k.s⟩
theorem Rep.repE (r : Rep T ρ σ S H L) : RepE T S ρ σ := ⟨r.len, r.v⟩
/-- a slot's list in no slot's hands -/
def off (L : Nat → Option Addr) (i : Nat) : Nat → Option Addr := fun j => if j = i then none else L j
theorem off_some {i j : Nat} {a : Addr} (h : off L i j = some a) : j ≠ i ∧ L j = some a := by
  unfold off at h
  split at h
  · cases h
  · exact ⟨by assumption, h⟩
theorem off_ne {i j : Nat} (h : j ≠ i) : off L i j = L j := if_neg h
theorem Stp.off {i : Nat} : Stp S H L S H (off L i) := ⟨Same.refl S, fun _ _ h _ => h, fun _ _ h _ => h, fun j a h => .inl ⟨j, (off_some h).2⟩, fun _ xs h => ⟨xs, h⟩, fun _ _ _ fs h => ⟨fs, h⟩⟩
/-- a slot is set to a value that stands -/
theorem Rep.setV {i : Nat} {v : V} {d : D} (r : Rep T ρ σ S H L) (h : Is T S v d) : Rep T (ρ.set i (.v d)) (σ.set i (some v)) S H (EV.off L i) := by
  refine ⟨r.sub, by simp [r.len], fun j e q => ?_, fun j ds q => ?_, fun j c ds q => ?_, fun j k a h1 h2 => ?_, fun j a q => ?_⟩
  · by_cases hj : i = j
    · subst hj
      by_cases hl : i < ρ.length
      · rw [List.getElem?_set_self hl] at q
        cases q
        exact ⟨v, List.getElem?_set_self (by rw [r.len]; exact hl), h⟩
      · rw [List.getElem?_eq_none (by simpa using hl)] at q; cases q
    · rw [List.getElem?_set_ne hj] at q ⊢
      exact r.v j e q
  · by_cases hj : i = j
    · subst hj
      by_cases hl : i < ρ.length
      · rw [List.getElem?_set_self hl] at q; cases q
      · rw [List.getElem?_eq_none (by simpa using hl)] at q; cases q
    · rw [List.getElem?_set_ne hj] at q ⊢
      rw [off_ne (Ne.symm hj)]
      exact r.own j ds q
  · by_cases hj : i = j
    · subst hj
      by_cases hl : i < ρ.length
      · rw [List.getElem?_set_self hl] at q; cases q
      · rw [List.getElem?_eq_none (by simpa using hl)] at q; cases q
    · rw [List.getElem?_set_ne hj] at q ⊢
      rw [off_ne (Ne.symm hj)]
      exact r.ins j c ds q
  · exact r.inj j k a (off_some h1).2 (off_some h2).2
  · obtain ⟨hj, q⟩ := off_some q
    rw [List.getElem?_set_ne (Ne.symm hj)]
    exact r.dom j a q
/-- a slot is set to a new list of its own -/
def on (L : Nat → Option Addr) (i : Nat) (a : Addr) : Nat → Option Addr := fun j => if j = i then some a else L j
theorem Rep.setOwn {i : Nat} {a : Addr} {vs : List V} {ds : List D} (hi : i < ρ.length) (r : Rep T ρ σ S H L) (ha : H a = some (.lst vs)) (hs : S a = none) (hn : ∀ j, L j ≠ some a) (h : Iss T S vs ds) : Rep T (ρ.set i (.own ds)) (σ.set i (some (.ref a))) S H (EV.on L i a) := by
  have on_ne : ∀ {j}, j ≠ i → EV.on L i a j = L j := fun h => if_neg h
  have on_same : EV.on L i a i = some a := if_pos rfl
  refine ⟨r.sub, by simp [r.len], fun j e q => ?_, fun j es q => ?_, fun j c es q => ?_, fun j k b h1 h2 => ?_, fun j b q => ?_⟩
  · by_cases hj : i = j
    · subst hj
      rw [List.getElem?_set_self hi] at q; cases q
    · rw [List.getElem?_set_ne hj] at q ⊢
      exact r.v j e q
  · by_cases hj : i = j
    · subst hj
      rw [List.getElem?_set_self hi] at q; cases q
      exact ⟨a, vs, on_same, List.getElem?_set_self (by rw [r.len]; exact hi), ha, hs, h⟩
    · rw [List.getElem?_set_ne hj] at q ⊢
      rw [on_ne (Ne.symm hj)]
      exact r.own j es q
  · by_cases hj : i = j
    · subst hj
      rw [List.getElem?_set_self hi] at q; cases q
    · rw [List.getElem?_set_ne hj] at q ⊢
      rw [on_ne (Ne.symm hj)]
      exact r.ins j c es q
  · by_cases hj : j = i
    · subst hj
      rw [on_same] at h1; cases h1
      by_cases hk : k = j
      · exact hk.symm
      · rw [on_ne hk] at h2; exact absurd h2 (hn k)
    · rw [on_ne hj] at h1
      by_cases hk : k = i
      · subst hk
        rw [on_same] at h2; cases h2
        exact absurd h1 (hn j)
      · rw [on_ne hk] at h2; exact r.inj j k b h1 h2
  · by_cases hj : j = i
    · subst hj
      exact .inl ⟨ds, List.getElem?_set_self hi⟩
    · rw [on_ne hj] at q
      rw [List.getElem?_set_ne (Ne.symm hj)]
      exact r.dom j b q
theorem Rep.setNone {i : Nat} (r : Rep T ρ σ S H L) : Rep T (ρ.set i .no) (σ.set i none) S H (EV.off L i) := by
  refine ⟨r.sub, by simp [r.len], fun j e q => ?_, fun j ds q => ?_, fun j c ds q => ?_, fun j k a h1 h2 => ?_, fun j a q => ?_⟩
  · by_cases hj : i = j
    · subst hj
      by_cases hl : i < ρ.length
      · rw [List.getElem?_set_self hl] at q; cases q
      · rw [List.getElem?_eq_none (by simpa using hl)] at q; cases q
    · rw [List.getElem?_set_ne hj] at q ⊢
      exact r.v j e q
  · by_cases hj : i = j
    · subst hj
      by_cases hl : i < ρ.length
      · rw [List.getElem?_set_self hl] at q; cases q
      · rw [List.getElem?_eq_none (by simpa using hl)] at q; cases q
    · rw [List.getElem?_set_ne hj] at q ⊢
      rw [off_ne (Ne.symm hj)]
      exact r.own j ds q
  · by_cases hj : i = j
    · subst hj
      by_cases hl : i < ρ.length
      · rw [List.getElem?_set_self hl] at q; cases q
      · rw [List.getElem?_eq_none (by simpa using hl)] at q; cases q
    · rw [List.getElem?_set_ne hj] at q ⊢
      rw [off_ne (Ne.symm hj)]
      exact r.ins j c ds q
  · exact r.inj j k a (off_some h1).2 (off_some h2).2
  · obtain ⟨hj, q⟩ := off_some q
    rw [List.getElem?_set_ne (Ne.symm hj)]
    exact r.dom j a q
/-- a list of the frame's own changes -/
theorem Rep.upd {i : Nat} {a : Addr} {ds ds' : List D} {vs' : List V} (r : Rep T ρ σ S H L) (h : ρ[i]? = some (.own ds)) (hL : L i = some a) (h' : Iss T S vs' ds') : Rep T (ρ.set i (.own ds')) σ S (L2.upd H a (.lst vs')) L := by
  obtain ⟨a0, vs0, e1, e2, e3, e4, e5⟩ := r.own i ds h
  rw [hL] at e1; cases e1
  have hi : i < ρ.length := (List.getElem?_eq_some_iff.mp h).1
  refine ⟨⟨fun b u e => ?_, fun b u e f => ?_⟩, by simp [r.len], fun j e q => ?_, fun j es q => ?_, fun j c es q => ?_, r.inj, fun j b q => ?_⟩
  · have : b ≠ a := fun z => by rw [z, e4] at e; cases e
    rw [upd_ne this]; exact r.sub.same b u e
  · by_cases hb : b = a
    · subst hb; rw [upd_same] at e; cases e; cases f
    · rw [upd_ne hb] at e; exact r.sub.fix b u e f
  · by_cases hj : i = j
    · subst hj
      rw [List.getElem?_set_self hi] at q; cases q
    · rw [List.getElem?_set_ne hj] at q
      exact r.v j e q
  · by_cases hj : i = j
    · subst hj
      rw [List.getElem?_set_self hi] at q; cases q
      exact ⟨a, vs', hL, e2, upd_same, e4, h'⟩
    · rw [List.getElem?_set_ne hj] at q
      obtain ⟨b, vs, q1, q2, q3, q4, q5⟩ := r.own j es q
      have : b ≠ a := fun z => hj (r.inj i j a hL (z ▸ q1))
      exact ⟨b, vs, q1, q2, by rw [upd_ne this]; exact q3, q4, q5⟩
  · by_cases hj : i = j
    · subst hj
      rw [List.getElem?_set_self hi] at q; cases q
    · rw [List.getElem?_set_ne hj] at q
      obtain ⟨b, dx, vs, q1, q2, q3, q4, q5⟩ := r.ins j c es q
      have : b ≠ a := fun z => hj (r.inj i j a hL (z ▸ q1))
      exact ⟨b, dx, vs, q1, q2, by rw [upd_ne this]; exact q3, q4, q5⟩
  · by_cases hj : i = j
    · subst hj
      exact .inl ⟨ds', List.getElem?_set_self hi⟩
    · rw [List.getElem?_set_ne hj]
      exact r.dom j b q
theorem Stp.upd {i : Nat} {a : Addr} {ws vs : List V} (hL : L i = some a) (ha : H a = some (.lst ws)) : Stp S H L S (L2.upd H a (.lst vs)) L :=
  ⟨Same.refl S, fun b u h n => by rw [upd_ne (fun (z : b = a) => n i (by rw [z]; exact hL))]; exact h, fun b _ h _ => h, fun j b h => .inl ⟨j, h⟩, fun b xs h => by
    by_cases hb : b = a
    · subst hb; exact ⟨vs, upd_same⟩
    · exact ⟨xs, by rw [upd_ne hb]; exact h⟩, fun b C dx fs h => by
    have : b ≠ a := fun z => by rw [z, ha] at h; cases h
    exact ⟨fs, by rw [upd_ne this]; exact h⟩⟩
theorem Stp.updI {i : Nat} {a C dx : Addr} {fs0 fs1 : List (Str × V)} (hL : L i = some a) (ha : H a = some (.ins C dx fs0)) : Stp S H L S (L2.upd H a (.ins C dx fs1)) L :=
  ⟨Same.refl S, fun b u h n => by rw [upd_ne (fun (z : b = a) => n i (by rw [z]; exact hL))]; exact h, fun b _ h _ => h, fun j b h => .inl ⟨j, h⟩, fun b xs h => by
    have : b ≠ a := fun z => by rw [z, ha] at h; cases h
    exact ⟨xs, by rw [upd_ne this]; exact h⟩, fun b C' dx' fs h => by
    by_cases hb : b = a
    · subst hb; rw [ha] at h; cases h; exact ⟨fs1, upd_same⟩
    · exact ⟨fs, by rw [upd_ne hb]; exact h⟩⟩
/-- a field of the instance under way is set -/
theorem Rep.updI {i c : Nat} {a dx : Addr} {ds ds' : List D} {vs' : List V} (r : Rep T ρ σ S H L) (h : ρ[i]? = some (.ins c ds)) (hL : L i = some a) (hz : vs'.length ≤ (T.flds c).length) (h' : Iss T S vs' ds') :
    Rep T (ρ.set i (.ins c ds')) σ S (L2.upd H a (.ins (T.cls c) dx ((T.flds c).zip vs'))) L := by
  obtain ⟨a0, dx0, vs0, e1, e2, e3, e4, e5⟩ := r.ins i c ds h
  rw [hL] at e1; cases e1
  have hi : i < ρ.length := (List.getElem?_eq_some_iff.mp h).1
  refine ⟨⟨fun b u e => ?_, fun b u e f => ?_⟩, by simp [r.len], fun j e q => ?_, fun j es q => ?_, fun j c' es q => ?_, r.inj, fun j b q => ?_⟩
  · have : b ≠ a := fun z => by rw [z, e4] at e; cases e
    rw [upd_ne this]; exact r.sub.same b u e
  · by_cases hb : b = a
    · subst hb; rw [upd_same] at e; cases e; cases f
    · rw [upd_ne hb] at e; exact r.sub.fix b u e f
  · by_cases hj : i = j
    · subst hj
      rw [List.getElem?_set_self hi] at q; cases q
    · rw [List.getElem?_set_ne hj] at q
      exact r.v j e q
  · by_cases hj : i = j
    · subst hj
      rw [List.getElem?_set_self hi] at q; cases q
    · rw [List.getElem?_set_ne hj] at q
      obtain ⟨b, vs, q1, q2, q3, q4, q5⟩ := r.own j es q
      have : b ≠ a := fun z => hj (r.inj i j a hL (z ▸ q1))
      exact ⟨b, vs, q1, q2, by rw [upd_ne this]; exact q3, q4, q5⟩
  · by_cases hj : i = j
    · subst hj
      rw [List.getElem?_set_self hi] at q; cases q
      exact ⟨a, dx, vs', hL, e2, upd_same, e4, hz, h'⟩
    · rw [List.getElem?_set_ne hj] at q
      obtain ⟨b, dx', vs, q1, q2, q3, q4, q5⟩ := r.ins j c' es q
      have : b ≠ a := fun z => hj (r.inj i j a hL (z ▸ q1))
      exact ⟨b, dx', vs, q1, q2, by rw [upd_ne this]; exact q3, q4, q5⟩
  · by_cases hj : i = j
    · subst hj
      exact .inr ⟨c, ds', List.getElem?_set_self hi⟩
    · rw [List.getElem?_set_ne hj]
      exact r.dom j b q

/-! ### a list of the frame's own is given out -/
def relS : Sl → Sl
  | .own ds => .v (.lst ds)
  | .ins c ds => .v (.obj c ds)
  | s => s
def rel (i : Nat) (ρ : Env) : Env := match ρ[i]? with
  | some s => ρ.set i (relS s)
  | none => ρ
theorem Rep.rel (r : Rep T ρ σ S H L) (i : Nat) : ∃ S' L', Rep T (EV.rel i ρ) σ S' H L' ∧ Stp S H L S' H L' := by
  have same : ∀ s, ρ[i]? = some s → relS s = s → ∃ S' L', Rep T (EV.rel i ρ) σ S' H L' ∧ Stp S H L S' H L' := fun s e q => by
    refine ⟨S, L, ?_, Stp.refl⟩
    unfold EV.rel
    rw [e]
    show Rep T (ρ.set i (relS s)) σ S H L
    rw [q]
    have hi := (List.getElem?_eq_some_iff.mp e).1
    have : ρ.set i s = ρ := by
      apply List.ext_getElem?
      intro j
      by_cases hj : i = j
      · subst hj; rw [List.getElem?_set_self hi, e]
      · rw [List.getElem?_set_ne hj]
    rw [this]
    exact r
  have go : ∀ (a : Addr) (o : HO) (d : D) (s : Sl), ρ[i]? = some s → relS s = .v d → L i = some a → σ[i]? = some (some (.ref a)) → H a = some o → S a = none → Is T (L2.upd S a o) (.ref a) d → ∃ S' L', Rep T (EV.rel i ρ) σ S' H L' ∧ Stp S H L S' H L' := fun a o d s e q hL hσ hH hS hI => by
    have hi := (List.getElem?_eq_some_iff.mp e).1
    have ss : Same S (L2.upd S a o) := Same.opened hS
    refine ⟨L2.upd S a o, EV.off L i, ?_, ⟨ss, fun _ _ h _ => h, fun b h1 h2 n => ?_, fun j b h => .inl ⟨j, (off_some h).2⟩, fun _ xs h => ⟨xs, h⟩, fun _ _ _ fs h => ⟨fs, h⟩⟩⟩
    · unfold EV.rel
      rw [e]
      show Rep T (ρ.set i (relS s)) σ (L2.upd S a o) H (EV.off L i)
      rw [q]
      refine ⟨⟨fun b u z => ?_, fun b u z f => ?_⟩, by simp [r.len], fun j e q => ?_, fun j es q => ?_, fun j c' es q => ?_, fun j k b h1 h2 => r.inj j k b (off_some h1).2 (off_some h2).2, fun j b z => ?_⟩
      · by_cases hb : b = a
        · subst hb; rw [upd_same] at z; rw [← z]; exact hH
        · rw [upd_ne hb] at z; exact r.sub.same b u z
      · exact ss b u (r.sub.fix b u z f)
      · by_cases hj : i = j
        · subst hj
          rw [List.getElem?_set_self hi] at q; cases q
          exact ⟨_, hσ, hI⟩
        · rw [List.getElem?_set_ne hj] at q
          obtain ⟨v, h1, h2⟩ := r.v j e q
          exact ⟨v, h1, h2.mono ss⟩
      · by_cases hj : i = j
        · subst hj
          rw [List.getElem?_set_self hi] at q; cases q
        · rw [List.getElem?_set_ne hj] at q
          obtain ⟨b, vs, q1, q2, q3, q4, q5⟩ := r.own j es q
          have : b ≠ a := fun z => hj (r.inj i j a hL (z ▸ q1))
          exact ⟨b, vs, by rw [off_ne (Ne.symm hj)]; exact q1, q2, q3, by rw [upd_ne this]; exact q4, q5.mono ss⟩
      · by_cases hj : i = j
        · subst hj
          rw [List.getElem?_set_self hi] at q; cases q
        · rw [List.getElem?_set_ne hj] at q
          obtain ⟨b, dx', vs, q1, q2, q3, q4, q5, q6⟩ := r.ins j c' es q
          have : b ≠ a := fun z => hj (r.inj i j a hL (z ▸ q1))
          exact ⟨b, dx', vs, by rw [off_ne (Ne.symm hj)]; exact q1, q2, q3, by rw [upd_ne this]; exact q4, q5, q6.mono ss⟩
      · obtain ⟨hj, z⟩ := off_some z
        rw [List.getElem?_set_ne (Ne.symm hj)]
        exact r.dom j b z
    · rw [upd_ne (fun (z : b = a) => n i (by rw [z]; exact hL))]
      exact h2
  cases e : ρ[i]? with
  | none =>
    refine ⟨S, L, ?_, Stp.refl⟩
    unfold EV.rel
    rw [e]
    exact r
  | some s =>
    cases s with
    | no => exact same _ e rfl
    | v d => exact same _ e rfl
    | own ds =>
      obtain ⟨a, vs, h1, h2, h3, h4, h5⟩ := r.own i ds e
      exact go a _ _ _ e rfl h1 h2 h3 h4 (.lst upd_same (h5.mono (Same.opened h4)))
    | ins c ds =>
      obtain ⟨a, dx, vs, h1, h2, h3, h4, h5, h6⟩ := r.ins i c ds e
      exact go a _ _ _ e rfl h1 h2 h3 h4 (.obj upd_same h5 (h6.mono (Same.opened h4)))

/-! ### the frame read as a whole -/
def thaw (ρ : Env) : Env := ρ.map relS
theorem thaw_get {i : Nat} : (thaw ρ)[i]? = (ρ[i]?).map relS := by unfold thaw; rw [List.getElem?_map]
theorem Rep.thaw (r : Rep T ρ σ S H L) : RepE T H (EV.thaw ρ) σ := by
  refine ⟨by unfold EV.thaw; simp [r.len], fun i d e => ?_⟩
  rw [thaw_get] at e
  obtain ⟨s, e1, e2⟩ := Option.map_eq_some_iff.mp e
  cases s with
  | no => cases e2
  | v d' =>
    cases e2
    obtain ⟨v, h1, h2⟩ := r.v i d e1
    exact ⟨v, h1, h2.mono r.sub.same⟩
  | own ds =>
    cases e2
    obtain ⟨a, vs, h1, h2, h3, h4, h5⟩ := r.own i ds e1
    exact ⟨_, h2, .lst h3 (h5.mono r.sub.same)⟩
  | ins c ds =>
    cases e2
    obtain ⟨a, dx, vs, h1, h2, h3, h4, h5, h6⟩ := r.ins i c ds e1
    exact ⟨_, h2, .obj h3 h5 (h6.mono r.sub.same)⟩
end
/-! data without lists and instances -/
mutual
def D.pure : D → Bool
  | .non => true
  | .bl _ => true
  | .int _ => true
  | .str _ => true
  | .tup xs => D.pures xs
  | _ => false
def D.pures : List D → Bool
  | [] => true
  | x :: xs => D.pure x && D.pures xs
end
mutual
theorem Is.pure {T : Tab} {S H : Hp} (sh : EV.Sub S H) : ∀ {v : V} {d : D}, Is T H v d → d.pure = true → Is T S v d
  | _, _, .non, _ => .non
  | _, _, .bl b, _ => .bl b
  | _, _, .int i, _ => .int i
  | _, _, .str s, _ => .str s
  | _, _, .tup h hs, p => by
    refine .tup ?_ (Iss.pure sh hs (by simpa [D.pure] using p))
    rcases h with (h | ⟨o, h⟩) | h
    · exact .inl (.inl (sh.fix _ _ h rfl))
    · exact .inl (.inr ⟨o, sh.fix _ _ h rfl⟩)
    · exact .inr h
  | _, _, .lst h hs, p => by simp [D.pure] at p
  | _, _, .obj h l hs, p => by simp [D.pure] at p
  | _, _, .scr h l, p => by simp [D.pure] at p
theorem Iss.pure {T : Tab} {S H : Hp} (sh : EV.Sub S H) : ∀ {vs : List V} {ds : List D}, Iss T H vs ds → D.pures ds = true → Iss T S vs ds
  | _, _, .nil, _ => .nil
  | _, _, .cons h hs, p => by
    rw [D.pures, Bool.and_eq_true] at p
    exact .cons (Is.pure sh h p.1) (Iss.pure sh hs p.2)
end
theorem pures_all : ∀ {xs : List D}, D.pures xs = true ↔ ∀ x ∈ xs, D.pure x = true
  | [] => by simp [D.pures]
  | x :: xs => by
    rw [D.pures, Bool.and_eq_true, pures_all]
    simp
/-- what stands behind an expression that was read over all of H -/
theorem unthaw {S H S2 H2 : Hp} (sh : EV.Sub S H) (k : Kp H H S2 H2) : ∃ S', Kp S H S' H2 ∧ Same S' S2 := by
  classical
  refine ⟨fun a => if H a ≠ none ∧ S a = none then none else S2 a, ⟨fun a o e => ?_, k.h, ⟨fun a o e => ?_, fun a o e f => ?_⟩, fun a h1 h2 => if_pos ⟨h1, h2⟩⟩, fun a o e => ?_⟩
  · show (if H a ≠ none ∧ S a = none then none else S2 a) = some o
    rw [if_neg (fun z => by rw [e] at z; cases z.2)]
    exact k.s a o (sh.same a o e)
  · have e' : (if H a ≠ none ∧ S a = none then none else S2 a) = some o := e
    split at e'
    · cases e'
    · exact k.sub.same a o e'
  · show (if H a ≠ none ∧ S a = none then none else S2 a) = some o
    rw [if_neg, k.sub.fix a o e f]
    rintro ⟨z1, z2⟩
    cases q : H a with
    | none => exact z1 q
    | some u =>
      have := k.h a u q
      rw [e] at this; cases this
      rw [sh.fix a o q f] at z2; cases z2
  · have e' : (if H a ≠ none ∧ S a = none then none else S2 a) = some o := e
    split at e'
    · cases e'
    · exact e'

/-! ### statements -/
inductive Out where
  | nx (ρ : Env)
  | rt (d : D)
  | bk (ρ : Env)
  | ct (ρ : Env)
  | rs (x : Xn) (ρ : Env)
  | rl (ds : List D)
abbrev FS := Env → Option Out
def SEnd (T : Tab) (W : WX) (Dn : Ends) (S H : Hp) (L : Nat → Option Addr) : Out → Prop
  | .nx ρ => ∀ σ' S' H' L', Rep T ρ σ' S' H' L' → Stp S H L S' H' L' → Dn.nx σ' H'
  | .rt d => ∀ v S' H' L', EV.Sub S' H' → Stp S H L S' H' L' → Is T S' v d → Dn.rt v H'
  | .bk ρ => ∀ σ' S' H' L', Rep T ρ σ' S' H' L' → Stp S H L S' H' L' → Dn.bk σ' H'
  | .ct ρ => ∀ σ' S' H' L', Rep T ρ σ' S' H' L' → Stp S H L S' H' L' → Dn.ct σ' H'
  | .rs x ρ => ∀ σ' S' H' L' cls d, Rep T ρ σ' S' H' L' → Stp S H L S' H' L' → XIs T S' x cls d → W cls d σ' H'
  | .rl ds => ∀ a vs S' H' L', EV.Sub S' H' → Stp S H L S' H' L' → (H a = none ∨ ∃ i, L i = some a) → S' a = none → H' a = some (.lst vs) → Iss T S' vs ds → Dn.rt (.ref a) H'
theorem Stp.young {S H S' H' : Hp} {L L' : Nat → Option Addr} {a : Addr} (k : Stp S H L S' H' L') (h : H' a = none ∨ ∃ i, L' i = some a) : H a = none ∨ ∃ i, L i = some a := by
  rcases h with h | ⟨i, h⟩
  · by_cases hl : ∃ i, L i = some a
    · exact .inr hl
    · refine .inl ?_
      cases e : H a with
      | none => rfl
      | some o =>
        rw [k.fr a o e fun i z => hl ⟨i, z⟩] at h
        cases h
  · rcases k.own i a h with q | ⟨q, _⟩
    · exact .inr q
    · exact .inl q
theorem SEnd.mono {T : Tab} {W : WX} {Dn : Ends} {S H S1 H1 : Hp} {L L1 : Nat → Option Addr} {o : Out} (k : Stp S H L S1 H1 L1) (h : SEnd T W Dn S H L o) : SEnd T W Dn S1 H1 L1 o := by
  cases o with
  | nx ρ => exact fun σ' S' H' L' r s => h σ' S' H' L' r (k.trans s)
  | rt d => exact fun v S' H' L' sh s i => h v S' H' L' sh (k.trans s) i
  | bk ρ => exact fun σ' S' H' L' r s => h σ' S' H' L' r (k.trans s)
  | ct ρ => exact fun σ' S' H' L' r s => h σ' S' H' L' r (k.trans s)
  | rs x ρ => exact fun σ' S' H' L' cls d r s i => h σ' S' H' L' cls d r (k.trans s) i
  | rl ds => exact fun a vs S' H' L' sh s hy h1 h2 i => h a vs S' H' L' sh (k.trans s) (k.young hy) h1 h2 i
def tG (T : Tab) (W : WX) (g : FS) : TS := fun Dn σ H => ∃ ρ S L o, Rep T ρ σ S H L ∧ g ρ = some o ∧ SEnd T W Dn S H L o
def SS (X : Cx) (T : Tab) (W : WX) (st : Stmt) (g : FS) : Prop := PS X st (tG T W g)
def SSs (X : Cx) (T : Tab) (W : WX) (st : List Stmt) (g : FS) : Prop := PSs X st (tG T W g)
theorem PS.weak {X : Cx} {st : Stmt} {t u : TS} (h : PS X st t) (w : ∀ Dn σ H, u Dn σ H → t Dn σ H) : PS X st u := ⟨fun pins s σ H Dn I q => h.run pins s σ H Dn I (w Dn σ H q)⟩
theorem PSs.weak {X : Cx} {st : List Stmt} {t u : TS} (h : PSs X st t) (w : ∀ Dn σ H, u Dn σ H → t Dn σ H) : PSs X st u := ⟨fun pins s σ H Dn I q => h.run pins s σ H Dn I (w Dn σ H q)⟩

section
variable {X : Cx} {T : Tab} {W : WX} {st : Stmt} {rest body els : List Stmt} {g g1 g2 : FS} {e : Expr} {f : FE} {pos : Pos}
def gNext : FS := fun ρ => some (.nx ρ)
def gSeq (g1 g2 : FS) : FS := fun ρ => match g1 ρ with
  | some (.nx ρ') => g2 ρ'
  | o => o
theorem ss_nil : SSs X T W [] gNext := PSs.weak pss_nil fun Dn σ H q => by
  obtain ⟨ρ, S, L, o, r, e, fin⟩ := q
  cases e
  exact fin σ S H L r Stp.refl
theorem ss_cons (h1 : SS X T W st g1) (h2 : SSs X T W rest g2) : SSs X T W (st :: rest) (gSeq g1 g2) := by
  refine PSs.weak (pss_cons h1 h2) fun Dn σ H q => ?_
  obtain ⟨ρ, S, L, o, r, e, fin⟩ := q
  show tG T W g1 { Dn with nx := tG T W g2 Dn } σ H
  unfold gSeq at e
  cases q1 : g1 ρ with
  | none => rw [q1] at e; cases e
  | some o1 =>
    rw [q1] at e
    refine ⟨ρ, S, L, o1, r, q1, ?_⟩
    cases o1 with
    | nx ρ1 => exact fun σ' S' H' L' r' s => ⟨ρ1, S', L', o, r', e, fin.mono s⟩
    | rt d => cases e; exact fin
    | bk ρ => cases e; exact fin
    | ct ρ => cases e; exact fin
    | rs x ρ => cases e; exact fin
    | rl ds => cases e; exact fin
theorem ss_one (h1 : SS X T W st g1) : SSs X T W [st] g1 := pss_one h1
theorem ss_pass : SS X T W (.Pass pos) gNext := PS.weak ps_pass fun Dn σ H q => by
  obtain ⟨ρ, S, L, o, r, e, fin⟩ := q
  cases e
  exact fin σ S H L r Stp.refl
def gBrk : FS := fun ρ => some (.bk ρ)
def gCt : FS := fun ρ => some (.ct ρ)
theorem ss_brk : SS X T W (.Break pos) gBrk := PS.weak ps_break fun Dn σ H q => by
  obtain ⟨ρ, S, L, o, r, e, fin⟩ := q
  cases e
  exact fin σ S H L r Stp.refl
theorem ss_ct : SS X T W (.Continue pos) gCt := PS.weak ps_continue fun Dn σ H q => by
  obtain ⟨ρ, S, L, o, r, e, fin⟩ := q
  cases e
  exact fin σ S H L r Stp.refl
def gNever : FS := fun _ => none
theorem ss_never : SS X T W st gNever := PS.weak ps_never fun Dn σ H q => by
  obtain ⟨ρ, S, L, o, r, e, fin⟩ := q
  cases e
/-- lists of the frame's own are given out ahead of a statement -/
def gRel (i : Nat) (g : FS) : FS := fun ρ => g (rel i ρ)
theorem ss_rel (i : Nat) (h : SS X T W st g) : SS X T W st (gRel i g) := PS.weak h fun Dn σ H q => by
  obtain ⟨ρ, S, L, o, r, e, fin⟩ := q
  obtain ⟨S', L', r', s⟩ := r.rel i
  exact ⟨_, S', L', o, r', e, fin.mono s⟩
/-- .. behind a statement -/
def gThenRel (i : Nat) (g : FS) : FS := fun ρ => match g ρ with
  | some (.nx ρ') => some (.nx (rel i ρ'))
  | o => o
theorem ss_thenRel (i : Nat) (h : SS X T W st g) : SS X T W st (gThenRel i g) := PS.weak h fun Dn σ H q => by
  obtain ⟨ρ, S, L, o, r, e, fin⟩ := q
  unfold gThenRel at e
  cases q1 : g ρ with
  | none => rw [q1] at e; cases e
  | some o1 =>
    rw [q1] at e
    refine ⟨ρ, S, L, o1, r, q1, ?_⟩
    cases o1 with
    | nx ρ1 =>
      cases e
      intro σ' S' H' L' r' s
      obtain ⟨S2, L2, r2, s2⟩ := r'.rel i
      exact fin σ' S2 H' L2 r2 (s.trans s2)
    | rt d => cases e; exact fin
    | bk ρ => cases e; exact fin
    | ct ρ => cases e; exact fin
    | rs x ρ => cases e; exact fin
    | rl ds => cases e; exact fin
theorem sss_rel (i : Nat) (h : SSs X T W rest g) : SSs X T W rest (gRel i g) := PSs.weak h fun Dn σ H q => by
  obtain ⟨ρ, S, L, o, r, e, fin⟩ := q
  obtain ⟨S', L', r', s⟩ := r.rel i
  exact ⟨_, S', L', o, r', e, fin.mono s⟩

/-! an expression's part in a statement; mode B: own lists are not seen; mode A: all is seen, the result is pure -/
def RS (o : Option R) (ρ : Env) (k : D → Option Out) : Option Out := match o with
  | some (.ok d) => k d
  | some (.ex x) => some (.rs x ρ)
  | none => none
def RA (o : Option R) (ρ : Env) (k : D → Option Out) : Option Out := match o with
  | some (.ok d) => if d.pure then k d else none
  | some (.ex x) => if D.pures x.fs then some (.rs x ρ) else none
  | none => none
@[simp] theorem RS_ok (d : D) (ρ : Env) (k : D → Option Out) : RS (some (.ok d)) ρ k = k d := rfl
@[simp] theorem RS_ex (x : Xn) (ρ : Env) (k : D → Option Out) : RS (some (.ex x)) ρ k = some (.rs x ρ) := rfl
variable {S H : Hp} {σ : L2.St} {ρ : Env} {L : Nat → Option Addr} {Dn : Ends} {P : VK} {k : D → Option Out} {o : Out}
theorem sB (r : Rep T ρ σ S H L) (h : RS (f ρ) ρ k = some o) (fin : SEnd T W Dn S H L o)
    (go : ∀ d v S' H', Kp S H S' H' → Is T S' v d → Rep T ρ σ S' H' L → k d = some o → SEnd T W Dn S' H' L o → P v H') : tF T W f σ H P := by
  cases e : f ρ with
  | none => rw [e] at h; cases h
  | some q =>
    rw [e] at h
    refine ⟨ρ, S, q, r.sub, r.repE, e, ?_⟩
    cases q with
    | ok d => exact fun v S' H' kp i => go d v S' H' kp i (r.kp kp) h (fin.mono kp.stp)
    | ex x =>
      cases h
      exact fun S' H' cls d kp i => fin σ S' H' L cls d (r.kp kp) kp.stp i
theorem XIs.pure {x : Xn} {cls : Value} {d : Option Addr} (sh : EV.Sub S H) (h : XIs T H x cls d) (p : D.pures x.fs = true) : XIs T S x cls d := by
  obtain ⟨h1, h2⟩ := h
  refine ⟨h1, ?_⟩
  rcases h2 with h2 | ⟨dx, vs, h3, h4, h5, h6⟩
  · exact .inl h2
  · exact .inr ⟨dx, vs, h3, sh.fix _ _ h4 rfl, h5, h6.pure sh p⟩
theorem XIs.mono {S' : Hp} {x : Xn} {cls : Value} {d : Option Addr} (e : Same S S') (h : XIs T S x cls d) : XIs T S' x cls d := by
  obtain ⟨h1, h2⟩ := h
  refine ⟨h1, ?_⟩
  rcases h2 with h2 | ⟨dx, vs, h3, h4, h5, h6⟩
  · exact .inl h2
  · exact .inr ⟨dx, vs, h3, e _ _ h4, h5, h6.mono e⟩
theorem sA (r : Rep T ρ σ S H L) (h : RA (f (thaw ρ)) ρ k = some o) (fin : SEnd T W Dn S H L o)
    (go : ∀ d v S' H', Kp S H S' H' → Is T S' v d → Rep T ρ σ S' H' L → k d = some o → SEnd T W Dn S' H' L o → P v H') : tF T W f σ H P := by
  cases e : f (thaw ρ) with
  | none => rw [e] at h; cases h
  | some q =>
    rw [e] at h
    refine ⟨thaw ρ, H, q, EV.Sub.refl H, r.thaw, e, ?_⟩
    cases q with
    | ok d =>
      intro v S2 H2 kp i
      have h' : (if d.pure then k d else none) = some o := h
      split at h'
      · rename_i hp
        obtain ⟨S', kp', ss⟩ := unthaw r.sub kp
        exact go d v S' H2 kp' ((i.mono kp.sub.same).pure kp'.sub hp) (r.kp kp') h' (fin.mono kp'.stp)
      · cases h'
    | ex x =>
      intro S2 H2 cls d kp i
      have h' : (if D.pures x.fs then some (Out.rs x ρ) else none) = some o := h
      split at h'
      · rename_i hp
        cases h'
        obtain ⟨S', kp', ss⟩ := unthaw r.sub kp
        exact fin σ S' H2 L cls d (r.kp kp') kp'.stp ((i.mono kp.sub.same).pure kp'.sub hp)
      · cases h'

/-! x = e -/
def gSet (i : Nat) (f : FE) : FS := fun ρ => RS (f ρ) ρ fun d => some (.nx (ρ.set i (.v d)))
def gSetA (i : Nat) (f : FE) : FS := fun ρ => RA (f (thaw ρ)) ρ fun d => some (.nx (ρ.set i (.v d)))
section
variable {i : Nat} {x : Str} {p : Pos}
theorem ss_set_ {te : TE} (he : PS X st (tAsg te (gName i))) (hw : ∀ σ H Q, tF T W f σ H Q → te σ H Q) : SS X T W st (gSet i f) := PS.weak he fun Dn σ H q => by
  obtain ⟨ρ, S, L, o, r, e, fin⟩ := q
  refine hw σ H _ (sB r e fin fun d v S' H' kp hi r' e' fin' => ?_)
  cases e'
  exact fin' _ S' H' _ (r'.setV hi) Stp.off
theorem ss_setA_ {te : TE} (he : PS X st (tAsg te (gName i))) (hw : ∀ σ H Q, tF T W f σ H Q → te σ H Q) : SS X T W st (gSetA i f) := PS.weak he fun Dn σ H q => by
  obtain ⟨ρ, S, L, o, r, e, fin⟩ := q
  refine hw σ H _ (sA r e fin fun d v S' H' kp hi r' e' fin' => ?_)
  cases e'
  exact fin' _ S' H' _ (r'.setV hi) Stp.off
theorem ss_set (i : Nat) (hN : X.N.Nodup) (hi : X.N[i]? = some x := by rfl) (hx : Loc X.env.scope x := by first | exact .inl rfl | exact .inr rfl) (hf : X.fn x = true ∨ X.env.scope.names.lookup x = some .local := by first | exact .inl rfl | exact .inr rfl)
    (hs : swapsWith e (some (.Name x p)) pos.line X.env = pure false := by rfl) (he : EE X T W e f) : SS X T W (.Assign [.Name x p] e pos) (gSet i f) :=
  ss_set_ (ps_set hN hi hx he hs hf) fun _ _ _ h => h
theorem ss_setA (i : Nat) (hN : X.N.Nodup) (hi : X.N[i]? = some x := by rfl) (hx : Loc X.env.scope x := by first | exact .inl rfl | exact .inr rfl) (hf : X.fn x = true ∨ X.env.scope.names.lookup x = some .local := by first | exact .inl rfl | exact .inr rfl)
    (hs : swapsWith e (some (.Name x p)) pos.line X.env = pure false := by rfl) (he : EE X T W e f) : SS X T W (.Assign [.Name x p] e pos) (gSetA i f) :=
  ss_setA_ (ps_set hN hi hx he hs hf) fun _ _ _ h => h
end
end
end EV
end

section
set_option maxHeartbeats 4000000
/-! EV5: own lists, branches, loops, targets. -/
namespace EV
open PySem L2
section
variable {X : Cx} {T : Tab} {W : WX} {st : Stmt} {rest body els : List Stmt} {g g1 g2 : FS} {e a b c : Expr} {es : List Expr} {f fa fb fc : FE} {pos : Pos}
variable {S H : Hp} {σ : L2.St} {ρ : Env} {L : Nat → Option Addr} {Dn : Ends} {P : VK} {o : Out} {i : Nat} {x : Str} {p : Pos}

/-! ### a new list of the frame's own -/
def RSL (o : Option RL) (ρ : Env) (k : List D → Option Out) : Option Out := match o with
  | some (.ok d) => k d
  | some (.ex x) => some (.rs x ρ)
  | none => none
def RAL (o : Option RL) (ρ : Env) (k : List D → Option Out) : Option Out := match o with
  | some (.ok d) => if D.pures d then k d else none
  | some (.ex x) => if D.pures x.fs then some (.rs x ρ) else none
  | none => none
@[simp] theorem RSL_ok (d : List D) (ρ : Env) (k : List D → Option Out) : RSL (some (.ok d)) ρ k = k d := rfl
theorem sBN {f : FL} {k : List D → Option Out} (r : Rep T ρ σ S H L) (h : RSL (f ρ) ρ k = some o) (fin : SEnd T W Dn S H L o)
    (go : ∀ ds a vs S' H', Kp S H S' H' → H a = none → S' a = none → H' a = some (.lst vs) → Iss T S' vs ds → Rep T ρ σ S' H' L → k ds = some o → SEnd T W Dn S' H' L o → P (.ref a) H') : tN T W f σ H P := by
  cases e : f ρ with
  | none => rw [e] at h; cases h
  | some q =>
    rw [e] at h
    refine ⟨ρ, S, q, r.sub, r.repE, e, ?_⟩
    cases q with
    | ok d => exact fun a vs S' H' kp h1 h2 h3 i => go d a vs S' H' kp h1 h2 h3 i (r.kp kp) h (fin.mono kp.stp)
    | ex x =>
      cases h
      exact fun S' H' cls d kp i => fin σ S' H' L cls d (r.kp kp) kp.stp i
theorem sAN {f : FL} {k : List D → Option Out} (r : Rep T ρ σ S H L) (h : RAL (f (thaw ρ)) ρ k = some o) (fin : SEnd T W Dn S H L o)
    (go : ∀ ds a vs S' H', Kp S H S' H' → H a = none → S' a = none → H' a = some (.lst vs) → Iss T S' vs ds → Rep T ρ σ S' H' L → k ds = some o → SEnd T W Dn S' H' L o → P (.ref a) H') : tN T W f σ H P := by
  cases e : f (thaw ρ) with
  | none => rw [e] at h; cases h
  | some q =>
    rw [e] at h
    refine ⟨thaw ρ, H, q, EV.Sub.refl H, r.thaw, e, ?_⟩
    cases q with
    | ok d =>
      intro a vs S2 H2 kp h1 h2 h3 i
      have h' : (if D.pures d then k d else none) = some o := h
      split at h'
      · rename_i hp
        obtain ⟨S', kp', ss⟩ := unthaw r.sub kp
        have hs : S' a = none := ss.free h2
        exact go d a vs S' H2 kp' h1 hs h3 ((i.mono kp.sub.same).pure kp'.sub hp) (r.kp kp') h' (fin.mono kp'.stp)
      · cases h'
    | ex x =>
      intro S2 H2 cls d kp i
      have h' : (if D.pures x.fs then some (Out.rs x ρ) else none) = some o := h
      split at h'
      · rename_i hp
        cases h'
        obtain ⟨S', kp', ss⟩ := unthaw r.sub kp
        exact fin σ S' H2 L cls d (r.kp kp') kp'.stp ((i.mono kp.sub.same).pure kp'.sub hp)
      · cases h'
def setOwn (i : Nat) (ρ : Env) (ds : List D) : Option Out := if i < ρ.length then some (.nx (ρ.set i (.own ds))) else none
def gOwn (i : Nat) (f : FL) : FS := fun ρ => RSL (f ρ) ρ (setOwn i ρ)
def gOwnA (i : Nat) (f : FL) : FS := fun ρ => RAL (f (thaw ρ)) ρ (setOwn i ρ)
theorem on_end {ds : List D} {a : Addr} {vs : List V} {S' H' : Hp} (kp : Kp S H S' H') (hn : H a = none) (hs : S' a = none) (h' : H' a = some (.lst vs)) (hi : Iss T S' vs ds) (r : Rep T ρ σ S H L) (r' : Rep T ρ σ S' H' L) (e' : setOwn i ρ ds = some o) (fin : SEnd T W Dn S H L o) : Dn.nx (σ.set i (some (.ref a))) H' := by
  unfold setOwn at e'
  split at e' <;> cases e'
  rename_i hl
  have nl : ∀ j, L j ≠ some a := fun j z => by
    rcases r.dom j a z with ⟨ds, q⟩ | ⟨c, ds, q⟩
    · obtain ⟨b, vs, q1, _, q3, _⟩ := r.own j ds q
      rw [z] at q1; cases q1; rw [hn] at q3; cases q3
    · obtain ⟨b, dx, vs, q1, _, q3, _⟩ := r.ins j c ds q
      rw [z] at q1; cases q1; rw [hn] at q3; cases q3
  refine fin _ S' H' _ (r'.setOwn hl h' hs nl hi) ⟨kp.s, fun b u h _ => kp.h b u h, fun b h1 h2 _ => kp.hid b h1 h2, fun j b z => ?_, fun b xs h => ⟨xs, kp.h b _ h⟩, fun b _ _ fs h => ⟨fs, kp.h b _ h⟩⟩
  unfold EV.on at z
  split at z
  · cases z; exact .inr ⟨hn, _, h'⟩
  · exact .inl ⟨j, z⟩
theorem ss_own_ {te : TE} {f : FL} (he : PS X st (tAsg te (gName i))) (hw : ∀ σ H Q, tN T W f σ H Q → te σ H Q) : SS X T W st (gOwn i f) := PS.weak he fun Dn σ H q => by
  obtain ⟨ρ, S, L, o, r, e, fin⟩ := q
  exact hw σ H _ (sBN r e fin fun ds a vs S' H' kp h1 h2 h3 hi r' e' fin' => on_end kp h1 h2 h3 hi r r' e' fin)
theorem ss_ownA_ {te : TE} {f : FL} (he : PS X st (tAsg te (gName i))) (hw : ∀ σ H Q, tN T W f σ H Q → te σ H Q) : SS X T W st (gOwnA i f) := PS.weak he fun Dn σ H q => by
  obtain ⟨ρ, S, L, o, r, e, fin⟩ := q
  exact hw σ H _ (sAN r e fin fun ds a vs S' H' kp h1 h2 h3 hi r' e' fin' => on_end kp h1 h2 h3 hi r r' e' fin)
theorem ss_own (i : Nat) {f : FL} (hN : X.N.Nodup) (hi : X.N[i]? = some x := by rfl) (hx : Loc X.env.scope x := by first | exact .inl rfl | exact .inr rfl) (hf : X.fn x = true ∨ X.env.scope.names.lookup x = some .local := by first | exact .inl rfl | exact .inr rfl)
    (hs : swapsWith e (some (.Name x p)) pos.line X.env = pure false := by rfl) (he : EN X T W e f) : SS X T W (.Assign [.Name x p] e pos) (gOwn i f) :=
  ss_own_ (ps_set hN hi hx he hs hf) fun _ _ _ h => h
theorem ss_ownA (i : Nat) {f : FL} (hN : X.N.Nodup) (hi : X.N[i]? = some x := by rfl) (hx : Loc X.env.scope x := by first | exact .inl rfl | exact .inr rfl) (hf : X.fn x = true ∨ X.env.scope.names.lookup x = some .local := by first | exact .inl rfl | exact .inr rfl)
    (hs : swapsWith e (some (.Name x p)) pos.line X.env = pure false := by rfl) (he : EN X T W e f) : SS X T W (.Assign [.Name x p] e pos) (gOwnA i f) :=
  ss_ownA_ (ps_set hN hi hx he hs hf) fun _ _ _ h => h

/-! ### an expression alone, return -/
def gDrop (f : FE) : FS := fun ρ => RS (f ρ) ρ fun _ => some (.nx ρ)
theorem ss_expr (he : EE X T W e f) (hs : swapsWith e none pos.line X.env = pure false := by rfl) : SS X T W (.Expr e pos) (gDrop f) := PS.weak (ps_expr he hs) fun Dn σ H q => by
  obtain ⟨ρ, S, L, o, r, e, fin⟩ := q
  refine sB r e fin fun d v S' H' kp hi r' e' fin' => ?_
  cases e'
  exact fin' _ S' H' L r' Stp.refl
def gRet (f : FE) : FS := fun ρ => RS (f ρ) ρ fun d => some (.rt d)
def gRetA (f : FE) : FS := fun ρ => RA (f (thaw ρ)) ρ fun d => some (.rt d)
theorem ss_ret (he : EE X T W e f) : SS X T W (.Return (some e) pos) (gRet f) := PS.weak (ps_ret he) fun Dn σ H q => by
  obtain ⟨ρ, S, L, o, r, e, fin⟩ := q
  refine sB r e fin fun d v S' H' kp hi r' e' fin' => ?_
  cases e'
  exact fin' v S' H' L kp.sub Stp.refl hi
theorem ss_retA (he : EE X T W e f) : SS X T W (.Return (some e) pos) (gRetA f) := PS.weak (ps_ret he) fun Dn σ H q => by
  obtain ⟨ρ, S, L, o, r, e, fin⟩ := q
  refine sA r e fin fun d v S' H' kp hi r' e' fin' => ?_
  cases e'
  exact fin' v S' H' L kp.sub Stp.refl hi
def gRetN : FS := fun _ => some (.rt .non)
theorem ss_retN : SS X T W (.Return none pos) gRetN := PS.weak ps_retN fun Dn σ H q => by
  obtain ⟨ρ, S, L, o, r, e, fin⟩ := q
  cases e
  exact fin .non S H L r.sub Stp.refl .non

/-! ### if -/
def gIf (fc : FE) (g1 g2 : FS) : FS := fun ρ => RS (fc ρ) ρ fun
  | .bl true => g1 ρ
  | .bl false => g2 ρ
  | _ => none
def gIfA (fc : FE) (g1 g2 : FS) : FS := fun ρ => RA (fc (thaw ρ)) ρ fun
  | .bl true => g1 ρ
  | .bl false => g2 ρ
  | _ => none
theorem ss_if (hc : EB X T W c fc) (h1 : SSs X T W body g1) (h2 : SSs X T W els g2) : SS X T W (.If c body els pos) (gIf fc g1 g2) := PS.weak (ps_if hc h1 h2) fun Dn σ H q => by
  obtain ⟨ρ, S, L, o, r, e, fin⟩ := q
  refine sB r e fin fun d v S' H' kp hi r' e' fin' => ?_
  split at e'
  · cases hi
    exact ⟨true, rfl, ρ, S', L, o, r', e', fin'⟩
  · cases hi
    exact ⟨false, rfl, ρ, S', L, o, r', e', fin'⟩
  · cases e'
theorem ss_ifA (hc : EB X T W c fc) (h1 : SSs X T W body g1) (h2 : SSs X T W els g2) : SS X T W (.If c body els pos) (gIfA fc g1 g2) := PS.weak (ps_if hc h1 h2) fun Dn σ H q => by
  obtain ⟨ρ, S, L, o, r, e, fin⟩ := q
  refine sA r e fin fun d v S' H' kp hi r' e' fin' => ?_
  split at e'
  · cases hi
    exact ⟨true, rfl, ρ, S', L, o, r', e', fin'⟩
  · cases hi
    exact ⟨false, rfl, ρ, S', L, o, r', e', fin'⟩
  · cases e'

/-! ### xs.append(e), xs[k] = e .. of an own list -/
def appK (i : Nat) (ρ : Env) (d : D) : Option Out := match ρ[i]? with
  | some (.own ds) => if ds.length < 100000 then some (.nx (ρ.set i (.own (ds ++ [d])))) else none
  | _ => none
def gApp (i : Nat) (f : FE) : FS := fun ρ => RS (f ρ) ρ (appK i ρ)
def gAppA (i : Nat) (f : FE) : FS := fun ρ => RA (f (thaw ρ)) ρ (appK i ρ)
theorem app_end {d : D} {v : V} {a : Addr} {vs : List V} {ds : List D} (r : Rep T ρ σ S H L) (hd : ρ[i]? = some (.own ds)) (hL : L i = some a) (ha : H a = some (.lst vs)) (hi : Is T S v d) (e : appK i ρ d = some o) (fin : SEnd T W Dn S H L o) :
    rAppend (.ref a) [v] H fun _ H1 => Dn.nx σ H1 := by
  unfold appK at e
  rw [hd] at e
  dsimp only at e
  split at e <;> cases e
  rename_i hl
  obtain ⟨a0, vs0, h1, h2, h3, h4, h5⟩ := r.own i ds hd
  rw [hL] at h1; cases h1
  rw [ha] at h3; cases h3
  exact ⟨a, vs, v, rfl, rfl, ha, by rw [h5.length]; exact line_lt hl, fin σ S _ L (r.upd hd hL (h5.append (.cons hi .nil))) (Stp.upd hL ha)⟩
theorem app_own {d : D} (e : appK i ρ d = some o) : ∃ ds, ρ[i]? = some (.own ds) := by
  unfold appK at e
  split at e
  · exact ⟨_, by assumption⟩
  · cases e
def gAppO (i : Nat) (g : FS) : FS := fun ρ => match ρ[i]? with
  | some (.own _) => g ρ
  | _ => none
section
variable {p1 p2 p3 : Pos}
theorem ss_app (i : Nat) (hN : X.N[i]? = some x := by rfl) (hv : Vis X.env.scope x := by first | exact Or.inl rfl | exact Or.inr (Or.inl rfl) | exact Or.inr (Or.inr rfl)) (hs : swapsWith (.Call (.Attribute (.Name x p1) "append" p2) [e] [] p3) none pos.line X.env = pure false := by rfl)
    (hbase : attributeBase (.Name x p1) "append" X.env (eval (.Name x p1) X.env) = eval (.Name x p1) X.env := by rfl) (hd : (x == ("__debug__" : Str)) = false := by decide) (hcd : (x == ("__classdict__" : Str)) = false := by decide)
    (hfew : ((backTo p3 (starEach [e] X.env)).all (fun x => !x.1) && (backToKw p3 (keywordEach [] X.env)).all (fun x => x.1.isSome) && decide ([e].length + ([] : List Keyword).length + (if ([] : List Keyword).isEmpty then 0 else 1) < 30)) = true := by rfl)
    (hline : (p2.endLine == p3.line) = true := by rfl) (hs1 : starEach [e] X.env = (false, eval e X.env) :: starEach [] X.env := by rfl) (hplain : (backTo p3 (starEach [] X.env)).any (·.1) = false := by rfl)
    (he : EE X T W e f) : SS X T W (.Expr (.Call (.Attribute (.Name x p1) "append" p2) [e] [] p3) pos) (gAppO i (gApp i f)) := by
  refine PS.weak (ps_expr (pe_bm PySem.F.plainAttrs_list PySem.F.slot_list_append PySem.F.type_list_append mt_append (pe_var hN hv hd hcd) (pa_cons he pa_nil hs1) hbase hfew hline hs1 hplain) hs) fun Dn σ H q => ?_
  obtain ⟨ρ, S, L, o, r, e, fin⟩ := q
  unfold gAppO at e
  split at e <;> try cases e
  rename_i ds hd
  obtain ⟨a, vs, h1, h2, h3, h4, h5⟩ := r.own i ds hd
  refine ⟨_, h2, .inl ⟨rfl, _, SqL.of h3⟩, ?_⟩
  refine sB r e fin fun d v S' H' kp hi r' e' fin' => ?_
  exact app_end r' hd h1 (kp.h _ _ h3) hi e' fin'
theorem ss_appA (i : Nat) (hN : X.N[i]? = some x := by rfl) (hv : Vis X.env.scope x := by first | exact Or.inl rfl | exact Or.inr (Or.inl rfl) | exact Or.inr (Or.inr rfl)) (hs : swapsWith (.Call (.Attribute (.Name x p1) "append" p2) [e] [] p3) none pos.line X.env = pure false := by rfl)
    (hbase : attributeBase (.Name x p1) "append" X.env (eval (.Name x p1) X.env) = eval (.Name x p1) X.env := by rfl) (hd : (x == ("__debug__" : Str)) = false := by decide) (hcd : (x == ("__classdict__" : Str)) = false := by decide)
    (hfew : ((backTo p3 (starEach [e] X.env)).all (fun x => !x.1) && (backToKw p3 (keywordEach [] X.env)).all (fun x => x.1.isSome) && decide ([e].length + ([] : List Keyword).length + (if ([] : List Keyword).isEmpty then 0 else 1) < 30)) = true := by rfl)
    (hline : (p2.endLine == p3.line) = true := by rfl) (hs1 : starEach [e] X.env = (false, eval e X.env) :: starEach [] X.env := by rfl) (hplain : (backTo p3 (starEach [] X.env)).any (·.1) = false := by rfl)
    (he : EE X T W e f) : SS X T W (.Expr (.Call (.Attribute (.Name x p1) "append" p2) [e] [] p3) pos) (gAppO i (gAppA i f)) := by
  refine PS.weak (ps_expr (pe_bm PySem.F.plainAttrs_list PySem.F.slot_list_append PySem.F.type_list_append mt_append (pe_var hN hv hd hcd) (pa_cons he pa_nil hs1) hbase hfew hline hs1 hplain) hs) fun Dn σ H q => ?_
  obtain ⟨ρ, S, L, o, r, e, fin⟩ := q
  unfold gAppO at e
  split at e <;> try cases e
  rename_i ds hd
  obtain ⟨a, vs, h1, h2, h3, h4, h5⟩ := r.own i ds hd
  refine ⟨_, h2, .inl ⟨rfl, _, SqL.of h3⟩, ?_⟩
  refine sA r e fin fun d v S' H' kp hi r' e' fin' => ?_
  exact app_end r' hd h1 (kp.h _ _ h3) hi e' fin'
end
/-- xs[k] = e: e first (mode A or B), then the place (mode A) -/
def setK (i : Nat) (fk : FE) (ρ : Env) (d : D) : Option Out := match ρ[i]? with
  | some (.own ds) => (match fk (thaw ρ) with
    | some (.ok (.int k)) => (match ixN ds.length k with
      | some j => some (.nx (ρ.set i (.own (ds.set j d))))
      | none => none)
    | _ => none)
  | _ => none
def gSetIx (i : Nat) (fk f : FE) : FS := fun ρ => RS (f ρ) ρ (setK i fk ρ)
def gSetIxA (i : Nat) (fk f : FE) : FS := fun ρ => RA (f (thaw ρ)) ρ (setK i fk ρ)
section
variable {p1 p2 : Pos} {fk : FE}
theorem set_go {d : D} {v : V} (r : Rep T ρ σ S H L) (hi : Is T S v d) (e : setK i fk ρ d = some o) (fin : SEnd T W Dn S H L o) : tVar i σ H fun x H1 => tF T W fk σ H1 fun y H2 => rSetL x y v H2 fun H3 => Dn.nx σ H3 := by
  unfold setK at e
  split at e <;> try cases e
  rename_i ds hd
  split at e <;> try cases e
  rename_i k hk
  split at e <;> cases e
  rename_i j hj
  obtain ⟨a, vs, h1, h2, h3, h4, h5⟩ := r.own i ds hd
  refine ⟨_, h2, thaw ρ, H, _, EV.Sub.refl H, r.thaw, hk, ?_⟩
  intro y S2 H2 kp i2
  cases i2
  obtain ⟨S', kp', ss⟩ := unthaw r.sub kp
  have r' := r.kp kp'
  refine ⟨a, vs, k, j, rfl, rfl, kp.h _ _ h3, by rw [h5.length]; exact hj, ?_⟩
  exact fin σ S' _ L (r'.upd hd h1 (Iss.set (hi.mono kp'.s) j (h5.mono kp'.s))) (kp'.stp.trans (Stp.upd h1 (kp.h _ _ h3)))
theorem ss_setIx (i : Nat) (hN : X.N[i]? = some x := by rfl) (hv : Vis X.env.scope x := by first | exact Or.inl rfl | exact Or.inr (Or.inl rfl) | exact Or.inr (Or.inr rfl)) (hd : (x == ("__debug__" : Str)) = false := by decide) (hcd : (x == ("__classdict__" : Str)) = false := by decide)
    (hs : swapsWithSole [.Subscript (.Name x p1) c p2] e pos.line X.env = pure false := by rfl) (hw : swappedStores [.Subscript (.Name x p1) c p2] e X.env = pure none := by rfl)
    (h1 : (assignEach [.Subscript (.Name x p1) c p2] X.env).map (·.2) = [assign (.Subscript (.Name x p1) c p2) X.env] := by rfl) (hg : ∀ {tk}, PE X c tk → PG X (.Subscript (.Name x p1) c p2) (gSub (tVar i) tk rSetL))
    (hk : EE X T W c fk) (he : EE X T W e f) : SS X T W (.Assign [.Subscript (.Name x p1) c p2] e pos) (gSetIx i fk f) := by
  refine PS.weak (ps_asg he (hg hk) hs hw h1) fun Dn σ H q => ?_
  obtain ⟨ρ, S, L, o, r, e, fin⟩ := q
  refine sB r e fin fun d v S' H' kp hi r' e' fin' => ?_
  exact set_go r' hi e' fin'
theorem ss_setIxA (i : Nat) (hN : X.N[i]? = some x := by rfl) (hv : Vis X.env.scope x := by first | exact Or.inl rfl | exact Or.inr (Or.inl rfl) | exact Or.inr (Or.inr rfl)) (hd : (x == ("__debug__" : Str)) = false := by decide) (hcd : (x == ("__classdict__" : Str)) = false := by decide)
    (hs : swapsWithSole [.Subscript (.Name x p1) c p2] e pos.line X.env = pure false := by rfl) (hw : swappedStores [.Subscript (.Name x p1) c p2] e X.env = pure none := by rfl)
    (h1 : (assignEach [.Subscript (.Name x p1) c p2] X.env).map (·.2) = [assign (.Subscript (.Name x p1) c p2) X.env] := by rfl) (hg : ∀ {tk}, PE X c tk → PG X (.Subscript (.Name x p1) c p2) (gSub (tVar i) tk rSetL))
    (hk : EE X T W c fk) (he : EE X T W e f) : SS X T W (.Assign [.Subscript (.Name x p1) c p2] e pos) (gSetIxA i fk f) := by
  refine PS.weak (ps_asg he (hg hk) hs hw h1) fun Dn σ H q => ?_
  obtain ⟨ρ, S, L, o, r, e, fin⟩ := q
  refine sA r e fin fun d v S' H' kp hi r' e' fin' => ?_
  exact set_go r' hi e' fin'
end
end
end EV
end

section
set_option maxHeartbeats 4000000
/-! EV6: targets, what is walked, for, while, comprehensions. -/
namespace EV
open PySem L2

/-! ### targets: fg says what a store does to the frame; is: the slots that it may set -/
abbrev FG := D → Env → Option Env
def tT (T : Tab) (is : List Nat) (fg : FG) : TG := fun v σ H Q => ∃ ρ S L d ρ', Rep T ρ σ S H L ∧ Is T S v d ∧ fg d ρ = some ρ' ∧
  ∀ σ' L', Rep T ρ' σ' S H L' → Stp S H L S H L' → (σ'.length = σ.length ∧ ∀ j, j ∉ is → σ'[j]? = σ[j]?) → Q σ' H
def EG (X : Cx) (T : Tab) (e : Expr) (is : List Nat) (fg : FG) : Prop := PG X e (tT T is fg)
abbrev FGs := List D → Env → Option Env
def tTs (T : Tab) (is : List Nat) (fg : FGs) : TGs := fun vs σ H Q => ∃ ρ S L ds ρ', Rep T ρ σ S H L ∧ Iss T S vs ds ∧ fg ds ρ = some ρ' ∧
  ∀ σ' L', Rep T ρ' σ' S H L' → Stp S H L S H L' → (σ'.length = σ.length ∧ ∀ j, j ∉ is → σ'[j]? = σ[j]?) → Q σ' H
def EGs (X : Cx) (T : Tab) (es : List Expr) (is : List Nat) (fg : FGs) : Prop := PGs X es (tTs T is fg)
section
variable {X : Cx} {T : Tab} {W : WX} {st : Stmt} {rest body els : List Stmt} {g g1 g2 : FS} {e a b c : Expr} {es : List Expr} {f fa fb fc : FE} {pos : Pos}
variable {S H : Hp} {σ : L2.St} {ρ : Env} {L : Nat → Option Addr} {Dn : Ends} {P : VK} {o : Out} {i : Nat} {x : Str} {p : Pos} {is js : List Nat} {fg : FG} {fgs : FGs}
theorem PG.weak {e : Expr} {t u : TG} (h : PG X e t) (w : ∀ v σ H Q, u v σ H Q → t v σ H Q) : PG X e u := ⟨fun pins s σ H v uu Q I r q => h.run pins s σ H v uu Q I r (w v σ H Q q)⟩
theorem PGs.weak {e : List Expr} {t u : TGs} (h : PGs X e t) (w : ∀ v σ H Q, u v σ H Q → t v σ H Q) : PGs X e u := ⟨fun pins s σ H v uu Q I r q => h.run pins s σ H v uu Q I r (w v σ H Q q)⟩
def nmG (i : Nat) : FG := fun d ρ => some (ρ.set i (.v d))
theorem eg_name (i : Nat) (hN : X.N.Nodup) (hi : X.N[i]? = some x := by rfl) (hx : Loc X.env.scope x := by first | exact .inl rfl | exact .inr rfl) (hf : X.fn x = true ∨ X.env.scope.names.lookup x = some .local := by first | exact .inl rfl | exact .inr rfl) : EG X T (.Name x pos) [i] (nmG i) :=
  PG.weak (pg_name hN hi hx hf) fun v σ H Q q => by
    obtain ⟨ρ, S, L, d, ρ', r, hi, e, fin⟩ := q
    cases e
    refine fin _ _ (r.setV hi) Stp.off ⟨List.length_set .., fun j hj => ?_⟩
    exact List.getElem?_set_ne (fun z => hj (by simp [z]))
def nilG : FGs := fun ds ρ => match ds with
  | [] => some ρ
  | _ => none
def consG (fg : FG) (fgs : FGs) : FGs := fun ds ρ => match ds with
  | d :: ds => (match fg d ρ with
    | some ρ' => fgs ds ρ'
    | none => none)
  | [] => none
theorem egs_nil : EGs X T [] [] nilG := PGs.weak pgs_nil fun v σ H Q q => by
  obtain ⟨ρ, S, L, d, ρ', r, hi, e, fin⟩ := q
  unfold nilG at e
  split at e <;> cases e
  cases hi
  exact ⟨rfl, fin σ L r Stp.refl ⟨rfl, fun _ _ => rfl⟩⟩
theorem egs_cons (h1 : EG X T e is fg) (h2 : EGs X T es js fgs) (hs : (assignEach (e :: es) X.env).map (·.2) = assign e X.env :: (assignEach es X.env).map (·.2) := by rfl) : EGs X T (e :: es) (is ++ js) (consG fg fgs) :=
  PGs.weak (pgs_cons h1 h2 hs) fun v σ H Q q => by
    obtain ⟨ρ, S, L, ds, ρ', r, hi, e, fin⟩ := q
    unfold consG at e
    split at e <;> try cases e
    rename_i d ds
    split at e <;> try cases e
    rename_i ρ1 e1
    cases hi with
    | cons h1 h2 =>
      refine ⟨_, _, rfl, ρ, S, L, d, ρ1, r, h1, e1, fun σ1 L1 r1 s1 c1 => ⟨ρ1, S, L1, ds, ρ', r1, h2, e, fun σ2 L2 r2 s2 c2 => ?_⟩⟩
      refine fin σ2 L2 r2 (s1.trans s2) ⟨c2.1.trans c1.1, fun j hj => ?_⟩
      rw [c2.2 j fun z => hj (List.mem_append_right _ z), c1.2 j fun z => hj (List.mem_append_left _ z)]
def tupG (fgs : FGs) : FG := fun d ρ => match d with
  | .tup ds => fgs ds ρ
  | .lst ds => fgs ds ρ
  | _ => none
theorem PG.or {e : Expr} {t u : TG} (h : PG X e t) (h' : PG X e u) : PG X e (fun v σ H Q => t v σ H Q ∨ u v σ H Q) := ⟨fun pins s σ H v uu Q I r q => q.elim (h.run pins s σ H v uu Q I r) (h'.run pins s σ H v uu Q I r)⟩
def lenG (n : Nat) (fgs : FGs) : FGs := fun ds ρ => if ds.length = n then fgs ds ρ else none
theorem eg_tup {k n : Nat} (hc : X.calm = true) (hK : X.K = T.K := by rfl) (h : EGs X T es is fgs) (hn : (assignEach es X.env).length = n := by rfl) (hst : (assignEach es X.env).findIdx? (·.1) = none := by rfl) : EG X T (.Tuple es k pos) is (tupG (lenG n fgs)) :=
  PG.weak (PG.or (pg_tup hc h hn hst) (pg_unl hc h hn hst)) fun v σ H Q q => by
    obtain ⟨ρ, S, L, d, ρ', r, hi, e, fin⟩ := q
    unfold tupG at e
    split at e <;> try cases e
    · unfold lenG at e
      split at e <;> try cases e
      rename_i hl
      cases hi with
      | tup h1 h2 => exact .inl ⟨_, _, rfl, by rw [hK]; exact Same.seqT r.sub.same h1, by rw [h2.length]; exact hl, ρ, S, L, _, ρ', r, h2, e, fin⟩
    · unfold lenG at e
      split at e <;> try cases e
      rename_i hl
      cases hi with
      | lst h1 h2 => exact .inr ⟨_, _, rfl, SqL.of (r.sub.same _ _ h1), by rw [h2.length]; exact hl, ρ, S, L, _, ρ', r, h2, e, fin⟩

/-- target = e -/
def gAsg (fg : FG) (f : FE) : FS := fun ρ => RS (f ρ) ρ fun d => (fg d ρ).map Out.nx
def gAsgA (fg : FG) (f : FE) : FS := fun ρ => RA (f (thaw ρ)) ρ fun d => (fg d ρ).map Out.nx
theorem ss_asg (hg : EG X T a is fg) (he : EE X T W e f) (hs : swapsWithSole [a] e pos.line X.env = pure false := by rfl) (hw : swappedStores [a] e X.env = pure none := by rfl)
    (h1 : (assignEach [a] X.env).map (·.2) = [assign a X.env] := by rfl) : SS X T W (.Assign [a] e pos) (gAsg fg f) := PS.weak (ps_asg he hg hs hw h1) fun Dn σ H q => by
  obtain ⟨ρ, S, L, o, r, e, fin⟩ := q
  refine sB r e fin fun d v S' H' kp hi r' e' fin' => ?_
  obtain ⟨ρ', e2, rfl⟩ := Option.map_eq_some_iff.mp e'
  exact ⟨ρ, S', L, d, ρ', r', hi, e2, fun σ' L' r2 s2 _ => fin' σ' S' H' L' r2 s2⟩
theorem ss_asgA (hg : EG X T a is fg) (he : EE X T W e f) (hs : swapsWithSole [a] e pos.line X.env = pure false := by rfl) (hw : swappedStores [a] e X.env = pure none := by rfl)
    (h1 : (assignEach [a] X.env).map (·.2) = [assign a X.env] := by rfl) : SS X T W (.Assign [a] e pos) (gAsgA fg f) := PS.weak (ps_asg he hg hs hw h1) fun Dn σ H q => by
  obtain ⟨ρ, S, L, o, r, e, fin⟩ := q
  refine sA r e fin fun d v S' H' kp hi r' e' fin' => ?_
  obtain ⟨ρ', e2, rfl⟩ := Option.map_eq_some_iff.mp e'
  exact ⟨ρ, S', L, d, ρ', r', hi, e2, fun σ' L' r2 s2 _ => fin' σ' S' H' L' r2 s2⟩

/-! ### what is walked -/
/-- J gives the data ds one by one, while what stands behind S1 stands -/
structure IW (T : Tab) (J : It) (S1 : Hp) (ds : List D) : Prop where
  go : ∀ i S H, Same S1 S → EV.Sub S H → i < ds.length → J.go i H
  stop : ∀ S H, Same S1 S → EV.Sub S H → J.stop ds.length H
  yld : ∀ i S H x H', Same S1 S → EV.Sub S H → i < ds.length → J.yld i H x H' → ∃ d S', ds[i]? = some d ∧ Kp S H S' H' ∧ Is T S' x d
def RIEnd (T : Tab) (W : WX) (S H : Hp) (σ : L2.St) (R : It → Hp → Prop) : RL → Prop
  | .ok ds => ∀ J S' H', Kp S H S' H' → IW T J S' ds → R J H'
  | .ex x => ∀ S' H' cls d, Kp S H S' H' → XIs T S' x cls d → W cls d σ H'
theorem RIEnd.mono {S' H' : Hp} {R : It → Hp → Prop} {r : RL} (k : Kp S H S' H') (h : RIEnd T W S H σ R r) : RIEnd T W S' H' σ R r := by
  cases r with
  | ok d => exact fun J S2 H2 k2 i => h J S2 H2 (k.trans k2) i
  | ex x => exact fun S2 H2 cls d k2 i => h S2 H2 cls d (k.trans k2) i
def tI (T : Tab) (W : WX) (f : FL) : TI := fun σ H R => ∃ ρ S r, EV.Sub S H ∧ RepE T S ρ σ ∧ f ρ = some r ∧ RIEnd T W S H σ R r
def EI (X : Cx) (T : Tab) (W : WX) (tg e : Expr) (f : FL) : Prop := PI X tg e (tI T W f)
theorem PI.weak {tg e : Expr} {t u : TI} (h : PI X tg e t) (w : ∀ σ H Q, u σ H Q → t σ H Q) : PI X tg e u := ⟨fun pins s σ H Q I q => h.run pins s σ H Q I (w σ H Q q)⟩
theorem PI.or {tg e : Expr} {t u : TI} (h : PI X tg e t) (h' : PI X tg e u) : PI X tg e (fun σ H R => t σ H R ∨ u σ H R) := ⟨fun pins s σ H Q I q => q.elim (h.run pins s σ H Q I) (h'.run pins s σ H Q I)⟩
theorem tF_goI {R : It → Hp → Prop} {k : D → Option RL} {r : RL} (sh : EV.Sub S H) (rep : RepE T S ρ σ) (h : R1L (f ρ) k = some r) (fin : RIEnd T W S H σ R r)
    (go : ∀ d v S' H', Kp S H S' H' → Is T S' v d → RepE T S' ρ σ → k d = some r → RIEnd T W S' H' σ R r → P v H') : tF T W f σ H P := by
  cases e : f ρ with
  | none => rw [e] at h; cases h
  | some q =>
    rw [e] at h
    refine ⟨ρ, S, q, sh, rep, e, ?_⟩
    cases q with
    | ok d => exact fun v S' H' kp i => go d v S' H' kp i (rep.mono kp.s) h (fin.mono kp)
    | ex x =>
      cases h
      exact fin
theorem tA_goI {R : It → Hp → Prop} {P : List V → Hp → Prop} {f : FL} {k : List D → Option RL} {r : RL} (sh : EV.Sub S H) (rep : RepE T S ρ σ) (h : RLL (f ρ) k = some r) (fin : RIEnd T W S H σ R r)
    (go : ∀ ds vs S' H', Kp S H S' H' → Iss T S' vs ds → RepE T S' ρ σ → k ds = some r → RIEnd T W S' H' σ R r → P vs H') : tA T W f σ H P := by
  cases e : f ρ with
  | none => rw [e] at h; cases h
  | some q =>
    rw [e] at h
    refine ⟨ρ, S, q, sh, rep, e, ?_⟩
    cases q with
    | ok d => exact fun v S' H' kp i => go d v S' H' kp i (rep.mono kp.s) h (fin.mono kp)
    | ex x =>
      cases h
      exact fin
/-- the items of a list, a tuple, the script -/
def seqD : D → Option (List D)
  | .lst xs => some xs
  | .tup xs => some xs
  | .scr ns => some (ns.map D.int)
  | _ => none
def iSeq (f : FE) : FL := fun ρ => R1L (f ρ) fun d => (seqD d).map RL.ok
theorem iw_list {K : PySem.W.Frag} (hK : K = T.K) {a : Addr} {vs : List V} {ds : List D} {S1 : Hp} (h : SqL K S1 a vs) (hs : Iss T S1 vs ds) : IW T (Itl K a) S1 ds := by
  refine ⟨fun i S H s sh hi => ?_, fun S H s sh => ?_, fun i S H x H' s sh hi y => ?_⟩
  · exact walk_list.goes i H (by rw [hs.length]; exact hi) (sh.same.seq (s.seq h))
  · rw [← hs.length]
    exact walk_list.stops H (sh.same.seq (s.seq h))
  · obtain ⟨e, hx⟩ := walk_list.yields i H x H' (by rw [hs.length]; exact hi) (sh.same.seq (s.seq h)) y
    subst e
    obtain ⟨d, h1, h2⟩ := hs.get hx
    exact ⟨d, S, h1, Kp.refl sh, h2.mono s⟩
theorem iw_tup {K : PySem.W.Frag} (hK : K = T.K) {a : Addr} {vs : List V} {ds : List D} {S1 : Hp} (h : SqT K S1 a vs) (hs : Iss T S1 vs ds) : IW T (Itt K a) S1 ds := by
  refine ⟨fun i S H s sh hi => ?_, fun S H s sh => ?_, fun i S H x H' s sh hi y => ?_⟩
  · exact walk_tup.goes i H (by rw [hs.length]; exact hi) (Same.seqT sh.same (Same.seqT s h))
  · rw [← hs.length]
    exact walk_tup.stops H (Same.seqT sh.same (Same.seqT s h))
  · obtain ⟨e, hx⟩ := walk_tup.yields i H x H' (by rw [hs.length]; exact hi) (Same.seqT sh.same (Same.seqT s h)) y
    subst e
    obtain ⟨d, h1, h2⟩ := hs.get hx
    exact ⟨d, S, h1, Kp.refl sh, h2.mono s⟩
theorem ei_seq {tg : Expr} (hK : X.K = T.K := by rfl) (he : EE X T W e f) : EI X T W tg e (iSeq f) := by
  refine PI.weak (PI.or (pi_list he) (pi_tup he)) fun σ H R q => ?_
  obtain ⟨ρ, S, r, sh, rep, e, fin⟩ := q
  unfold iSeq at e
  cases e0 : f ρ with
  | none => rw [e0] at e; cases e
  | some z =>
    cases z with
    | ex x =>
      rw [e0] at e
      cases e
      exact .inl ⟨ρ, S, _, sh, rep, e0, fin⟩
    | ok d =>
      rw [e0] at e
      obtain ⟨ds, e1, rfl⟩ := Option.map_eq_some_iff.mp e
      unfold seqD at e1
      split at e1 <;> cases e1
      · refine .inl ⟨ρ, S, _, sh, rep, e0, fun v S1 H1 k i => ?_⟩
        cases i with
        | lst h hs => exact ⟨_, rfl, ⟨_, SqL.of (k.sub.same _ _ h)⟩, fin _ S1 H1 k (iw_list hK (SqL.of h) hs)⟩
      · refine .inr ⟨ρ, S, _, sh, rep, e0, fun v S1 H1 k i => ?_⟩
        cases i with
        | tup h hs => exact ⟨_, rfl, ⟨_, Same.seqT k.sub.same (by rw [hK]; exact h)⟩, fin _ S1 H1 k (iw_tup hK (by rw [hK]; exact h) hs)⟩
      · refine .inl ⟨ρ, S, _, sh, rep, e0, fun v S1 H1 k i => ?_⟩
        cases i with
        | scr h l => exact ⟨_, rfl, ⟨_, k.sub.same.seq (by rw [hK]; exact h)⟩, fin _ S1 H1 k (iw_list hK (by rw [hK]; exact h) (Iss.ints _))⟩
/-- range -/
def rangeD (lo : Int) (n : Nat) : List D := (List.range n).map fun i => D.int (lo + (i : Nat))
theorem rangeD_length (lo : Int) (n : Nat) : (rangeD lo n).length = n := by simp [rangeD]
theorem iw_range {S1 : Hp} {lo : Int} {n : Nat} : IW T (Itr lo n) S1 (rangeD lo n) := by
  refine ⟨fun i S H s sh hi => ?_, fun S H s sh => ?_, fun i S H x H' s sh hi y => ?_⟩
  · rw [rangeD_length] at hi; exact hi
  · rw [rangeD_length]; exact Nat.le_refl _
  · rw [rangeD_length] at hi
    obtain ⟨e, rfl⟩ := y
    subst e
    refine ⟨.int (lo + (i : Nat)), S, ?_, Kp.refl sh, .int _⟩
    simp [rangeD, hi]
def iRange1 (f : FE) : FL := fun ρ => R1L (f ρ) fun
  | .int j => if -(2 ^ 62) ≤ j ∧ j < 2 ^ 62 then some (.ok (rangeD 0 j.toNat)) else none
  | _ => none
def iRange2 (fa fb : FE) : FL := fun ρ => R1L (fa ρ) fun p => R1L (fb ρ) fun q => match p, q with
  | .int i, .int j => if (-(2 ^ 62) ≤ i ∧ i < 2 ^ 62) ∧ -(2 ^ 62) ≤ j ∧ j < 2 ^ 62 then some (.ok (rangeD i (j - i).toNat)) else none
  | _, _ => none
theorem ei_range1 {tg : Expr} (hm : X.mg "range" = none) (ha : EE X T W a fa) (hg : Gl X "range" := by rfl) (hs : starEach [a] X.env = [(false, eval a X.env)] := by rfl) (hs2 : starEach [a] X.env = (false, eval a X.env) :: starEach [] X.env := by rfl) : EI X T W tg (.Call (.Name "range" p) [a] [] pos) (iRange1 fa) := by
  refine PI.weak (pi_range1 hg hm (pa_cons ha pa_nil hs2) hs) fun σ H R q => ?_
  obtain ⟨ρ, S, r, sh, rep, e, fin⟩ := q
  show tF T W fa σ H _
  refine tF_goI sh rep e fin fun d v S1 H1 k i rep1 e1 fin1 => ?_
  split at e1 <;> try cases e1
  split at e1 <;> cases e1
  rename_i hb
  cases i
  exact ⟨_, rfl, hb.1, hb.2, fin1 _ S1 H1 (Kp.refl k.sub) iw_range⟩
theorem ei_range2 {tg : Expr} (hm : X.mg "range" = none) (ha : EE X T W a fa) (hb : EE X T W b fb) (hg : Gl X "range" := by rfl) (hs : starEach [a, b] X.env = [(false, eval a X.env), (false, eval b X.env)] := by rfl) (hs2 : starEach [b] X.env = [(false, eval b X.env)] := by rfl)
    (hs3 : starEach [a, b] X.env = (false, eval a X.env) :: starEach [b] X.env := by rfl) (hs4 : starEach [b] X.env = (false, eval b X.env) :: starEach [] X.env := by rfl) : EI X T W tg (.Call (.Name "range" p) [a, b] [] pos) (iRange2 fa fb) := by
  refine PI.weak (pi_range2 hg hm (pa_cons ha (pa_cons hb pa_nil hs4) hs3) hs hs2) fun σ H R q => ?_
  obtain ⟨ρ, S, r, sh, rep, e, fin⟩ := q
  show tF T W fa σ H _
  refine tF_goI sh rep e fin fun d v S1 H1 k i rep1 e1 fin1 => ?_
  show tF T W fb σ H1 _
  refine tF_goI k.sub rep1 e1 fin1 fun d2 v2 S2 H2 k2 i2 rep2 e2 fin2 => ?_
  split at e2 <;> try cases e2
  split at e2 <;> cases e2
  rename_i hb
  cases i
  cases i2
  exact ⟨_, _, rfl, ⟨hb.1.1, hb.1.2, hb.2.1, hb.2.2⟩, fin2 _ S2 H2 (Kp.refl k2.sub) iw_range⟩

/-! ### for -/
def loopF (fg : FG) (b : FS) : List D → Env → Option Out
  | [], ρ => some (.nx ρ)
  | d :: ds, ρ => match fg d ρ with
    | none => none
    | some ρ1 => match b ρ1 with
      | some (.nx ρ') => loopF fg b ds ρ'
      | some (.ct ρ') => loopF fg b ds ρ'
      | some (.bk ρ') => some (.nx ρ')
      | o => o
def gFor (fi : FL) (fg : FG) (b : FS) : FS := fun ρ => RSL (fi ρ) ρ fun ds => loopF fg b ds ρ
def gForA (fi : FL) (fg : FG) (b : FS) : FS := fun ρ => RAL (fi (thaw ρ)) ρ fun ds => loopF fg b ds ρ
/-- the loop over what is walked -/
theorem for_core {ds : List D} {J : It} {S1 H1 : Hp} (r : Rep T ρ σ S1 H1 L) (iw : IW T J S1 ds) (e : loopF fg g ds ρ = some o) (fin : SEnd T W Dn S1 H1 L o) :
    ∃ Wi : Nat → Nat → L2.St → Hp → Prop, (∃ m, Wi 0 m σ H1) ∧ ∀ i m σ H, Wi i m σ H → (J.stop i H ∧ Dn.nx σ H) ∨ (J.go i H ∧ ∃ N : L2.St → Hp → Prop, (∀ σ' H', N σ' H' → ∃ m', m' < m ∧ Wi (i + 1) m' σ' H') ∧ ∀ x H', J.yld i H x H' → tT T is fg x σ H' fun σ2 H2 => tG T W g { Dn with nx := N, ct := N, bk := Dn.nx } σ2 H2) := by
  let Pv : Nat → L2.St → Hp → Prop := fun i σ H => ∃ ρ S L, Rep T ρ σ S H L ∧ Same S1 S ∧ loopF fg g (ds.drop i) ρ = some o ∧ SEnd T W Dn S H L o
  refine ⟨fun i m σ H => m = ds.length - i ∧ i ≤ ds.length ∧ Pv i σ H, ⟨ds.length, by simp, Nat.zero_le _, ρ, S1, L, r, Same.refl _, e, fin⟩, ?_⟩
  rintro i m σ H ⟨rfl, hi, ρ, S, L, r, ss, e, fin⟩
  by_cases hlt : i < ds.length
  · refine .inr ⟨iw.go i S H ss r.sub hlt, Pv (i + 1), fun σ' H' p' => ⟨ds.length - (i + 1), by omega, rfl, hlt, p'⟩, fun x H' y => ?_⟩
    obtain ⟨d, S', hd, kp, hi⟩ := iw.yld i S H x H' ss r.sub hlt y
    have hdr : ds.drop i = d :: ds.drop (i + 1) := by
      rw [List.drop_eq_getElem_cons hlt]
      congr 1
      rw [List.getElem?_eq_getElem hlt] at hd
      exact Option.some.inj hd
    rw [hdr, loopF] at e
    split at e <;> try cases e
    rename_i ρ1 e1
    refine ⟨ρ, S', L, d, ρ1, r.kp kp, hi, e1, fun σ' L' r' s' _ => ?_⟩
    have base : Stp S H L S' H' L' := kp.stp.trans s'
    cases q : g ρ1 with
    | none => rw [q] at e; cases e
    | some o1 =>
      rw [q] at e
      refine ⟨ρ1, S', L', o1, r', q, ?_⟩
      cases o1 with
      | nx ρ2 => exact fun σ2 S2 H2 L2 r2 s2 => ⟨ρ2, S2, L2, r2, (ss.trans kp.s).trans s2.s, e, fin.mono (base.trans s2)⟩
      | ct ρ2 => exact fun σ2 S2 H2 L2 r2 s2 => ⟨ρ2, S2, L2, r2, (ss.trans kp.s).trans s2.s, e, fin.mono (base.trans s2)⟩
      | bk ρ2 =>
        cases e
        exact fun σ2 S2 H2 L2 r2 s2 => fin σ2 S2 H2 L2 r2 (base.trans s2)
      | rt d2 =>
        cases e
        exact fun v S2 H2 L2 sh s2 i2 => fin v S2 H2 L2 sh (base.trans s2) i2
      | rs x ρ2 =>
        cases e
        exact fun σ2 S2 H2 L2 cls d2 r2 s2 i2 => fin σ2 S2 H2 L2 cls d2 r2 (base.trans s2) i2
      | rl ds =>
        cases e
        exact fin.mono base
  · have ei : i = ds.length := by omega
    subst ei
    rw [List.drop_length, loopF] at e
    cases e
    exact .inl ⟨iw.stop S H ss r.sub, fin σ S H L r Stp.refl⟩
theorem sBI {f : FL} {R : It → Hp → Prop} {k : List D → Option Out} (r : Rep T ρ σ S H L) (h : RSL (f ρ) ρ k = some o) (fin : SEnd T W Dn S H L o)
    (go : ∀ ds J S' H', Kp S H S' H' → IW T J S' ds → Rep T ρ σ S' H' L → k ds = some o → SEnd T W Dn S' H' L o → R J H') : tI T W f σ H R := by
  cases e : f ρ with
  | none => rw [e] at h; cases h
  | some q =>
    rw [e] at h
    refine ⟨ρ, S, q, r.sub, r.repE, e, ?_⟩
    cases q with
    | ok d => exact fun J S' H' kp i => go d J S' H' kp i (r.kp kp) h (fin.mono kp.stp)
    | ex x =>
      cases h
      exact fun S' H' cls d kp i => fin σ S' H' L cls d (r.kp kp) kp.stp i
theorem ss_for {tg iter : Expr} {fi : FL} (hp : PassesOwn (model X.prog X.w) X.A X.env X.xe) (hc : X.calm = true) (hi : EI X T W tg iter fi) (hg : EG X T tg is fg) (hb : SSs X T W body g) (hs : ∀ x, foldedSetIterable iter X.env x = pure x := by intro _; rfl) :
    SS X T W (.For tg iter body [] pos) (gFor fi fg g) := by
  refine PS.weak (ps_for hp hc hi hg hb hs) fun Dn σ H q => ?_
  obtain ⟨ρ, S, L, o, r, e, fin⟩ := q
  exact sBI r e fin fun ds J S' H' kp iw r' e' fin' => for_core r' iw e' fin'

/-! ### while: m bounds the turns -/
def whileF (c : FE) (b : FS) : Nat → Env → Option Out
  | 0, _ => none
  | n + 1, ρ => RS (c ρ) ρ fun
    | .bl true => (match b ρ with
      | some (.nx ρ') => whileF c b n ρ'
      | some (.ct ρ') => whileF c b n ρ'
      | some (.bk ρ') => some (.nx ρ')
      | o => o)
    | .bl false => some (.nx ρ)
    | _ => none
def gWhile (m : Env → Nat) (c : FE) (b : FS) : FS := fun ρ => whileF c b (m ρ) ρ
theorem ss_while (m : Env → Nat) (hp : PassesOwn (model X.prog X.w) X.A X.env X.xe) (hc : EB X T W c fc) (hb : SSs X T W body g) : SS X T W (.While c body [] pos) (gWhile m fc g) := by
  refine PS.weak (ps_while hp hc hb) fun Dn σ H q => ?_
  obtain ⟨ρ, S, L, o, r, e, fin⟩ := q
  refine ⟨fun n σ H => ∃ ρ S L, Rep T ρ σ S H L ∧ whileF fc g n ρ = some o ∧ SEnd T W Dn S H L o, ⟨m ρ, ρ, S, L, r, e, fin⟩, ?_⟩
  rintro n σ H ⟨ρ, S, L, r, e, fin⟩
  cases n with
  | zero => cases e
  | succ n =>
    rw [whileF] at e
    refine sB r e fin fun d v S' H' kp hi r' e' fin' => ?_
    split at e'
    · cases hi
      refine ⟨true, rfl, ?_⟩
      refine ⟨fun σ H => ∃ ρ S L, Rep T ρ σ S H L ∧ whileF fc g n ρ = some o ∧ SEnd T W Dn S H L o, fun σ' H' z => ⟨n, Nat.lt_succ_self n, z⟩, ?_⟩
      cases q : g ρ with
      | none => rw [q] at e'; cases e'
      | some o1 =>
        rw [q] at e'
        refine ⟨ρ, S', L, o1, r', q, ?_⟩
        cases o1 with
        | nx ρ2 => exact fun σ2 S2 H2 L2 r2 s2 => ⟨ρ2, S2, L2, r2, e', fin'.mono s2⟩
        | ct ρ2 => exact fun σ2 S2 H2 L2 r2 s2 => ⟨ρ2, S2, L2, r2, e', fin'.mono s2⟩
        | bk ρ2 =>
          cases e'
          exact fun σ2 S2 H2 L2 r2 s2 => fin' σ2 S2 H2 L2 r2 s2
        | rt d2 =>
          cases e'
          exact fin'
        | rs x ρ2 =>
          cases e'
          exact fin'
        | rl ds =>
          cases e'
          exact fin'
    · cases hi
      cases e'
      refine ⟨false, rfl, ?_⟩
      exact fin' σ S' H' L r' Stp.refl
    · cases e'
end
end EV
end

section
set_option maxHeartbeats 4000000
/-! EV7: comprehensions; calls of built-ins. -/
namespace EV
open PySem L2
section
variable {X : Cx} {T : Tab} {W : WX} {st : Stmt} {g g1 g2 : FS} {e a b c : Expr} {es : List Expr} {f fa fb fc : FE} {pos : Pos}
variable {S H : Hp} {σ : L2.St} {ρ : Env} {L : Nat → Option Addr} {Dn : Ends} {P : VK} {o : Out} {i : Nat} {x : Str} {p : Pos} {is js : List Nat} {fg : FG} {fgs : FGs}

/-- nothing may be raised -/
abbrev W0 : WX := fun _ _ _ _ => False
def wipeE (ρ : Env) : List Nat → Env
  | [] => ρ
  | v :: vs => (wipeE ρ vs).set v .no
theorem wipeE_length (ρ : Env) : ∀ vs, (wipeE ρ vs).length = ρ.length
  | [] => rfl
  | v :: vs => by unfold wipeE; rw [List.length_set, wipeE_length ρ vs]
theorem wipe_get (σ : L2.St) (j : Nat) : ∀ vs : List Nat, (wipe σ vs)[j]? = if j ∈ vs then (if j < σ.length then some none else none) else σ[j]?
  | [] => by simp [wipe]
  | v :: vs => by
    unfold wipe
    by_cases h : v = j
    · subst h
      by_cases hl : v < σ.length
      · rw [List.getElem?_set_self (by rw [wipe_length]; exact hl)]; simp [hl]
      · rw [List.getElem?_eq_none (by simp [wipe_length]; omega)]; simp [hl]
    · rw [List.getElem?_set_ne h, wipe_get σ j vs]
      have : (j ∈ v :: vs) ↔ j ∈ vs := by simp [Ne.symm h]
      simp only [this]
theorem wipeE_get (σ : Env) (j : Nat) : ∀ vs : List Nat, (wipeE σ vs)[j]? = if j ∈ vs then (if j < σ.length then some Sl.no else none) else σ[j]?
  | [] => by simp [wipeE]
  | v :: vs => by
    unfold wipeE
    by_cases h : v = j
    · subst h
      by_cases hl : v < σ.length
      · rw [List.getElem?_set_self (by rw [wipeE_length]; exact hl)]; simp [hl]
      · rw [List.getElem?_eq_none (by simp [wipeE_length]; omega)]; simp [hl]
    · rw [List.getElem?_set_ne h, wipeE_get σ j vs]
      have : (j ∈ v :: vs) ↔ j ∈ vs := by simp [Ne.symm h]
      simp only [this]
theorem wipe_same {σ σ2 : L2.St} {vs is : List Nat} (hl : σ2.length = σ.length) (h : ∀ j, j ∉ is → σ2[j]? = (wipe σ vs)[j]?) (hs : ∀ j ∈ is, j ∈ vs) : wipe σ2 vs = wipe σ vs := by
  apply List.ext_getElem?
  intro j
  rw [wipe_get, wipe_get, hl]
  by_cases hj : j ∈ vs
  · simp [hj]
  · simp only [hj, if_false]
    rw [h j fun z => hj (hs j z), wipe_get]
    simp [hj]
/-- what the frame's own lists are not seen of -/
def maskS : Sl → Sl
  | .v d => .v d
  | _ => .no
def mask (ρ : Env) : Env := ρ.map maskS
theorem RepE.wiped (r : RepE T S ρ σ) (vs : List Nat) : RepE T S (wipeE ρ vs) (wipe σ vs) := by
  refine ⟨by rw [wipe_length, wipeE_length]; exact r.len, fun i d e => ?_⟩
  rw [wipeE_get] at e
  by_cases hj : i ∈ vs
  · simp only [hj, if_true] at e
    split at e <;> cases e
  · simp only [hj, if_false] at e
    obtain ⟨v, h1, h2⟩ := r.v i d e
    refine ⟨v, ?_, h2⟩
    rw [wipe_get]
    simp only [hj, if_false]
    exact h1
/-- a frame without lists of its own -/
theorem RepE.rep (sh : EV.Sub S H) (r : RepE T S ρ σ) : Rep T (mask ρ) σ S H (fun _ => none) := by
  refine ⟨sh, by unfold mask; simp [r.len], fun i d e => ?_, fun i ds e => ?_, fun i c ds e => ?_, fun i j a h => ?_, fun i a h => ?_⟩
  · unfold mask at e
    rw [List.getElem?_map] at e
    obtain ⟨z, e1, e2⟩ := Option.map_eq_some_iff.mp e
    cases z <;> cases e2
    exact r.v i d e1
  · unfold mask at e
    rw [List.getElem?_map] at e
    obtain ⟨z, e1, e2⟩ := Option.map_eq_some_iff.mp e
    cases z <;> cases e2
  · unfold mask at e
    rw [List.getElem?_map] at e
    obtain ⟨z, e1, e2⟩ := Option.map_eq_some_iff.mp e
    cases z <;> cases e2
  · cases h
  · cases h
/-- one item's turn: nothing (none), left out (some none), its value -/
def itemF (fg : FG) (ft fe : FE) (ρ : Env) (d : D) : Option (Option D) := match fg d (mask ρ) with
  | none => none
  | some ρ1 => match ft ρ1 with
    | some (.ok (.bl true)) => (match fe ρ1 with
      | some (.ok v) => some (some v)
      | _ => none)
    | some (.ok (.bl false)) => some none
    | _ => none
def lcF (fg : FG) (ft fe : FE) (ρ : Env) : List D → Option (List D)
  | [] => some []
  | d :: ds => match itemF fg ft fe ρ d with
    | none => none
    | some r => match lcF fg ft fe ρ ds with
      | none => none
      | some rs => some (r.toList ++ rs)
def vYes : FE := fun _ => some (.ok (.bl true))
def nLc (fi : FL) (fg : FG) (ft fe : FE) (vs : List Nat) : FL := fun ρ => RLL (fi ρ) fun ds => if ds.length ≤ 90000 then (lcF fg ft fe (wipeE ρ vs) ds).map RL.ok else none
def ETs (X : Cx) (T : Tab) (ifs : List Expr) (f : FE) : Prop := PTs X ifs (tFT T W0 f)
theorem PTs.weak {e : List Expr} {t u : TT} (h : PTs X e t) (w : ∀ σ H Q, u σ H Q → t σ H Q) : PTs X e u := ⟨fun pins s σ H Q I q => h.run pins s σ H Q I (w σ H Q q)⟩
theorem et_nil : ETs X T [] vYes := PTs.weak pts_nil fun σ H Q q => by
  obtain ⟨ρ, S, r, sh, rep, e, fin⟩ := q
  cases e
  obtain ⟨b, e4, q⟩ := fin _ S H (Kp.refl sh) (.bl _)
  cases e4
  exact q
theorem et_one (h : EB X T W0 c fc) : ETs X T [c] fc := pts_one h
theorem lcF_length {fg : FG} {ft fe : FE} {ρ : Env} : ∀ {ds rs : List D}, lcF fg ft fe ρ ds = some rs → rs.length ≤ ds.length
  | [], rs, h => by cases h; simp
  | d :: ds, rs, h => by
    unfold lcF at h
    split at h <;> try cases h
    rename_i r _
    split at h <;> cases h
    rename_i rs' h'
    have := lcF_length h'
    cases r <;> simp <;> omega
theorem tI_goN {f : FL} {R : It → Hp → Prop} {Q : VK} {k : List D → Option RL} {r : RL} (sh : EV.Sub S H) (rep : RepE T S ρ σ) (h : RLL (f ρ) k = some r) (fin : RNEnd T W S H σ Q r)
    (go : ∀ ds J S' H', Kp S H S' H' → IW T J S' ds → RepE T S' ρ σ → k ds = some r → RNEnd T W S' H' σ Q r → R J H') : tI T W f σ H R := by
  cases e : f ρ with
  | none => rw [e] at h; cases h
  | some q =>
    rw [e] at h
    refine ⟨ρ, S, q, sh, rep, e, ?_⟩
    cases q with
    | ok d => exact fun J S' H' kp i => go d J S' H' kp i (rep.mono kp.s) h (fin.mono kp)
    | ex x =>
      cases h
      exact fin
theorem w_lc {fi : FL} {ft fe : FE} {vs : List Nat} (hs : ∀ j ∈ is, j ∈ vs) (σ : L2.St) (H : Hp) (Q : VK) (q : tN T W (nLc fi fg ft fe vs) σ H Q) : tLc (tI T W fi) (tT T is fg) (tFT T W0 ft) (tF T W0 fe) vs σ H Q := by
  obtain ⟨ρ, S, r, sh, rep, e, fin⟩ := q
  refine tI_goN sh rep e fin fun ds J S1 H1 k1 iw rep1 e1 fin1 => ?_
  split at e1 <;> try cases e1
  rename_i hlen
  obtain ⟨rs, e2, rfl⟩ := Option.map_eq_some_iff.mp e1
  intro Dl hD
  let Pv : Nat → Hp → Prop := fun i H => ∃ S acc dacc rest, H Dl = some (.lst acc) ∧ S Dl = none ∧ Iss T S acc dacc ∧ Kp S1 H1 S H ∧ lcF fg ft fe (wipeE ρ vs) (ds.drop i) = some rest ∧ dacc ++ rest = rs
  have sD : S1 Dl = none := k1.sub.same.free hD
  refine ⟨fun i m H => m = ds.length - i ∧ i ≤ ds.length ∧ Pv i H, ⟨ds.length, by simp, Nat.zero_le _, S1, [], [], rs, upd_same, sD, .nil, Kp.hide k1.sub hD rfl, e2, rfl⟩, ?_⟩
  rintro i m H2 ⟨rfl, hi, S2, acc, dacc, rest, hL, hS, hacc, kp, er, ers⟩
  by_cases hlt : i < ds.length
  · refine .inr ⟨iw.go i S2 H2 kp.s kp.sub hlt, Pv (i + 1), fun H' p' => ⟨ds.length - (i + 1), by omega, rfl, hlt, p'⟩, fun x H3 y => ?_⟩
    obtain ⟨d, S3, hd, kp3, hx⟩ := iw.yld i S2 H2 x H3 kp.s kp.sub hlt y
    have hdr : ds.drop i = d :: ds.drop (i + 1) := by
      rw [List.drop_eq_getElem_cons hlt]
      congr 1
      rw [List.getElem?_eq_getElem hlt] at hd
      exact Option.some.inj hd
    rw [hdr, lcF] at er
    split at er <;> try cases er
    rename_i r0 e0
    split at er <;> cases er
    rename_i rest' er'
    unfold itemF at e0
    split at e0 <;> try cases e0
    rename_i ρ1 eg
    have k13 : Kp S1 H1 S3 H3 := kp.trans kp3
    have hL3 : H3 Dl = some (.lst acc) := kp3.h _ _ hL
    have hS3 : S3 Dl = none := kp3.hid Dl (by rw [hL]; intro z; cases z) hS
    have repW : RepE T S3 (wipeE ρ vs) (wipe σ vs) := (rep1.wiped vs).mono (kp.s.trans kp3.s)
    refine ⟨mask (wipeE ρ vs), S3, fun _ => none, d, ρ1, repW.rep kp3.sub, hx, eg, fun σ2 L2' r2 s2 c2 => ⟨wipe_same (by rw [c2.1, wipe_length]) c2.2 hs, ?_⟩⟩
    split at e0 <;> try cases e0
    · rename_i et
      split at e0 <;> cases e0
      rename_i v ev
      refine ⟨ρ1, S3, _, kp3.sub, r2.repE, et, fun b S4 H4 kp4 ib => ?_⟩
      cases ib
      refine ⟨true, rfl, ρ1, S4, _, kp4.sub, r2.repE.mono kp4.s, ev, fun y S5 H5 kp5 iy => ?_⟩
      have k15 : Kp S1 H1 S5 H5 := (k13.trans kp4).trans kp5
      have hL5 : H5 Dl = some (.lst acc) := kp5.h _ _ (kp4.h _ _ hL3)
      have hS5 : S5 Dl = none := kp5.hid Dl (by rw [kp4.h _ _ hL3]; intro z; cases z) (kp4.hid Dl (by rw [hL3]; intro z; cases z) hS3)
      have hall : (dacc ++ v :: rest').length ≤ 100000 := by
        have h1 : dacc ++ v :: rest' = rs := ers
        rw [h1]
        exact Nat.le_trans (lcF_length e2) (by omega)
      refine ⟨acc, hL5, by rw [hacc.length]; rw [List.length_append, List.length_cons] at hall; exact line_lt (by omega), S5, acc ++ [y], dacc ++ [v], rest', upd_same, hS5, ?_, ?_, er', by rw [List.append_assoc]; exact ers⟩
      · exact (hacc.mono ((kp3.s.trans kp4.s).trans kp5.s)).append (.cons iy .nil)
      · refine ⟨k15.s, fun q u hq => ?_, ⟨fun q u hq => ?_, fun q u hq hf => ?_⟩, k15.hid⟩
        · rw [upd_ne (ne_of_none hq hD)]; exact k15.h q u hq
        · rw [upd_ne (ne_of_none hq hS5)]; exact k15.sub.same q u hq
        · by_cases hqD : q = Dl
          · subst hqD; rw [upd_same] at hq; cases hq; cases hf
          · rw [upd_ne hqD] at hq; exact k15.sub.fix q u hq hf
    · rename_i et
      refine ⟨ρ1, S3, _, kp3.sub, r2.repE, et, fun b S4 H4 kp4 ib => ?_⟩
      cases ib
      refine ⟨false, rfl, ?_⟩
      exact ⟨S4, acc, dacc, rest', kp4.h _ _ hL3, kp4.hid Dl (by rw [hL3]; intro z; cases z) hS3, hacc.mono (kp3.s.trans kp4.s), k13.trans kp4, er', ers⟩
  · have ei : i = ds.length := by omega
    subst ei
    rw [List.drop_length, lcF] at er
    cases er
    rw [List.append_nil] at ers
    subst ers
    exact .inl ⟨iw.stop S2 H2 kp.s kp.sub, fin1 Dl acc S2 H2 kp hD hS hL hacc⟩

section
variable {elt tg iter : Expr} {ifs : List Expr} {scope : Scope} {own : List (Str × Nat)} {fi : FL} {ft fe : FE}
theorem en_lc (own : List (Str × Nat)) (hc : X.calm = true) (hN : X.N.Nodup) (ok : BlkOk X.N X.env.scope scope own) (hsub : ∀ j ∈ is, j ∈ own.map (·.2)) (hi : EI X T W tg iter fi)
    (hg : ∀ (s : Shared) (H : Hp) (C : Addr) (cl : List (Str × Addr)) (fp : List Addr), EG (X.blk s H scope (compEnvC scope cl C X.env) fp) T tg is fg) (ht : ∀ (s : Shared) (H : Hp) (C : Addr) (cl : List (Str × Addr)) (fp : List Addr), ETs (X.blk s H scope (compEnvC scope cl C X.env) fp) T ifs ft)
    (he : ∀ (s : Shared) (H : Hp) (C : Addr) (cl : List (Str × Addr)) (fp : List Addr), EE (X.blk s H scope (compEnvC scope cl C X.env) fp) T W0 elt fe) (hs : ∀ x, foldedSetIterable iter X.env x = pure x := by intro _; rfl) :
    EN X T W (.ListComp elt [⟨tg, iter, ifs, 0⟩] scope pos) (nLc fi fg ft fe (own.map (·.2))) := PE.weak (pe_lc hc hN hi ok hg ht he hs) (w_lc hsub)
section
variable {y : Str} {py spos : Pos} {i : Nat}
theorem ps_lcs (own : List (Str × Nat)) (i : Nat) (hc : X.calm = true) (hN : X.N.Nodup) (ok : BlkOk X.N X.env.scope scope own) (hy : X.N[i]? = some y) (hyl : X.env.scope.names.lookup y = some .local)
    (hsw : swapsWith (.ListComp elt [⟨tg, iter, ifs, 0⟩] scope pos) (some (.Name y py)) spos.line X.env = pure true) (hi : EI X T W tg iter fi)
    (hg : ∀ (s : Shared) (H : Hp) (C : Addr) (cl : List (Str × Addr)) (fp : List Addr), EG (X.blk s H scope (compEnvC scope cl C X.env) fp) T tg is fg) (ht : ∀ (s : Shared) (H : Hp) (C : Addr) (cl : List (Str × Addr)) (fp : List Addr), ETs (X.blk s H scope (compEnvC scope cl C X.env) fp) T ifs ft)
    (he : ∀ (s : Shared) (H : Hp) (C : Addr) (cl : List (Str × Addr)) (fp : List Addr), EE (X.blk s H scope (compEnvC scope cl C X.env) fp) T W0 elt fe) (hs : ∀ x, foldedSetIterable iter X.env x = pure x := by intro _; rfl) :
    PS X (.Assign [.Name y py] (.ListComp elt [⟨tg, iter, ifs, 0⟩] scope pos) spos) (tAsg (tLc (tI T W fi) (tT T is fg) (tFT T W0 ft) (tF T W0 fe) (own.map (·.2))) (gName i)) := ps_setLc hc hN hy hyl hsw hi ok hg ht he hs
theorem tn_tf {f : FL} (σ : L2.St) (H : Hp) (Q : VK) (q : tF T W (vL f) σ H Q) : tN T W f σ H Q := by
  obtain ⟨ρ, S, r, sh, rep, e, fin⟩ := q
  unfold vL at e
  cases e1 : f ρ with
  | none => rw [e1] at e; cases e
  | some z =>
    rw [e1] at e
    refine ⟨ρ, S, z, sh, rep, e1, ?_⟩
    cases z with
    | ok ds =>
      cases e
      intro a vs S' H' k hn hs h' i
      exact fin _ _ _ (k.open hn h' hs) (.lst upd_same (i.mono (Same.opened hs)))
    | ex x =>
      cases e
      exact fin
end
end
theorem ss_lc_v {te : TE} {f : FL} (h : PS X st (tAsg te (gName i))) (w : ∀ σ H Q, tN T W f σ H Q → te σ H Q) : SS X T W st (gSet i (vL f)) := ss_set_ h fun σ H Q q => w σ H Q (tn_tf σ H Q q)
theorem ss_lc_A {te : TE} {f : FL} (h : PS X st (tAsg te (gName i))) (w : ∀ σ H Q, tN T W f σ H Q → te σ H Q) : SS X T W st (gOwnA i f) := ss_ownA_ h w
theorem ss_lc_o {te : TE} {f : FL} (h : PS X st (tAsg te (gName i))) (w : ∀ σ H Q, tN T W f σ H Q → te σ H Q) : SS X T W st (gOwn i f) := ss_own_ h w

/-! ### calls of built-ins by values -/
/-- r does what o says of a list of arguments -/
def OpC (T : Tab) (r : List V → Hp → VK → Prop) (o : List D → Option D) : Prop := ∀ (S H : Hp) (vs : List V) (ds : List D) (d : D) (Q : VK), EV.Sub S H → Iss T S vs ds → o ds = some d → (∀ v S' H', Kp S H S' H' → Is T S' v d → Q v H') → r vs H Q
def OpN (T : Tab) (r : List V → Hp → VK → Prop) (o : List D → Option (List D)) : Prop := ∀ (S H : Hp) (vs : List V) (ds es : List D) (Q : VK), EV.Sub S H → Iss T S vs ds → o ds = some es → (∀ a vs' S' H', Kp S H S' H' → H a = none → S' a = none → H' a = some (.lst vs') → Iss T S' vs' es → Q (.ref a) H') → r vs H Q
def vCall (o : List D → Option D) (fs : FL) : FE := fun ρ => RL1 (fs ρ) fun ds => okO (o ds)
def nCall (o : List D → Option (List D)) (fs : FL) : FL := fun ρ => RLL (fs ρ) fun ds => (o ds).map RL.ok
section
variable {r : List V → Hp → VK → Prop} {od : List D → Option D} {ol : List D → Option (List D)} {fs : FL} {id Ty : String}
theorem wC (h : OpC T r od) (σ : L2.St) (H : Hp) (Q : VK) (q : tF T W (vCall od fs) σ H Q) : tCB r (tA T W fs) σ H Q := by
  obtain ⟨ρ, S, z, sh, rep, e, fin⟩ := q
  refine tA_go sh rep e fin fun ds vs S1 H1 k1 i1 rep1 e1 fin1 => ?_
  obtain ⟨d, e2, rfl⟩ := okO_inv e1
  exact h S1 H1 vs ds d Q k1.sub i1 e2 fin1
theorem wN (h : OpN T r ol) (σ : L2.St) (H : Hp) (Q : VK) (q : tN T W (nCall ol fs) σ H Q) : tCB r (tA T W fs) σ H Q := by
  obtain ⟨ρ, S, z, sh, rep, e, fin⟩ := q
  refine tA_goN sh rep e fin fun ds vs S1 H1 k1 i1 rep1 e1 fin1 => ?_
  obtain ⟨es, e2, rfl⟩ := Option.map_eq_some_iff.mp e1
  exact h S1 H1 vs ds es Q k1.sub i1 e2 fin1
theorem ee_callB (hc : CallR X (.builtin id) r) (h : OpC T r od) (hm : X.mg x = none) (hv : bootBuiltins x = some (.builtin id)) (hg : Gl X x := by rfl) (ha : EA X T W (e :: es) fs) (hn : x ≠ "__name__" := by decide) (hdb : (x == ("__debug__" : Str)) = false := by decide)
    (he : starEach (e :: es) X.env = (false, eval e X.env) :: starEach es X.env := by rfl) (hpl : (backTo pos (starEach es X.env)).any (·.1) = false := by rfl) : EE X T W (.Call (.Name x p) (e :: es) [] pos) (vCall od fs) :=
  PE.weak (pe_callB hc hg hm hv ha hn hdb he hpl) (wC h)
theorem ee_callT (hc : CallR X (.type Ty) r) (h : OpC T r od) (hm : X.mg x = none) (hv : bootBuiltins x = some (.type Ty)) (hg : Gl X x := by rfl) (ha : EA X T W (e :: es) fs) (hn : x ≠ "__name__" := by decide) (hdb : (x == ("__debug__" : Str)) = false := by decide)
    (he : starEach (e :: es) X.env = (false, eval e X.env) :: starEach es X.env := by rfl) (hpl : (backTo pos (starEach es X.env)).any (·.1) = false := by rfl) : EE X T W (.Call (.Name x p) (e :: es) [] pos) (vCall od fs) :=
  PE.weak (pe_callTy hc hg hm hv ha hn hdb he hpl) (wC h)
theorem en_callB (hc : CallR X (.builtin id) r) (h : OpN T r ol) (hm : X.mg x = none) (hv : bootBuiltins x = some (.builtin id)) (hg : Gl X x := by rfl) (ha : EA X T W (e :: es) fs) (hn : x ≠ "__name__" := by decide) (hdb : (x == ("__debug__" : Str)) = false := by decide)
    (he : starEach (e :: es) X.env = (false, eval e X.env) :: starEach es X.env := by rfl) (hpl : (backTo pos (starEach es X.env)).any (·.1) = false := by rfl) : EN X T W (.Call (.Name x p) (e :: es) [] pos) (nCall ol fs) :=
  PE.weak (pe_callB hc hg hm hv ha hn hdb he hpl) (wN h)
theorem en_callT (hc : CallR X (.type Ty) r) (h : OpN T r ol) (hm : X.mg x = none) (hv : bootBuiltins x = some (.type Ty)) (hg : Gl X x := by rfl) (ha : EA X T W (e :: es) fs) (hn : x ≠ "__name__" := by decide) (hdb : (x == ("__debug__" : Str)) = false := by decide)
    (he : starEach (e :: es) X.env = (false, eval e X.env) :: starEach es X.env := by rfl) (hpl : (backTo pos (starEach es X.env)).any (·.1) = false := by rfl) : EN X T W (.Call (.Name x p) (e :: es) [] pos) (nCall ol fs) :=
  PE.weak (pe_callTy hc hg hm hv ha hn hdb he hpl) (wN h)
end
def lenD : List D → Option D
  | [.lst xs] => some (.int xs.length)
  | [.tup xs] => some (.int xs.length)
  | [.scr xs] => some (.int xs.length)
  | _ => none
theorem o_len {K : PySem.W.Frag} (hK : K = T.K) : OpC T (fun xs H Q => ∃ p ys, xs = [.ref p] ∧ (SqL K H p ys ∨ SqT K H p ys) ∧ Q (.int ys.length) H) lenD := by
  subst hK
  intro S H vs ds d Q sh is e fin
  unfold lenD at e
  split at e <;> cases e
  · cases is with
    | cons h t =>
      cases t
      cases h with
      | lst h s => exact ⟨_, _, rfl, .inl (SqL.of (sh.same _ _ h)), by rw [s.length]; exact fin _ S H (Kp.refl sh) (.int _)⟩
  · cases is with
    | cons h t =>
      cases t
      cases h with
      | tup h s => exact ⟨_, _, rfl, .inr (Same.seqT sh.same h), by rw [s.length]; exact fin _ S H (Kp.refl sh) (.int _)⟩
  · cases is with
    | cons h t =>
      cases t
      cases h with
      | scr h l => exact ⟨_, _, rfl, .inl (sh.same.seq h), by rw [List.length_map]; exact fin _ S H (Kp.refl sh) (.int _)⟩
def intD : List D → Option D
  | [.int i] => some (.int i)
  | [.bl b] => some (.int (if b then 1 else 0))
  | _ => none
theorem o_int : OpC T (fun xs H Q => (∃ i, xs = [.int i] ∧ Q (.int i) H) ∨ ∃ k, xs = [.bl k] ∧ Q (.int (if k then 1 else 0)) H) intD := by
  intro S H vs ds d Q sh is e fin
  unfold intD at e
  split at e <;> cases e
  · cases is with
    | cons h t =>
      cases t
      cases h
      exact .inl ⟨_, rfl, fin _ S H (Kp.refl sh) (.int _)⟩
  · cases is with
    | cons h t =>
      cases t
      cases h
      exact .inr ⟨_, rfl, fin _ S H (Kp.refl sh) (.int _)⟩
def boolD : List D → Option D
  | [.int i] => some (.bl (i != 0))
  | [.bl b] => some (.bl b)
  | _ => none
theorem o_bool : OpC T (fun xs H Q => (∃ i, xs = [.int i] ∧ Q (.bl (i != 0)) H) ∨ ∃ k, xs = [.bl k] ∧ Q (.bl k) H) boolD := by
  intro S H vs ds d Q sh is e fin
  unfold boolD at e
  split at e <;> cases e
  · cases is with
    | cons h t =>
      cases t
      cases h
      exact .inl ⟨_, rfl, fin _ S H (Kp.refl sh) (.bl _)⟩
  · cases is with
    | cons h t =>
      cases t
      cases h
      exact .inr ⟨_, rfl, fin _ S H (Kp.refl sh) (.bl _)⟩
def absD : List D → Option D
  | [.int i] => some (.int (if i < 0 then -i else i))
  | _ => none
def minD : List D → Option D
  | [.int i, .int j] => some (.int (if j < i then j else i))
  | _ => none
def maxD : List D → Option D
  | [.int i, .int j] => some (.int (if j > i then j else i))
  | _ => none
theorem o_abs : OpC T (fun xs H Q => ∃ i, xs = [.int i] ∧ Q (.int (if i < 0 then -i else i)) H) absD := by
  intro S H vs ds d Q sh is e fin
  unfold absD at e
  split at e <;> cases e
  cases is with
  | cons h t =>
    cases t
    cases h
    exact ⟨_, rfl, fin _ S H (Kp.refl sh) (.int _)⟩
theorem o_min : OpC T (fun xs H Q => ∃ i j, xs = [.int i, .int j] ∧ Q (.int (if j < i then j else i)) H) minD := by
  intro S H vs ds d Q sh is e fin
  unfold minD at e
  split at e <;> cases e
  cases is with
  | cons h t =>
    cases t with
    | cons h2 t =>
      cases t
      cases h
      cases h2
      exact ⟨_, _, rfl, fin _ S H (Kp.refl sh) (.int _)⟩
theorem o_max : OpC T (fun xs H Q => ∃ i j, xs = [.int i, .int j] ∧ Q (.int (if j > i then j else i)) H) maxD := by
  intro S H vs ds d Q sh is e fin
  unfold maxD at e
  split at e <;> cases e
  cases is with
  | cons h t =>
    cases t with
    | cons h2 t =>
      cases t
      cases h
      cases h2
      exact ⟨_, _, rfl, fin _ S H (Kp.refl sh) (.int _)⟩
def tupleD : List D → Option D
  | [.lst xs] => some (.tup xs)
  | [.tup xs] => some (.tup xs)
  | _ => none
theorem o_tuple {K : PySem.W.Frag} (hK : K = T.K) : OpC T (fun xs H Q => ∃ p ys, xs = [.ref p] ∧ ((SqL K H p ys ∧ ∀ l, H l = none → Q (.ref l) (L2.upd H l (.tup ys))) ∨ (SqT K H p ys ∧ Q (.ref p) H))) tupleD := by
  subst hK
  intro S H vs ds d Q sh is e fin
  unfold tupleD at e
  split at e <;> cases e
  · cases is with
    | cons h t =>
      cases t
      cases h with
      | @lst a ys _ h s =>
        refine ⟨_, _, rfl, .inl ⟨SqL.of (sh.same _ _ h), fun l hl => ?_⟩⟩
        have k := Kp.new (o := .tup ys) sh hl
        exact fin _ _ _ k (.tup (SqT.of upd_same) (s.mono k.s))
  · cases is with
    | cons h t =>
      cases t
      cases h with
      | tup h s => exact ⟨_, _, rfl, .inr ⟨Same.seqT sh.same h, fin _ S H (Kp.refl sh) (.tup h s)⟩⟩
def listD : List D → Option (List D)
  | [.lst xs] => some xs
  | [.tup xs] => some xs
  | [.scr xs] => some (xs.map D.int)
  | _ => none
theorem o_list {K : PySem.W.Frag} (hK : K = T.K) : OpN T (fun xs H Q => ∃ p ys, xs = [.ref p] ∧ (SqL K H p ys ∨ SqT K H p ys) ∧ ∀ l, H l = none → Q (.ref l) (L2.upd H l (.lst ys))) listD := by
  subst hK
  intro S H vs ds es Q sh is e fin
  unfold listD at e
  split at e <;> cases e
  · cases is with
    | cons h t =>
      cases t
      cases h with
      | lst h s => exact ⟨_, _, rfl, .inl (SqL.of (sh.same _ _ h)), fun l hl => fin l _ S _ (Kp.hide sh hl rfl) hl (sh.same.free hl) upd_same s⟩
  · cases is with
    | cons h t =>
      cases t
      cases h with
      | tup h s => exact ⟨_, _, rfl, .inr (Same.seqT sh.same h), fun l hl => fin l _ S _ (Kp.hide sh hl rfl) hl (sh.same.free hl) upd_same s⟩
  · cases is with
    | cons h t =>
      cases t
      cases h with
      | scr h l => exact ⟨_, _, rfl, .inl (sh.same.seq h), fun l hl => fin l _ S _ (Kp.hide sh hl rfl) hl (sh.same.free hl) upd_same (Iss.ints _)⟩
/-- all, any, sum of a list -/
def blsD : List D → Option (List Bool)
  | [] => some []
  | .bl b :: r => (blsD r).map (b :: ·)
  | _ => none
def intsD : List D → Option (List Int)
  | [] => some []
  | .int b :: r => (intsD r).map (b :: ·)
  | _ => none
theorem bls_iss {H : Hp} : ∀ {vs : List V} {ds : List D} {bs : List Bool}, Iss T H vs ds → blsD ds = some bs → vs = bs.map V.bl
  | _, _, _, .nil, h => by cases h; rfl
  | _, _, bs, .cons (d := d) h hs, e => by
    cases d <;> first | (cases e; done) | skip
    obtain ⟨r, e1, rfl⟩ := Option.map_eq_some_iff.mp (by simpa [blsD] using e)
    cases h
    rw [bls_iss hs e1]
    rfl
theorem ints_iss {H : Hp} : ∀ {vs : List V} {ds : List D} {bs : List Int}, Iss T H vs ds → intsD ds = some bs → vs = bs.map V.int
  | _, _, _, .nil, h => by cases h; rfl
  | _, _, bs, .cons (d := d) h hs, e => by
    cases d <;> first | (cases e; done) | skip
    obtain ⟨r, e1, rfl⟩ := Option.map_eq_some_iff.mp (by simpa [intsD] using e)
    cases h
    rw [ints_iss hs e1]
    rfl
def allD : List D → Option D
  | [.lst xs] => (blsD xs).map fun bs => .bl (bs.all id)
  | _ => none
def anyD : List D → Option D
  | [.lst xs] => (blsD xs).map fun bs => .bl (bs.any id)
  | _ => none
def sumD : List D → Option D
  | [.lst xs] => (intsD xs).map fun bs => .int bs.sum
  | _ => none
theorem o_all {K : PySem.W.Frag} (hK : K = T.K) : OpC T (rAll K) allD := by
  subst hK
  intro S H vs ds d Q sh is e fin
  unfold allD at e
  split at e <;> try cases e
  obtain ⟨bs, e1, rfl⟩ := Option.map_eq_some_iff.mp e
  cases is with
  | cons h t =>
    cases t
    cases h with
    | lst h s =>
      rw [bls_iss s e1] at h
      exact ⟨_, bs, rfl, SqL.of (sh.same _ _ h), fin _ S H (Kp.refl sh) (.bl _)⟩
theorem o_any {K : PySem.W.Frag} (hK : K = T.K) : OpC T (rAny K) anyD := by
  subst hK
  intro S H vs ds d Q sh is e fin
  unfold anyD at e
  split at e <;> try cases e
  obtain ⟨bs, e1, rfl⟩ := Option.map_eq_some_iff.mp e
  cases is with
  | cons h t =>
    cases t
    cases h with
    | lst h s =>
      rw [bls_iss s e1] at h
      exact ⟨_, bs, rfl, SqL.of (sh.same _ _ h), fin _ S H (Kp.refl sh) (.bl _)⟩
theorem o_sum {K : PySem.W.Frag} (hK : K = T.K) : OpC T (rSum K) sumD := by
  subst hK
  intro S H vs ds d Q sh is e fin
  unfold sumD at e
  split at e <;> try cases e
  obtain ⟨bs, e1, rfl⟩ := Option.map_eq_some_iff.mp e
  cases is with
  | cons h t =>
    cases t
    cases h with
    | lst h s =>
      rw [ints_iss s e1] at h
      exact ⟨_, bs, rfl, SqL.of (sh.same _ _ h), fin _ S H (Kp.refl sh) (.int _)⟩
end
end EV
end

section
set_option maxHeartbeats 4000000
/-! EV8: defs, calls, own classes. -/
namespace EV
open PySem L2

/-! ### what a def does, as a function of data -/
def semF (n : Nat) (g : FS) (ds : List D) : Option R := match g (ds.map Sl.v ++ List.replicate (n - ds.length) Sl.no) with
  | some (.rt d) => some (.ok d)
  | some (.nx _) => some (.ok .non)
  | some (.rs x _) => some (.ex x)
  | some (.rl ds) => some (.ok (.lst ds))
  | _ => none
def FEnd (T : Tab) (S H : Hp) (Q : VK) (E : XK) : R → Prop
  | .ok d => ∀ v S' H', Kp S H S' H' → Is T S' v d → Q v H'
  | .ex x => ∀ S' H' cls d, Kp S H S' H' → XIs T S' x cls d → E cls d H'
def spF (T : Tab) (n : Nat) (sem : List D → Option R) : Sp := fun vs H Q E => ∃ S ds r, EV.Sub S H ∧ Iss T S vs ds ∧ vs.length = n ∧ sem ds = some r ∧ FEnd T S H Q E r
theorem Stp.kp0 {S H S' H' : Hp} {L' : Nat → Option Addr} (h : Stp S H (fun _ => none) S' H' L') (sh : EV.Sub S' H') : Kp S H S' H' :=
  ⟨h.s, fun a o e => h.fr a o e (fun _ z => (nomatch z)), sh, fun a h1 h2 => h.hid a h1 h2 (fun _ z => (nomatch z))⟩
theorem rep_start {T : Tab} {S H : Hp} {vs : List V} {ds : List D} {N : List Str} (sh : EV.Sub S H) (h : Iss T S vs ds) : Rep T (ds.map Sl.v ++ List.replicate (N.length - ds.length) Sl.no) (L2.start N vs) S H (fun _ => none) := by
  have nov : ∀ (i : Nat) (s : Sl), (ds.map Sl.v ++ List.replicate (N.length - ds.length) Sl.no)[i]? = some s → (∃ d, ds[i]? = some d ∧ s = .v d) ∨ s = .no := fun i s e => by
    by_cases hi : i < ds.length
    · rw [List.getElem?_append_left (by simpa using hi), List.getElem?_map] at e
      obtain ⟨d, e1, e2⟩ := Option.map_eq_some_iff.mp e
      exact .inl ⟨d, e1, e2.symm⟩
    · rw [List.getElem?_append_right (by simpa using hi)] at e
      exact .inr ((List.mem_replicate.mp (List.mem_of_getElem? e)).2)
  refine ⟨sh, ?_, fun i d e => ?_, fun i ds' e => ?_, fun i c ds' e => ?_, fun _ _ _ z => (nomatch z), fun _ _ z => (nomatch z)⟩
  · unfold L2.start
    simp [h.length]
  · rcases nov i _ e with ⟨d', e1, e2⟩ | e2
    · cases e2
      obtain ⟨v, h1, h2⟩ := h.get' e1
      refine ⟨v, ?_, h2⟩
      have hi := (List.getElem?_eq_some_iff.mp h1).1
      unfold L2.start
      rw [List.getElem?_append_left (by simpa using hi), List.getElem?_map, h1]
      rfl
    · cases e2
  · rcases nov i _ e with ⟨d', e1, e2⟩ | e2 <;> cases e2
  · rcases nov i _ e with ⟨d', e1, e2⟩ | e2 <;> cases e2
section
variable {P : Program} {w : World} {K : PySem.W.Frag} {mg : Str → Option Value} {base : Heap} {x qual : Str} {params : Arguments} {body : List Stmt} {scope : Scope} {dvs : List V} {kws : List (Str × V)} {f : Addr} {fd : FuncData} {N ps : List Str} {k : Nat} {T : Tab} {g : FS}
/-- THE RULE of a def -/
theorem fn_ev (F : FunD K x qual params body scope dvs kws f fd) (Sc : FnScope N ps scope)
    (hb : ∀ (cdv : Value) (A : Around) (outer : List PySem.Env) (s : Shared) (H : Hp) (E : XK), Room k (A.deeper (PyProof.Rows.envOfC qual scope s.heap.objs.size f cdv)) →
      SSs (cxOf (L2.CX P w) P w K mg base N qual scope f cdv A outer s H E) T (fun cls d _ H' => E cls d H') body g) : FnOk P w K mg base (L2.CX P w) (k + 1) f fd ps (spF T ps.length (semF N.length g)) := by
  refine F.ok Sc (fun vs H Q E h => ?_) fun cdv A outer s H vs Q E hr h => ⟨_, hb cdv A outer s H E hr, ?_⟩
  · obtain ⟨S, ds, r, _, _, hl, _⟩ := h
    exact hl
  · obtain ⟨S, ds, r, sh, hi, hl, e, fin⟩ := h
    unfold semF at e
    split at e <;> cases e
    · rename_i d hd
      exact ⟨_, S, _, _, rep_start sh hi, hd, fun v S' H' L' sh' st i => fin v S' H' (st.kp0 sh') i⟩
    · rename_i ρ hd
      exact ⟨_, S, _, _, rep_start sh hi, hd, fun σ' S' H' L' r st => fin .non S' H' (st.kp0 r.sub) .non⟩
    · rename_i x ρ hd
      exact ⟨_, S, _, _, rep_start sh hi, hd, fun σ' S' H' L' cls d r st i => fin S' H' cls d (st.kp0 r.sub) i⟩
    · rename_i es hd
      refine ⟨_, S, _, _, rep_start sh hi, hd, fun a us S' H' L' sh' st hy h1 h2 i => ?_⟩
      have hn : H a = none := by
        rcases hy with hy | ⟨_, hy⟩
        · exact hy
        · cases hy
      exact fin (.ref a) _ H' ((st.kp0 sh').open hn h2 h1) (.lst upd_same (i.mono (Same.opened h1)))
/-- a def that gives a new list -/
def semL (n : Nat) (g : FS) (ds : List D) : Option RL := match g (ds.map Sl.v ++ List.replicate (n - ds.length) Sl.no) with
  | some (.rl es) => some (.ok es)
  | some (.rs x _) => some (.ex x)
  | _ => none
def LEnd (T : Tab) (S H : Hp) (Q : VK) (E : XK) : RL → Prop
  | .ok es => ∀ a vs S' H', Kp S H S' H' → H a = none → S' a = none → H' a = some (.lst vs) → Iss T S' vs es → Q (.ref a) H'
  | .ex x => ∀ S' H' cls d, Kp S H S' H' → XIs T S' x cls d → E cls d H'
def spL (T : Tab) (n : Nat) (sem : List D → Option RL) : Sp := fun vs H Q E => ∃ S ds r, EV.Sub S H ∧ Iss T S vs ds ∧ vs.length = n ∧ sem ds = some r ∧ LEnd T S H Q E r
theorem fn_evL (F : FunD K x qual params body scope dvs kws f fd) (Sc : FnScope N ps scope)
    (hb : ∀ (cdv : Value) (A : Around) (outer : List PySem.Env) (s : Shared) (H : Hp) (E : XK), Room k (A.deeper (PyProof.Rows.envOfC qual scope s.heap.objs.size f cdv)) →
      SSs (cxOf (L2.CX P w) P w K mg base N qual scope f cdv A outer s H E) T (fun cls d _ H' => E cls d H') body g) : FnOk P w K mg base (L2.CX P w) (k + 1) f fd ps (spL T ps.length (semL N.length g)) := by
  refine F.ok Sc (fun vs H Q E h => ?_) fun cdv A outer s H vs Q E hr h => ⟨_, hb cdv A outer s H E hr, ?_⟩
  · obtain ⟨S, ds, r, _, _, hl, _⟩ := h
    exact hl
  · obtain ⟨S, ds, r, sh, hi, hl, e, fin⟩ := h
    unfold semL at e
    split at e <;> cases e
    · rename_i es hd
      refine ⟨_, S, _, _, rep_start sh hi, hd, fun a us S' H' L' sh' st hy h1 h2 i => ?_⟩
      have hn : H a = none := by
        rcases hy with hy | ⟨_, hy⟩
        · exact hy
        · cases hy
      exact fin a us S' H' (st.kp0 sh') hn h1 h2 i
    · rename_i x ρ hd
      exact ⟨_, S, _, _, rep_start sh hi, hd, fun σ' S' H' L' cls d r st i => fin S' H' cls d (st.kp0 r.sub) i⟩
end

/-! ### how arguments are bound: written ones, keywords, defaults, put in the parameters' order -/
def pick {α : Type} (perm : List Nat) (xs : List α) : List α := perm.filterMap fun j => xs[j]?
theorem Vals.pick {xs : List V} {us : List Value} (h : Vals xs us) : ∀ perm : List Nat, Vals (EV.pick perm xs) (EV.pick perm us)
  | [] => .nil
  | j :: r => by
    unfold EV.pick
    rw [List.filterMap_cons, List.filterMap_cons]
    cases e : xs[j]? with
    | none =>
      rw [h.none_of e]
      exact Vals.pick h r
    | some x =>
      obtain ⟨u, e2, ru⟩ := h.get e
      rw [e2]
      exact .cons ru (Vals.pick h r)
theorem Iss.pick {T : Tab} {H : Hp} {xs : List V} {us : List D} (h : Iss T H xs us) : ∀ perm : List Nat, Iss T H (EV.pick perm xs) (EV.pick perm us)
  | [] => .nil
  | j :: r => by
    unfold EV.pick
    rw [List.filterMap_cons, List.filterMap_cons]
    cases e : xs[j]? with
    | none =>
      have : us[j]? = none := by
        have h1 := h.length
        have h2 : xs.length ≤ j := List.getElem?_eq_none_iff.mp e
        exact List.getElem?_eq_none_iff.mpr (by omega)
      rw [this]
      exact Iss.pick h r
    | some x =>
      obtain ⟨u, e2, ru⟩ := h.get e
      rw [e2]
      exact .cons ru (Iss.pick h r)
structure ArgB (K : PySem.W.Frag) (fd : FuncData) (ps : List Str) (n : Nat) (ks : List Str) (dvs : List V) (perm : List Nat) : Prop where
  to : ∃ ds : List Value, Vals dvs ds ∧ ∀ (s : Shared) (us ws : List Value), K.In s.heap → us.length = n → ws.length = ks.length → BindsTo s fd ⟨us, ks.zip ws⟩ (ps.zip (pick perm (us ++ ws ++ ds)))
/-- no default is used -/
theorem ArgB.plain {K : PySem.W.Frag} {x qual : Str} {params : Arguments} {body : List Stmt} {scope : Scope} {f : Addr} {fd : FuncData} {ps ks : List Str} {n : Nat} {perm : List Nat} {dvs : List V} {kws : List (Str × V)} (F : FunD K x qual params body scope dvs kws f fd)
    (h : ∀ (dV kV doc pm : Value) (an : Option Addr) (cdv ct : Value) (us ws : List Value), us.length = n → ws.length = ks.length → bindArgs (PySem.W.fnOf x qual params body scope dV kV doc pm an cdv ct) ⟨us, ks.zip ws⟩ = pure (ps.zip (pick perm (us ++ ws ++ [])))) : ArgB K fd ps n ks [] perm := by
  obtain ⟨oc, od, dV, kV, doc, pm, an, cdv, ct, osl, rfl, lk, hcd, hD, hK⟩ := F.ex
  exact ⟨[], .nil, fun s us ws _ l1 l2 => BindsTo.of_eq (h dV kV doc pm an cdv ct us ws l1 l2)⟩
/-- the def's defaults fill up -/
theorem ArgB.dflt {K : PySem.W.Frag} {x qual : Str} {params : Arguments} {body : List Stmt} {scope : Scope} {f : Addr} {fd : FuncData} {ps ks : List Str} {n : Nat} {perm : List Nat} {dvs : List V} {kws : List (Str × V)} (F : FunD K x qual params body scope dvs kws f fd) (hd : dvs ≠ [])
    (h : ∀ (T : Addr) (kV doc pm : Value) (an : Option Addr) (cdv ct : Value) (us its ws : List Value), us.length = n → its.length = dvs.length → ws.length = ks.length →
      ∃ k, bindArgs (PySem.W.fnOf x qual params body scope (.ref T) kV doc pm an cdv ct) ⟨us, ks.zip ws⟩ = seqItems? (.ref T) >>= k ∧ k (some its.toArray) = pure (ps.zip (pick perm (us ++ ws ++ its)))) : ArgB K fd ps n ks dvs perm := by
  obtain ⟨oc, od, dV, kV, doc, pm, an, cdv, ct, osl, rfl, lk, hcd, hD, hK⟩ := F.ex
  rcases hD with ⟨e, _⟩ | ⟨_, Ta, o, its, m, rfl, lT, oT, rT⟩
  · exact absurd e hd
  · refine ⟨its, rT, fun s us ws X l1 l2 => ?_⟩
    obtain ⟨k, e1, e2⟩ := h Ta kV doc pm an cdv ct us its ws l1 rT.length.symm l2
    refine BindsTo.of_looks fun M => ?_
    rw [e1]
    exact looks_items X lT oT (.of_pure e2)

section
variable {X : Cx} {T : Tab} {W : WX} {k n : Nat} {f C : Addr} {fd : FuncData} {ps ks : List Str} {sp : Sp} {x m : Str} {p pos apos : Pos} {e o : Expr} {es : List Expr} {kws : List Keyword} {dvs : List V} {dds : List D} {perm : List Nat} {sem : List D → Option R} {fs fk : FL} {fo : FE}
theorem run_P {pins : List (Addr × Obj)} {σ : L2.St} {H : Hp} {s : Shared} {Q : VK} {us ws : List Value} {vs zs : List V} (F : FnOk X.prog X.w X.K X.mg X.base (L2.CX X.prog X.w) k f fd ps sp) (hr : Room k X.A) (hb : ArgB X.K fd ps n ks dvs perm) (tk : Takes X W)
    (I : Inv X pins σ H s) (r : Vals vs us) (rz : Vals zs ws) (l1 : vs.length = n) (l2 : zs.length = ks.length) (h : sp (pick perm (vs ++ zs ++ dvs)) H Q (WE W σ)) : wpAny (model X.prog X.w) X.A (call (.ref f) us (ks.zip ws)) (EP X pins σ Q) X.xe s := by
  obtain ⟨ds, rd, to⟩ := hb.to
  have r2 := Vals.pick ((r.append rz).append rd) perm
  refine wpAny_call (codeAny_mono (F.run X.A X.stack s H ⟨us, ks.zip ws⟩ _ _ Q (WE W σ) hr I.env0 (to s us ws I.kIn (r.length.symm.trans l1) (rz.length.symm.trans l2)) r2 h) fun r s' hq => ?_)
  cases r with
  | error e => exact passAt tk σ pins H s e s' I hq
  | ok fl =>
    cases fl with
    | ret u => exact I.after hq
    | next => exact False.elim hq
    | brk => exact False.elim hq
    | cont => exact False.elim hq
/-- a call's reading: the arguments, then the promise -/
def tP (n m : Nat) (perm : List Nat) (sp : Sp) (dvs : List V) (E : L2.St → XK) (t tk : TA) : TE := fun σ H Q => t σ H fun vs H1 => tk σ H1 fun zs H2 => vs.length = n ∧ zs.length = m ∧ sp (pick perm (vs ++ zs ++ dvs)) H2 Q (E σ)
theorem pe_callP {t tkw : TA} (F : FnOk X.prog X.w X.K X.mg X.base (L2.CX X.prog X.w) k f fd ps sp) (hr : Room k X.A) (hm : X.mg x = some (.ref f)) (hk : PySem.W.keepIn X.K (.ref f) = true) (hb : ArgB X.K fd ps n ks dvs perm) (tk : Takes X W)
    (ha : PA X (e :: es) t) (hkw : PK X kws tkw) (hg : Gl X x := by rfl) (hall : (backToKw pos (keywordEach kws X.env)).all (·.1.isSome) = true := by rfl) (hks : (backToKw pos (keywordEach kws X.env)).filterMap (·.1) = ks := by rfl)
    (hdb : (x == ("__debug__" : Str)) = false := by decide) (he : starEach (e :: es) X.env = (false, eval e X.env) :: starEach es X.env := by rfl)
    (hpl : ((backTo pos (starEach (e :: es) X.env)).any (·.1) || (backToKw pos (keywordEach kws X.env)).any (·.1.isNone)) = false := by rfl) :
    PE X (.Call (.Name x p) (e :: es) kws pos) (tP n ks.length perm sp dvs (WE W) t tkw) := by
  refine ⟨fun pins s σ H Q I h => ?_⟩
  refine wpAny_Call_Name_kw (ld_glob I hg hm ?_ hdb)
  refine PySem.W.callWith_KW (h₀ := X.base) I.ok.mod.kin hk hall (thn (ha.run pos pins s σ H _ I h) fun us s1 ⟨vs, H1, I1, r, q⟩ => ?_) hpl he
  refine thn (hkw.run pos pins s1 σ H1 _ I1 q) fun ws s2 ⟨zs, H2, I2, rz, l1, l2, q2⟩ => ⟨I2.kIn, ?_⟩
  rw [hks]
  exact run_P F hr hb tk I2 r rz l1 l2 q2
theorem pe_callP0 {tkw : TA} (F : FnOk X.prog X.w X.K X.mg X.base (L2.CX X.prog X.w) k f fd ps sp) (hr : Room k X.A) (hm : X.mg x = some (.ref f)) (hk : PySem.W.keepIn X.K (.ref f) = true) (hb : ArgB X.K fd ps 0 ks dvs perm) (tk : Takes X W)
    (hkw : PK X kws tkw) (hg : Gl X x := by rfl) (hall : (backToKw pos (keywordEach kws X.env)).all (·.1.isSome) = true := by rfl) (hks : (backToKw pos (keywordEach kws X.env)).filterMap (·.1) = ks := by rfl)
    (hdb : (x == ("__debug__" : Str)) = false := by decide) (hpl : ((backTo pos (starEach [] X.env)).any (·.1) || (backToKw pos (keywordEach kws X.env)).any (·.1.isNone)) = false := by rfl) :
    PE X (.Call (.Name x p) [] kws pos) (tP 0 ks.length perm sp dvs (WE W) tNil tkw) := by
  refine ⟨fun pins s σ H Q I h => ?_⟩
  refine wpAny_Call_Name_kw (ld_glob I hg hm ?_ hdb)
  refine PySem.W.callWith_KW0 (h₀ := X.base) I.ok.mod.kin hk hall (thn (hkw.run pos pins s σ H _ I h) fun ws s2 ⟨zs, H2, I2, rz, l1, l2, q2⟩ => ⟨I2.kIn, ?_⟩) hpl
  rw [hks]
  exact run_P F hr hb tk I2 .nil rz rfl l2 q2
/-- keywords' values -/
def EK (X : Cx) (T : Tab) (W : WX) (kws : List Keyword) (f : FL) : Prop := PK X kws (tA T W f)
theorem PK.weak {kws : List Keyword} {t u : TA} (h : PK X kws t) (w : ∀ σ H Q, u σ H Q → t σ H Q) : PK X kws u := ⟨fun po pins s σ H Q I q => h.run po pins s σ H Q I (w σ H Q q)⟩
theorem ek_nil : EK X T W [] aNil := PK.weak pk_nil fun σ H Q q => by
  obtain ⟨ρ, S, r, sh, rep, e, fin⟩ := q
  cases e
  exact fin [] S H (Kp.refl sh) .nil
theorem ek_cons {nm : Option Str} {kpos : Pos} {fa : FE} {fr : FL} (ha : EE X T W e fa) (hr : EK X T W kws fr) : EK X T W (⟨nm, e, kpos⟩ :: kws) (aCons fa fr) := by
  refine PK.weak (pk_cons ha hr) fun σ H Q q => ?_
  obtain ⟨ρ, S, r, sh, rep, e, fin⟩ := q
  refine tF_goL sh rep e fin fun d v S1 H1 k1 i1 rep1 e1 fin1 => ?_
  refine tA_goL k1.sub rep1 e1 fin1 fun ds vs S2 H2 k2 i2 rep2 e2 fin2 => ?_
  cases e2
  exact fin2 _ S2 H2 (Kp.refl k2.sub) (.cons (i1.mono k2.s) i2)
theorem lend {S H : Hp} {σ : L2.St} {Q : VK} {r : RL} (h : RNEnd T W S H σ Q r) : LEnd T S H Q (WE W σ) r := by
  cases r with
  | ok d => exact h
  | ex x => exact h
/-- a call, by data -/
def vCallP (n m : Nat) (perm : List Nat) (sem : List D → Option R) (dds : List D) (fs fk : FL) : FE := fun ρ => RL1 (fs ρ) fun ds => RL1 (fk ρ) fun es => if ds.length = n ∧ es.length = m then sem (pick perm (ds ++ es ++ dds)) else none
theorem fend {S H : Hp} {σ : L2.St} {Q : VK} {r : R} (h : REnd T W S H σ Q r) : FEnd T S H Q (WE W σ) r := by
  cases r with
  | ok d => exact h
  | ex x => exact h
theorem wP {np : Nat} (hp : perm.length = np) (hdd : ∀ S, Iss T S dvs dds) (σ : L2.St) (H : Hp) (Q : VK) {m : Nat} (hmx : ∀ j ∈ perm, j < n + m + dvs.length) (q : tF T W (vCallP n m perm sem dds fs fk) σ H Q) : tP n m perm (spF T np sem) dvs (WE W) (tA T W fs) (tA T W fk) σ H Q := by
  obtain ⟨ρ, S, r, sh, rep, e, fin⟩ := q
  refine tA_go sh rep e fin fun ds vs S1 H1 k1 i1 rep1 e1 fin1 => ?_
  refine tA_go k1.sub rep1 e1 fin1 fun es zs S2 H2 k2 i2 rep2 e2 fin2 => ?_
  split at e2 <;> try cases e2
  rename_i hl
  have i12 := (((i1.mono k2.s).append i2).append (hdd S2)).pick perm
  refine ⟨i1.length.trans hl.1, i2.length.trans hl.2, S2, _, r, k2.sub, i12, ?_, e2, fend fin2⟩
  have : ∀ (l : List Nat) (xs : List V), (∀ j ∈ l, j < xs.length) → (pick l xs).length = l.length := fun l xs => by
    induction l with
    | nil => intro _; rfl
    | cons j r ih =>
      intro h
      unfold pick
      rw [List.filterMap_cons, List.getElem?_eq_getElem (h j List.mem_cons_self)]
      show (pick r xs).length + 1 = _
      rw [ih fun j hj => h j (List.mem_cons_of_mem _ hj)]
      rfl
  rw [this perm _ fun j hj => ?_, hp]
  rw [List.length_append, List.length_append, i1.length, i2.length, hl.1, hl.2]
  exact hmx j hj
theorem ee_callP {np mk : Nat} (F : FnOk X.prog X.w X.K X.mg X.base (L2.CX X.prog X.w) k f fd ps (spF T np sem)) (hr : Room k X.A) (hm : X.mg x = some (.ref f)) (hk : PySem.W.keepIn X.K (.ref f) = true) (hb : ArgB X.K fd ps n ks dvs perm) (tk : Takes X W)
    (hp : perm.length = np) (hmx : ∀ j ∈ perm, j < n + ks.length + dvs.length) (hdd : ∀ S, Iss T S dvs dds) (ha : EA X T W (e :: es) fs) (hkw : EK X T W kws fk) (hg : Gl X x := by rfl) (hall : (backToKw pos (keywordEach kws X.env)).all (·.1.isSome) = true := by rfl) (hks : (backToKw pos (keywordEach kws X.env)).filterMap (·.1) = ks := by rfl)
    (hdb : (x == ("__debug__" : Str)) = false := by decide) (he : starEach (e :: es) X.env = (false, eval e X.env) :: starEach es X.env := by rfl)
    (hpl : ((backTo pos (starEach (e :: es) X.env)).any (·.1) || (backToKw pos (keywordEach kws X.env)).any (·.1.isNone)) = false := by rfl) (hkl : ks.length = mk := by rfl) :
    EE X T W (.Call (.Name x p) (e :: es) kws pos) (vCallP n mk perm sem dds fs fk) := by
  subst hkl
  exact PE.weak (pe_callP F hr hm hk hb tk ha hkw hg hall hks hdb he hpl) fun σ H Q q => wP hp hdd σ H Q hmx q
theorem ee_callP0 {np mk : Nat} (F : FnOk X.prog X.w X.K X.mg X.base (L2.CX X.prog X.w) k f fd ps (spF T np sem)) (hr : Room k X.A) (hm : X.mg x = some (.ref f)) (hk : PySem.W.keepIn X.K (.ref f) = true) (hb : ArgB X.K fd ps 0 ks dvs perm) (tk : Takes X W)
    (hp : perm.length = np) (hmx : ∀ j ∈ perm, j < 0 + ks.length + dvs.length) (hdd : ∀ S, Iss T S dvs dds) (hkw : EK X T W kws fk) (hg : Gl X x := by rfl) (hall : (backToKw pos (keywordEach kws X.env)).all (·.1.isSome) = true := by rfl) (hks : (backToKw pos (keywordEach kws X.env)).filterMap (·.1) = ks := by rfl)
    (hdb : (x == ("__debug__" : Str)) = false := by decide) (hpl : ((backTo pos (starEach [] X.env)).any (·.1) || (backToKw pos (keywordEach kws X.env)).any (·.1.isNone)) = false := by rfl) (hkl : ks.length = mk := by rfl) :
    EE X T W (.Call (.Name x p) [] kws pos) (vCallP 0 mk perm sem dds aNil fk) := by
  subst hkl
  exact PE.weak (pe_callP0 F hr hm hk hb tk hkw hg hall hks hdb hpl) fun σ H Q q => by
    have z := wP (n := 0) hp hdd σ H Q hmx q
    obtain ⟨ρ, S, r, sh, rep, e, fin⟩ := z
    cases e
    exact fin [] S H (Kp.refl sh) .nil
/-- a call of a def that gives a new list -/
def nCallP (n m : Nat) (perm : List Nat) (sem : List D → Option RL) (dds : List D) (fs fk : FL) : FL := fun ρ => RLL (fs ρ) fun ds => RLL (fk ρ) fun es => if ds.length = n ∧ es.length = m then sem (pick perm (ds ++ es ++ dds)) else none
theorem wPL {np : Nat} {sem : List D → Option RL} (hp : perm.length = np) (hdd : ∀ S, Iss T S dvs dds) (σ : L2.St) (H : Hp) (Q : VK) {m : Nat} (hmx : ∀ j ∈ perm, j < n + m + dvs.length) (q : tN T W (nCallP n m perm sem dds fs fk) σ H Q) : tP n m perm (spL T np sem) dvs (WE W) (tA T W fs) (tA T W fk) σ H Q := by
  obtain ⟨ρ, S, r, sh, rep, e, fin⟩ := q
  refine tA_goN sh rep e fin fun ds vs S1 H1 k1 i1 rep1 e1 fin1 => ?_
  refine tA_goN k1.sub rep1 e1 fin1 fun es zs S2 H2 k2 i2 rep2 e2 fin2 => ?_
  split at e2 <;> try cases e2
  rename_i hl
  have i12 := (((i1.mono k2.s).append i2).append (hdd S2)).pick perm
  refine ⟨i1.length.trans hl.1, i2.length.trans hl.2, S2, _, r, k2.sub, i12, ?_, e2, lend fin2⟩
  have : ∀ (l : List Nat) (xs : List V), (∀ j ∈ l, j < xs.length) → (pick l xs).length = l.length := fun l xs => by
    induction l with
    | nil => intro _; rfl
    | cons j r ih =>
      intro h
      unfold pick
      rw [List.filterMap_cons, List.getElem?_eq_getElem (h j List.mem_cons_self)]
      show (pick r xs).length + 1 = _
      rw [ih fun j hj => h j (List.mem_cons_of_mem _ hj)]
      rfl
  rw [this perm _ fun j hj => ?_, hp]
  rw [List.length_append, List.length_append, i1.length, i2.length, hl.1, hl.2]
  exact hmx j hj
theorem en_callP {np mk : Nat} {sem : List D → Option RL} (F : FnOk X.prog X.w X.K X.mg X.base (L2.CX X.prog X.w) k f fd ps (spL T np sem)) (hr : Room k X.A) (hm : X.mg x = some (.ref f)) (hk : PySem.W.keepIn X.K (.ref f) = true) (hb : ArgB X.K fd ps n ks dvs perm) (tk : Takes X W)
    (hp : perm.length = np) (hmx : ∀ j ∈ perm, j < n + ks.length + dvs.length) (hdd : ∀ S, Iss T S dvs dds) (ha : EA X T W (e :: es) fs) (hkw : EK X T W kws fk) (hg : Gl X x := by rfl) (hall : (backToKw pos (keywordEach kws X.env)).all (·.1.isSome) = true := by rfl) (hks : (backToKw pos (keywordEach kws X.env)).filterMap (·.1) = ks := by rfl)
    (hdb : (x == ("__debug__" : Str)) = false := by decide) (he : starEach (e :: es) X.env = (false, eval e X.env) :: starEach es X.env := by rfl)
    (hpl : ((backTo pos (starEach (e :: es) X.env)).any (·.1) || (backToKw pos (keywordEach kws X.env)).any (·.1.isNone)) = false := by rfl) (hkl : ks.length = mk := by rfl) :
    EN X T W (.Call (.Name x p) (e :: es) kws pos) (nCallP n mk perm sem dds fs fk) := by
  subst hkl
  exact PE.weak (pe_callP F hr hm hk hb tk ha hkw hg hall hks hdb he hpl) fun σ H Q q => wPL hp hdd σ H Q hmx q
/-- return of a new list, of the frame's own list -/
def gRetL (f : FL) : FS := fun ρ => RSL (f ρ) ρ fun ds => some (.rl ds)
def gRetLA (f : FL) : FS := fun ρ => RAL (f (thaw ρ)) ρ fun ds => some (.rl ds)
theorem ss_retL {f : FL} (he : EN X T W e f) : SS X T W (.Return (some e) pos) (gRetL f) := PS.weak (ps_ret he) fun Dn σ H q => by
  obtain ⟨ρ, S, L, o, r, e, fin⟩ := q
  refine sBN r e fin fun ds a vs S' H' kp h1 h2 h3 hi r' e' fin' => ?_
  cases e'
  exact fin a vs S' H' L kp.sub kp.stp (.inl h1) h2 h3 hi
theorem ss_retLA {f : FL} (he : EN X T W e f) : SS X T W (.Return (some e) pos) (gRetLA f) := PS.weak (ps_ret he) fun Dn σ H q => by
  obtain ⟨ρ, S, L, o, r, e, fin⟩ := q
  refine sAN r e fin fun ds a vs S' H' kp h1 h2 h3 hi r' e' fin' => ?_
  cases e'
  exact fin a vs S' H' L kp.sub kp.stp (.inl h1) h2 h3 hi
def gRetO (i : Nat) : FS := fun ρ => match ρ[i]? with
  | some (.own ds) => some (.rl ds)
  | _ => none
theorem ss_retO (i : Nat) {y : Str} (hN : X.N[i]? = some y := by rfl) (hv : Vis X.env.scope y := by first | exact Or.inl rfl | exact Or.inr (Or.inl rfl) | exact Or.inr (Or.inr rfl)) (hd : (y == ("__debug__" : Str)) = false := by decide) (hcd : (y == ("__classdict__" : Str)) = false := by decide) :
    SS X T W (.Return (some (.Name y p)) pos) (gRetO i) := PS.weak (ps_ret (pe_var hN hv hd hcd)) fun Dn σ H q => by
  obtain ⟨ρ, S, L, o, r, e, fin⟩ := q
  unfold gRetO at e
  split at e <;> cases e
  rename_i ds hd
  obtain ⟨a, vs, h1, h2, h3, h4, h5⟩ := r.own i ds hd
  exact ⟨_, h2, fin a vs S H L r.sub Stp.refl (.inr ⟨i, h1⟩) h4 h3 h5⟩
end
end EV
end

section
set_option maxHeartbeats 4000000
/-! EV9: instances of own classes: fields, making, methods; isinstance; constants of the module. -/
namespace EV
open PySem L2

section
variable {X : Cx} {T : Tab} {W : WX} {st : Stmt} {e a b c : Expr} {es : List Expr} {f fa fb : FE} {pos p1 p2 : Pos} {S H : Hp} {σ : L2.St} {ρ : Env} {L : Nat → Option Addr} {i k ci : Nat} {x fl : Str}

/-! ### names of the module -/
theorem ee_glob {v : V} {d : D} {u : Value} (hm : X.mg x = some u) (r : RelV v u) (hi : ∀ H, Is T H v d) (hg : Gl X x := by rfl) (hd : (x == ("__debug__" : Str)) = false := by decide) : EE X T W (.Name x pos) (vC d) := ee_const (pe_glob hg hm r hd) hi

/-! ### fields -/
theorem lookup_zip {ns : List Str} {vs : List V} {k : Nat} {f : Str} {v : V} (hn : ns[k]? = some f) (hf : f ∉ ns.take k) (hv : vs[k]? = some v) : (ns.zip vs).lookup f = some v := by
  induction ns generalizing k vs with
  | nil => simp at hn
  | cons n ns ih =>
    cases vs with
    | nil => simp at hv
    | cons w vs =>
      cases k with
      | zero =>
        simp at hn hv
        subst hn hv
        simp [List.lookup]
      | succ k =>
        simp only [List.getElem?_cons_succ] at hn hv
        simp only [List.take_succ_cons, List.mem_cons, not_or] at hf
        have hne : (f == n) = false := by
          cases q : (f == n) with
          | false => rfl
          | true => exact absurd (eq_of_beq q) hf.1
        simp only [List.zip_cons_cons, List.lookup, hne]
        exact ih hn hf.2 hv
theorem lookup_zip_none {ns : List Str} {vs : List V} {f : Str} (h : f ∉ ns) : (ns.zip vs).lookup f = none := by
  induction ns generalizing vs with
  | nil => simp
  | cons n ns ih =>
    cases vs with
    | nil => simp
    | cons w vs =>
      simp only [List.mem_cons, not_or] at h
      have hne : (f == n) = false := by
        cases q : (f == n) with
        | false => rfl
        | true => exact absurd (eq_of_beq q) h.1
      simp only [List.zip_cons_cons, List.lookup, hne]
      exact ih h.2
theorem putF_new {f : Str} {v : V} : ∀ {l : List (Str × V)}, f ∉ l.map (·.1) → putF f v l = l ++ [(f, v)]
  | [], _ => rfl
  | (g, w) :: l, h => by
    simp only [List.map_cons, List.mem_cons, not_or] at h
    unfold putF
    rw [if_neg (fun z => h.1 z.symm), putF_new h.2]
    rfl
theorem putF_zip {ns : List Str} {vs : List V} {f : Str} {v : V} (hn : ns[vs.length]? = some f) (hf : f ∉ ns.take vs.length) : putF f v (ns.zip vs) = ns.zip (vs ++ [v]) := by
  have h1 : (ns.zip vs).map (·.1) = ns.take vs.length := by
    have := List.map_fst_zip (l₁ := ns.take vs.length) (l₂ := vs) (by rw [List.length_take]; omega)
    rw [← this]
    congr 1
    rw [List.zip_eq_zip_take_min]
    have hl : vs.length ≤ ns.length := by
      have := (List.getElem?_eq_some_iff.mp hn).1
      omega
    rw [Nat.min_eq_right hl, List.take_length]
  rw [putF_new (by rw [h1]; exact hf)]
  clear h1 hf
  induction ns generalizing vs with
  | nil => simp at hn
  | cons n ns ih =>
    cases vs with
    | nil =>
      simp at hn
      subst hn
      simp
    | cons w vs =>
      simp only [List.length_cons, List.getElem?_cons_succ] at hn
      simp only [List.zip_cons_cons, List.cons_append, ih hn]
/-- what the text has of the class number ci and its field k -/
structure Fld (T : Tab) (ci k : Nat) (f : Str) : Prop where
  cls : Cls T.K (T.cls ci)
  no : NoAttr T.K (T.cls ci) f
  at_ : (T.flds ci)[k]? = some f
  nd : f ∉ (T.flds ci).take k
  few : (T.flds ci).length ≤ 900
def fldD (ci k : Nat) : D → Option D
  | .obj c ds => if c = ci then ds[k]? else none
  | _ => none
theorem ee_fld {ci k : Nat} (F : Fld T ci k fl) (hK : X.K = T.K := by rfl) (hb : attributeBase a fl X.env (eval a X.env) = eval a X.env := by rfl) (ha : EE X T W a fa) : EE X T W (.Attribute a fl pos) (v1 (fldD ci k) fa) := by
  refine PE.weak (pe_fld ha hb) fun σ H Q q => ?_
  obtain ⟨ρ, S, z, sh, rep, e, fin⟩ := q
  refine tF_go sh rep e fin fun p x S1 H1 k1 i1 rep1 e1 fin1 => ?_
  obtain ⟨d, e3, rfl⟩ := okO_inv e1
  unfold fldD at e3
  split at e3 <;> try cases e3
  split at e3 <;> try cases e3
  rename_i hc
  subst hc
  cases i1 with
  | obj h hl hs =>
    obtain ⟨v, h1, h2⟩ := hs.get' e3
    rw [hK]
    exact ⟨_, _, _, _, v, rfl, k1.sub.same _ _ h, F.cls, F.no, lookup_zip F.at_ F.nd h1, fin1 v S1 H1 (Kp.refl k1.sub) h2⟩
/-- self.f = e, the instance under way -/
def fldK (i ci k : Nat) (ρ : EV.Env) (d : D) : Option Out := match ρ[i]? with
  | some (.ins c ds) => if c = ci ∧ ds.length = k then some (.nx (ρ.set i (.ins c (ds ++ [d])))) else none
  | _ => none
def gFld (i ci k : Nat) (f : FE) : FS := fun ρ => RS (f ρ) ρ (fldK i ci k ρ)
def gFldA (i ci k : Nat) (f : FE) : FS := fun ρ => RA (f (thaw ρ)) ρ (fldK i ci k ρ)
theorem fld_end {Dn : Ends} {o : Out} {d : D} {v : V} {ci k : Nat} (F : Fld T ci k fl) (hK : X.K = T.K) (r : Rep T ρ σ S H L) (hi : Is T S v d) (e : fldK i ci k ρ d = some o) (fin : SEnd T W Dn S H L o) :
    tVar i σ H fun x H2 => ∃ a C dx fs, x = .ref a ∧ H2 a = some (.ins C dx fs) ∧ Cls X.K C ∧ NoAttr X.K C fl ∧ fs.length < 1000 ∧ Dn.nx σ (L2.upd H2 a (.ins C dx (putF fl v fs))) := by
  unfold fldK at e
  split at e <;> try cases e
  rename_i c ds hd
  split at e <;> cases e
  rename_i hc
  obtain ⟨rfl, hl⟩ := hc
  obtain ⟨a, dx, vs, h1, h2, h3, h4, h5, h6⟩ := r.ins i c ds hd
  have hlv : vs.length = k := by rw [h6.length]; exact hl
  have hk := (List.getElem?_eq_some_iff.mp F.at_).1
  refine ⟨_, h2, a, _, dx, _, rfl, h3, by rw [hK]; exact F.cls, by rw [hK]; exact F.no, ?_, ?_⟩
  · have := List.length_zip (l₁ := T.flds c) (l₂ := vs)
    have := F.few
    omega
  · rw [putF_zip (by rw [hlv]; exact F.at_) (by rw [hlv]; exact F.nd)]
    exact fin σ S _ L (r.updI hd h1 (by rw [List.length_append, List.length_singleton, hlv]; exact hk) (h6.append (.cons hi .nil))) (Stp.updI h1 h3)
theorem ss_fld (i : Nat) {ci k : Nat} (F : Fld T ci k fl) (hK : X.K = T.K := by rfl) (hN : X.N[i]? = some x := by rfl) (hv : Vis X.env.scope x := by first | exact Or.inl rfl | exact Or.inr (Or.inl rfl) | exact Or.inr (Or.inr rfl)) (hd : (x == ("__debug__" : Str)) = false := by decide) (hcd : (x == ("__classdict__" : Str)) = false := by decide)
    (hs : swapsWith e (some (.Attribute (.Name x p1) fl p2)) pos.line X.env = pure false := by rfl) (he : EE X T W e f) : SS X T W (.Assign [.Attribute (.Name x p1) fl p2] e pos) (gFld i ci k f) := by
  refine PS.weak (ps_fld (pe_var hN hv hd hcd) he hs) fun Dn σ H q => ?_
  obtain ⟨ρ, S, L, o, r, e, fin⟩ := q
  exact sB r e fin fun d v S' H' kp hi r' e' fin' => fld_end F hK r' hi e' fin'
theorem ss_fldA (i : Nat) {ci k : Nat} (F : Fld T ci k fl) (hK : X.K = T.K := by rfl) (hN : X.N[i]? = some x := by rfl) (hv : Vis X.env.scope x := by first | exact Or.inl rfl | exact Or.inr (Or.inl rfl) | exact Or.inr (Or.inr rfl)) (hd : (x == ("__debug__" : Str)) = false := by decide) (hcd : (x == ("__classdict__" : Str)) = false := by decide)
    (hs : swapsWith e (some (.Attribute (.Name x p1) fl p2)) pos.line X.env = pure false := by rfl) (he : EE X T W e f) : SS X T W (.Assign [.Attribute (.Name x p1) fl p2] e pos) (gFldA i ci k f) := by
  refine PS.weak (ps_fld (pe_var hN hv hd hcd) he hs) fun Dn σ H q => ?_
  obtain ⟨ρ, S, L, o, r, e, fin⟩ := q
  exact sA r e fin fun d v S' H' kp hi r' e' fin' => fld_end F hK r' hi e' fin'
end

/-! ### __init__ -/
def semI (ci n : Nat) (g : FS) (ds : List D) : Option R := match g (Sl.ins ci [] :: (ds.map Sl.v ++ List.replicate (n - 1 - ds.length) Sl.no)) with
  | some (.nx ρ) => (match ρ[(0 : Nat)]? with
    | some (.ins c fs) => if c = ci then some (.ok (.obj ci fs)) else none
    | _ => none)
  | some (.rs x _) => some (.ex x)
  | _ => none
def IEnd (T : Tab) (ci : Nat) (x dx : Addr) (S H : Hp) (Q : VK) (E : XK) : R → Prop
  | .ok (.obj c fs) => c = ci ∧ ∀ vs S' H', Same S S' → (∀ a o, a ≠ x → H a = some o → H' a = some o) → EV.Sub S' H' → (∀ a, H a ≠ none → S a = none → S' a = none) → H' x = some (.ins (T.cls ci) dx ((T.flds ci).zip vs)) → vs.length ≤ (T.flds ci).length → Iss T S' vs fs → Q .non H'
  | .ok _ => False
  | .ex xn => ∀ S' H' cls d, Same S S' → (∀ a o, a ≠ x → H a = some o → H' a = some o) → EV.Sub S' H' → (∀ a, H a ≠ none → S a = none → a ≠ x → S' a = none) → XIs T S' xn cls d → E cls d H'
def spI (T : Tab) (ci n : Nat) (sem : List D → Option R) : Sp := fun vs H Q E => ∃ S x dx as ds r, vs = .ref x :: as ∧ as.length + 1 = n ∧ EV.Sub S H ∧ H x = some (.ins (T.cls ci) dx []) ∧ S x = none ∧ Iss T S as ds ∧ sem ds = some r ∧ IEnd T ci x dx S H Q E r
section
variable {P : Program} {w : World} {K : PySem.W.Frag} {mg : Str → Option Value} {base : Heap} {x qual : Str} {params : Arguments} {body : List Stmt} {scope : Scope} {dvs : List V} {kws : List (Str × V)} {f : Addr} {fd : FuncData} {N ps : List Str} {k ci : Nat} {T : Tab} {g : FS}
def on0 (a : Addr) : Nat → Option Addr := fun j => if j = 0 then some a else none
theorem rep_startI {S H : Hp} {vs : List V} {ds : List D} {N : List Str} {a dx : Addr} (hN : 0 < N.length) (sh : EV.Sub S H) (ha : H a = some (.ins (T.cls ci) dx [])) (hs : S a = none) (h : Iss T S vs ds) :
    Rep T (Sl.ins ci [] :: (ds.map Sl.v ++ List.replicate (N.length - 1 - ds.length) Sl.no)) (L2.start N (.ref a :: vs)) S H (on0 a) := by
  have hst : L2.start N (.ref a :: vs) = some (.ref a) :: (vs.map some ++ List.replicate (N.length - 1 - ds.length) none) := by
    unfold L2.start
    rw [List.map_cons, List.length_cons, ← h.length]
    show some (V.ref a) :: (vs.map some ++ _) = _
    congr 3
    omega
  rw [hst]
  have nov : ∀ (i : Nat) (s : Sl), (ds.map Sl.v ++ List.replicate (N.length - 1 - ds.length) Sl.no)[i]? = some s → (∃ d, ds[i]? = some d ∧ s = .v d) ∨ s = .no := fun i s e => by
    by_cases hi : i < ds.length
    · rw [List.getElem?_append_left (by simpa using hi), List.getElem?_map] at e
      obtain ⟨d, e1, e2⟩ := Option.map_eq_some_iff.mp e
      exact .inl ⟨d, e1, e2.symm⟩
    · rw [List.getElem?_append_right (by simpa using hi)] at e
      exact .inr ((List.mem_replicate.mp (List.mem_of_getElem? e)).2)
  refine ⟨sh, by simp [h.length], fun i d e => ?_, fun i ds' e => ?_, fun i c ds' e => ?_, fun i j b h1 h2 => ?_, fun i b h1 => ?_⟩
  · cases i with
    | zero => cases e
    | succ i =>
      rw [List.getElem?_cons_succ] at e
      rcases nov i _ e with ⟨d', e1, e2⟩ | e2
      · cases e2
        obtain ⟨v, h1, h2⟩ := h.get' e1
        refine ⟨v, ?_, h2⟩
        have hi := (List.getElem?_eq_some_iff.mp h1).1
        rw [List.getElem?_cons_succ, List.getElem?_append_left (by simpa using hi), List.getElem?_map, h1]
        rfl
      · cases e2
  · cases i with
    | zero => cases e
    | succ i =>
      rw [List.getElem?_cons_succ] at e
      rcases nov i _ e with ⟨d', e1, e2⟩ | e2 <;> cases e2
  · cases i with
    | zero =>
      cases e
      exact ⟨a, dx, [], rfl, rfl, by rw [ha]; simp, hs, Nat.zero_le _, .nil⟩
    | succ i =>
      rw [List.getElem?_cons_succ] at e
      rcases nov i _ e with ⟨d', e1, e2⟩ | e2 <;> cases e2
  · unfold on0 at h1 h2
    split at h1 <;> cases h1
    split at h2 <;> cases h2
    omega
  · unfold on0 at h1
    split at h1 <;> cases h1
    rename_i hi
    subst hi
    exact .inr ⟨ci, [], rfl⟩
theorem on0_stp {S H S' H' : Hp} {L' : Nat → Option Addr} {a : Addr} (st : Stp S H (on0 a) S' H' L') : Same S S' ∧ (∀ b o, b ≠ a → H b = some o → H' b = some o) ∧ ∀ b, H b ≠ none → S b = none → b ≠ a → S' b = none := by
  have na : ∀ b, b ≠ a → ∀ i, on0 a i ≠ some b := fun b hb i z => by
    unfold on0 at z
    split at z <;> cases z
    exact hb rfl
  exact ⟨st.s, fun b o hb h => st.fr b o h (na b hb), fun b h1 h2 hb => st.hid b h1 h2 (na b hb)⟩
theorem fn_evI (ci : Nat) (F : FunD K x qual params body scope dvs kws f fd) (Sc : FnScope N ps scope) (hN : 0 < N.length)
    (hb : ∀ (cdv : Value) (A : Around) (outer : List PySem.Env) (s : Shared) (H : Hp) (E : XK), Room k (A.deeper (PyProof.Rows.envOfC qual scope s.heap.objs.size f cdv)) →
      SSs (cxOf (L2.CX P w) P w K mg base N qual scope f cdv A outer s H E) T (fun cls d _ H' => E cls d H') body g) : FnOk P w K mg base (L2.CX P w) (k + 1) f fd ps (spI T ci ps.length (semI ci N.length g)) := by
  refine F.ok Sc (fun vs H Q E h => ?_) fun cdv A outer s H vs Q E hr h => ⟨_, hb cdv A outer s H E hr, ?_⟩
  · obtain ⟨S, x, dx, as, ds, r, rfl, hl, _⟩ := h
    exact hl
  · obtain ⟨S, a, dx, as, ds, r, rfl, hl, sh, ha, hs, hi, e, fin⟩ := h
    have rep := rep_startI (ci := ci) hN sh ha hs hi
    unfold semI at e
    split at e <;> try cases e
    · rename_i ρ hd
      split at e <;> try cases e
      rename_i c fs h0
      split at e <;> cases e
      rename_i hc
      subst hc
      refine ⟨_, S, _, _, rep, hd, fun σ' S' H' L' r st => ?_⟩
      obtain ⟨b, dx', vs', q1, q2, q3, q4, q5, q6⟩ := r.ins 0 c fs h0
      obtain ⟨s1, s2, s3⟩ := on0_stp st
      have eb : b = a ∧ dx' = dx := by
        have e1 : b = a := by
          rcases st.own 0 b q1 with ⟨j, z⟩ | ⟨_, xs, z⟩
          · unfold on0 at z
            split at z <;> cases z
            rfl
          · rw [q3] at z; cases z
        subst e1
        obtain ⟨fs', z⟩ := st.ik b _ _ _ ha
        rw [q3] at z
        cases z
        exact ⟨rfl, rfl⟩
      obtain ⟨rfl, rfl⟩ := eb
      refine fin.2 vs' S' H' s1 s2 r.sub (fun z h1 h2 => ?_) q3 q5 q6
      by_cases hz : z = b
      · rw [hz]; exact q4
      · exact s3 z h1 h2 hz
    · rename_i xn ρ hd
      refine ⟨_, S, _, _, rep, hd, fun σ' S' H' L' cls d r st i => ?_⟩
      obtain ⟨s1, s2, s3⟩ := on0_stp st
      exact fin S' H' cls d s1 s2 r.sub s3 i
end
end EV
end

section
set_option maxHeartbeats 4000000
/-! EV10: making instances, methods, isinstance of built-in types. -/
namespace EV
open PySem L2
section
variable {X : Cx} {T : Tab} {W : WX} {k n ci : Nat} {f C : Addr} {fd : FuncData} {ps ks : List Str} {sp : Sp} {x m : Str} {p pos apos : Pos} {e o a : Expr} {es : List Expr} {kws : List Keyword} {dvs : List V} {dds : List D} {perm : List Nat} {sem : List D → Option R} {fs fk : FL} {fo fa : FE}
theorem pick_succ {α : Type} {y : α} {l : List α} : ∀ perm : List Nat, pick (perm.map (· + 1)) (y :: l) = pick perm l
  | [] => rfl
  | j :: r => by
    have ih := pick_succ (y := y) (l := l) r
    unfold pick at ih ⊢
    simp only [List.map_cons, List.filterMap_cons, List.getElem?_cons_succ]
    split <;> simp [ih]
theorem pick_zero {α : Type} {y : α} {l : List α} {perm : List Nat} : pick (0 :: perm.map (· + 1)) (y :: l) = y :: pick perm l := by
  have ih := pick_succ (y := y) (l := l) perm
  unfold pick at ih ⊢
  simp only [List.filterMap_cons, List.getElem?_cons_zero, ih]
theorem run_M {pins : List (Addr × Obj)} {σ : L2.St} {H : Hp} {s : Shared} {Q : VK} {us ws : List Value} {vs zs : List V} (M : Mk X.K C f) (F : FnOk X.prog X.w X.K X.mg X.base (L2.CX X.prog X.w) k f fd ps sp) (hr : Room (k + 1) X.A) (hb : ArgB X.K fd ps (n + 1) ks dvs (0 :: perm.map (· + 1))) (tk : Takes X W)
    (I : Inv X pins σ H s) (r : Vals vs us) (rz : Vals zs ws) (l1 : vs.length = n) (l2 : zs.length = ks.length)
    (h : ∀ x dx, H x = none → H dx = none → dx ≠ x → sp (.ref x :: pick perm (vs ++ zs ++ dvs)) (L2.upd (L2.upd H dx (.own x)) x (.ins C dx [])) (fun v H2 => v = .non ∧ Q (.ref x) H2) (WE W σ)) :
    wpAny (model X.prog X.w) X.A (call (.ref C) us (ks.zip ws)) (EP X pins σ Q) X.xe s := by
  have hq := h (s.heap.objs.size + 1) s.heap.objs.size (I.hok.fresh (Nat.le_succ _)) (I.hok.fresh (Nat.le_refl _)) (Nat.ne_of_lt (Nat.lt_succ_self _))
  have I2 := Inv.made (C := C) I
  obtain ⟨ds, rd, to⟩ := hb.to
  have r1 : Vals (V.ref (s.heap.objs.size + 1) :: vs) (Value.ref (s.heap.objs.size + 1) :: us) := .cons rfl r
  have r2 := Vals.pick ((r1.append rz).append rd) (0 :: perm.map (· + 1))
  have ev : pick (0 :: perm.map (· + 1)) (V.ref (s.heap.objs.size + 1) :: vs ++ zs ++ dvs) = V.ref (s.heap.objs.size + 1) :: pick perm (vs ++ zs ++ dvs) := pick_zero
  rw [ev] at r2
  have e1 : (Value.ref (s.heap.objs.size + 1) :: us).length = n + 1 := r1.length.symm.trans (congrArg Nat.succ l1)
  have e2 : ws.length = ks.length := rz.length.symm.trans l2
  refine wpAny_call (make_map (f := f) I.kIn M.makes M.init (beq_iff_eq.mp M.fn) (codeAny_mono (F.run _ X.stack _ _ ⟨Value.ref (s.heap.objs.size + 1) :: us, ks.zip ws⟩ _ _ _ (WE W σ) (hr.make C us (ks.zip ws))
    (I2.env0.make C us (ks.zip ws)) (to _ (Value.ref (s.heap.objs.size + 1) :: us) ws I2.kIn e1 e2) r2 hq) fun r s' hq' => ?_))
  cases r with
  | error e => exact passAt tk σ pins _ _ e s' I2 hq'
  | ok fl =>
    cases fl with
    | ret u =>
      obtain ⟨v, H', I3, rv, ev, q3⟩ := I2.after hq'
      subst ev
      exact ⟨rv, ⟨V.ref (s.heap.objs.size + 1), H', I3, rfl, q3⟩⟩
    | next => exact False.elim hq'
    | brk => exact False.elim hq'
    | cont => exact False.elim hq'
def tM (C : Addr) (n m : Nat) (perm : List Nat) (sp : Sp) (dvs : List V) (E : L2.St → XK) (t tk : TA) : TE := fun σ H Q => t σ H fun vs H1 => tk σ H1 fun zs H2 => vs.length = n ∧ zs.length = m ∧
  ∀ x dx, H2 x = none → H2 dx = none → dx ≠ x → sp (.ref x :: pick perm (vs ++ zs ++ dvs)) (L2.upd (L2.upd H2 dx (.own x)) x (.ins C dx [])) (fun v H3 => v = .non ∧ Q (.ref x) H3) (E σ)
theorem pe_makeP {t tkw : TA} (M : Mk X.K C f) (F : FnOk X.prog X.w X.K X.mg X.base (L2.CX X.prog X.w) k f fd ps sp) (hr : Room (k + 1) X.A) (hm : X.mg x = some (.ref C)) (hb : ArgB X.K fd ps (n + 1) ks dvs (0 :: perm.map (· + 1))) (tk : Takes X W)
    (ha : PA X (e :: es) t) (hkw : PK X kws tkw) (hg : Gl X x) (hall : (backToKw pos (keywordEach kws X.env)).all (·.1.isSome) = true) (hks : (backToKw pos (keywordEach kws X.env)).filterMap (·.1) = ks)
    (hdb : (x == ("__debug__" : Str)) = false) (he : starEach (e :: es) X.env = (false, eval e X.env) :: starEach es X.env)
    (hpl : ((backTo pos (starEach (e :: es) X.env)).any (·.1) || (backToKw pos (keywordEach kws X.env)).any (·.1.isNone)) = false) :
    PE X (.Call (.Name x p) (e :: es) kws pos) (tM C n ks.length perm sp dvs (WE W) t tkw) := by
  refine ⟨fun pins s σ H Q I h => ?_⟩
  refine wpAny_Call_Name_kw (ld_glob I hg hm ?_ hdb)
  refine PySem.W.callWith_KW (h₀ := X.base) I.ok.mod.kin M.kp hall (thn (ha.run pos pins s σ H _ I h) fun us s1 ⟨vs, H1, I1, r, q⟩ => ?_) hpl he
  refine thn (hkw.run pos pins s1 σ H1 _ I1 q) fun ws s2 ⟨zs, H2, I2, rz, l1, l2, q2⟩ => ⟨I2.kIn, ?_⟩
  rw [hks]
  exact run_M M F hr hb tk I2 r rz l1 l2 q2
theorem pe_makeP0 {tkw : TA} (M : Mk X.K C f) (F : FnOk X.prog X.w X.K X.mg X.base (L2.CX X.prog X.w) k f fd ps sp) (hr : Room (k + 1) X.A) (hm : X.mg x = some (.ref C)) (hb : ArgB X.K fd ps 1 ks dvs (0 :: perm.map (· + 1))) (tk : Takes X W)
    (hkw : PK X kws tkw) (hg : Gl X x) (hall : (backToKw pos (keywordEach kws X.env)).all (·.1.isSome) = true) (hks : (backToKw pos (keywordEach kws X.env)).filterMap (·.1) = ks)
    (hdb : (x == ("__debug__" : Str)) = false) (hpl : ((backTo pos (starEach [] X.env)).any (·.1) || (backToKw pos (keywordEach kws X.env)).any (·.1.isNone)) = false) :
    PE X (.Call (.Name x p) [] kws pos) (tM C 0 ks.length perm sp dvs (WE W) tNil tkw) := by
  refine ⟨fun pins s σ H Q I h => ?_⟩
  refine wpAny_Call_Name_kw (ld_glob I hg hm ?_ hdb)
  refine PySem.W.callWith_KW0 (h₀ := X.base) I.ok.mod.kin M.kp hall (thn (hkw.run pos pins s σ H _ I h) fun ws s2 ⟨zs, H2, I2, rz, l1, l2, q2⟩ => ⟨I2.kIn, ?_⟩) hpl
  rw [hks]
  exact run_M (n := 0) M F hr hb tk I2 .nil rz rfl l2 q2
theorem Kp.made {S H S' H' : Hp} {x dx : Addr} {o : HO} (sh : EV.Sub S H) (hx : H x = none) (hd : H dx = none) (s1 : Same S S') (s2 : ∀ a u, a ≠ x → L2.upd (L2.upd H dx (.own x)) x o a = some u → H' a = some u) (s3 : EV.Sub S' H')
    (s4 : ∀ a, L2.upd (L2.upd H dx (.own x)) x o a ≠ none → S a = none → a ≠ x → S' a = none) : Kp S H S' H' := by
  have up : ∀ a u, H a = some u → L2.upd (L2.upd H dx (.own x)) x o a = some u := fun a u h => by
    rw [upd_ne (ne_of_none h hx), upd_ne (ne_of_none h hd)]
    exact h
  refine ⟨s1, fun a u h => s2 a u (ne_of_none h hx) (up a u h), s3, fun a h1 h2 => ?_⟩
  cases q : H a with
  | none => exact absurd q h1
  | some u => exact s4 a (by rw [up a u q]; intro z; cases z) h2 (ne_of_none q hx)
theorem pick_len {l : List Nat} {xs : List V} (h : ∀ j ∈ l, j < xs.length) : (pick l xs).length = l.length := by
  induction l with
  | nil => rfl
  | cons j r ih =>
    unfold pick
    rw [List.filterMap_cons, List.getElem?_eq_getElem (h j List.mem_cons_self)]
    show (pick r xs).length + 1 = _
    rw [ih fun j hj => h j (List.mem_cons_of_mem _ hj)]
    rfl
theorem wM {np : Nat} (hs : ∀ ds d, sem ds = some (.ok d) → ∃ fs, d = .obj ci fs) (hp : perm.length + 1 = np) (hdd : ∀ S, Iss T S dvs dds) (σ : L2.St) (H : Hp) (Q : VK) {m : Nat} (hmx : ∀ j ∈ perm, j < n + m + dvs.length)
    (q : tF T W (vCallP n m perm sem dds fs fk) σ H Q) : tM (T.cls ci) n m perm (spI T ci np sem) dvs (WE W) (tA T W fs) (tA T W fk) σ H Q := by
  obtain ⟨ρ, S, r, sh, rep, e, fin⟩ := q
  refine tA_go sh rep e fin fun ds vs S1 H1 k1 i1 rep1 e1 fin1 => ?_
  refine tA_go k1.sub rep1 e1 fin1 fun es zs S2 H2 k2 i2 rep2 e2 fin2 => ?_
  split at e2 <;> try cases e2
  rename_i hl
  have i12 := (((i1.mono k2.s).append i2).append (hdd S2)).pick perm
  refine ⟨i1.length.trans hl.1, i2.length.trans hl.2, fun x dx hx hd hne => ?_⟩
  have sx : S2 x = none := k2.sub.same.free hx
  have sd : S2 dx = none := k2.sub.same.free hd
  have sub3 : EV.Sub S2 (L2.upd (L2.upd H2 dx (.own x)) x (.ins (T.cls ci) dx [])) := by
    refine ⟨fun a u h => ?_, fun a u h f => ?_⟩
    · rw [upd_ne (ne_of_none h sx), upd_ne (ne_of_none h sd)]
      exact k2.sub.same a u h
    · by_cases ha : a = x
      · subst ha; rw [upd_same] at h; cases h; cases f
      · rw [upd_ne ha] at h
        by_cases hb : a = dx
        · subst hb; rw [upd_same] at h; cases h; cases f
        · rw [upd_ne hb] at h; exact k2.sub.fix a u h f
  refine ⟨S2, x, dx, _, _, r, rfl, ?_, sub3, upd_same, sx, i12, e2, ?_⟩
  · rw [pick_len fun j hj => ?_, hp]
    rw [List.length_append, List.length_append, i1.length, i2.length, hl.1, hl.2]
    exact hmx j hj
  · cases r with
    | ok d =>
      obtain ⟨gs, rfl⟩ := hs _ _ e2
      refine ⟨rfl, fun vs' S' H' s1 s2 s3 s4 hx' hlen hi => ⟨rfl, ?_⟩⟩
      have hSx : S' x = none := s4 x (by rw [upd_same]; intro z; cases z) sx
      have kp := Kp.made k2.sub hx hd s1 s2 s3 fun a h1 h2 _ => s4 a h1 h2
      exact fin2 (.ref x) _ H' (kp.open hx hx' hSx) (.obj upd_same hlen (hi.mono (Same.opened hSx)))
    | ex xn =>
      intro S' H' cls d s1 s2 s3 s4 i
      exact fin2 S' H' cls d (Kp.made k2.sub hx hd s1 s2 s3 s4) i
theorem semI_obj {N : Nat} {g : FS} (ds : List D) (d : D) (h : semI ci N g ds = some (.ok d)) : ∃ fs, d = .obj ci fs := by
  unfold semI at h
  split at h <;> try cases h
  split at h <;> try cases h
  split at h <;> cases h
  exact ⟨_, rfl⟩
theorem ee_makeP {np mk : Nat} (hs : ∀ ds d, sem ds = some (.ok d) → ∃ fs, d = .obj ci fs) (M : Mk X.K (T.cls ci) f) (F : FnOk X.prog X.w X.K X.mg X.base (L2.CX X.prog X.w) k f fd ps (spI T ci np sem)) (hr : Room (k + 1) X.A) (hm : X.mg x = some (.ref (T.cls ci)))
    (hb : ArgB X.K fd ps (n + 1) ks dvs (0 :: perm.map (· + 1))) (tk : Takes X W) (hp : perm.length + 1 = np) (hmx : ∀ j ∈ perm, j < n + ks.length + dvs.length) (hdd : ∀ S, Iss T S dvs dds) (ha : EA X T W (e :: es) fs) (hkw : EK X T W kws fk)
    (hg : Gl X x := by rfl) (hall : (backToKw pos (keywordEach kws X.env)).all (·.1.isSome) = true := by rfl) (hks : (backToKw pos (keywordEach kws X.env)).filterMap (·.1) = ks := by rfl)
    (hdb : (x == ("__debug__" : Str)) = false := by decide) (he : starEach (e :: es) X.env = (false, eval e X.env) :: starEach es X.env := by rfl)
    (hpl : ((backTo pos (starEach (e :: es) X.env)).any (·.1) || (backToKw pos (keywordEach kws X.env)).any (·.1.isNone)) = false := by rfl) (hkl : ks.length = mk := by rfl) :
    EE X T W (.Call (.Name x p) (e :: es) kws pos) (vCallP n mk perm sem dds fs fk) := by
  subst hkl
  exact PE.weak (pe_makeP M F hr hm hb tk ha hkw hg hall hks hdb he hpl) fun σ H Q q => wM hs hp hdd σ H Q hmx q
theorem ee_makeP0 {np mk : Nat} (hs : ∀ ds d, sem ds = some (.ok d) → ∃ fs, d = .obj ci fs) (M : Mk X.K (T.cls ci) f) (F : FnOk X.prog X.w X.K X.mg X.base (L2.CX X.prog X.w) k f fd ps (spI T ci np sem)) (hr : Room (k + 1) X.A) (hm : X.mg x = some (.ref (T.cls ci)))
    (hb : ArgB X.K fd ps 1 ks dvs (0 :: perm.map (· + 1))) (tk : Takes X W) (hp : perm.length + 1 = np) (hmx : ∀ j ∈ perm, j < 0 + ks.length + dvs.length) (hdd : ∀ S, Iss T S dvs dds) (hkw : EK X T W kws fk)
    (hg : Gl X x := by rfl) (hall : (backToKw pos (keywordEach kws X.env)).all (·.1.isSome) = true := by rfl) (hks : (backToKw pos (keywordEach kws X.env)).filterMap (·.1) = ks := by rfl)
    (hdb : (x == ("__debug__" : Str)) = false := by decide) (hpl : ((backTo pos (starEach [] X.env)).any (·.1) || (backToKw pos (keywordEach kws X.env)).any (·.1.isNone)) = false := by rfl) (hkl : ks.length = mk := by rfl) :
    EE X T W (.Call (.Name x p) [] kws pos) (vCallP 0 mk perm sem dds aNil fk) := by
  subst hkl
  exact PE.weak (pe_makeP0 M F hr hm hb tk hkw hg hall hks hdb hpl) fun σ H Q q => by
    have z := wM (n := 0) hs hp hdd σ H Q hmx q
    obtain ⟨ρ, S, r, sh, rep, e, fin⟩ := z
    cases e
    exact fin [] S H (Kp.refl sh) .nil

/-! ### o.m(..) of an instance -/
def tMP (C : Addr) (m : Str) (n mm : Nat) (perm : List Nat) (sp : Sp) (dvs : List V) (E : L2.St → XK) (to : TE) (t tk : TA) : TE := fun σ H Q => to σ H fun x H1 => ∃ a dx fs, x = .ref a ∧ H1 a = some (.ins C dx fs) ∧ fs.lookup m = none ∧
  t σ H1 fun vs H2 => tk σ H2 fun zs H3 => vs.length = n ∧ zs.length = mm ∧ sp (x :: pick perm (vs ++ zs ++ dvs)) H3 Q (E σ)
theorem pe_methP {pl : Sem Bool} {to : TE} {t tkw : TA} (ho : PE X o to) (c : Cls X.K C) (hm : Meth X.K C m f) (F : FnOk X.prog X.w X.K X.mg X.base (L2.CX X.prog X.w) k f fd ps sp) (hr : Room k X.A) (hb : ArgB X.K fd ps (n + 1) ks dvs (0 :: perm.map (· + 1))) (tk : Takes X W)
    (ha : PA X (e :: es) t) (hkw : PK X kws tkw) (hall : (backToKw pos (keywordEach kws X.env)).all (·.1.isSome) = true) (hks : (backToKw pos (keywordEach kws X.env)).filterMap (·.1) = ks)
    (he : starEach (e :: es) X.env = (false, eval e X.env) :: starEach es X.env) (hpl : ((backTo pos (starEach (e :: es) X.env)).any (·.1) || (backToKw pos (keywordEach kws X.env)).any (·.1.isNone)) = false)
    (ht : eval (.Call (.Attribute o m apos) (e :: es) kws pos) X.env = (do
      let ov ← eval o X.env
      standAt apos.atName
      let (f, first) ← holding [ov] (getMethod ov m pl)
      callWith pos f first (backTo pos (starEach (e :: es) X.env)) (backToKw pos (keywordEach kws X.env)))) :
    PE X (.Call (.Attribute o m apos) (e :: es) kws pos) (tMP C m n ks.length perm sp dvs (WE W) to t tkw) := by
  refine ⟨fun pins s σ H Q I h => ?_⟩
  refine PySem.W.methodCall_KW (pl := pl) (thn (ho.run pins s σ H _ I h) fun u s1 ⟨x, H1, I1, rx, a, dx, fs, ex, ea, l, q⟩ => ?_) ht
  subst ex
  obtain rfl : u = Value.ref a := rx
  refine getmeth_ok I1 ea c hm l ?_
  refine PySem.W.callWith_KW (first := [.ref a]) (h₀ := X.base) I.ok.mod.kin hm.kp hall (thn (ha.run pos pins s1 σ H1 _ I1 q) fun us s2 ⟨vs, H2, I2, r, q2⟩ => ?_) hpl he
  refine thn (hkw.run pos pins s2 σ H2 _ I2 q2) fun ws s3 ⟨zs, H3, I3, rz, l1, l2, q3⟩ => ⟨I3.kIn, ?_⟩
  rw [hks]
  have ev : pick (0 :: perm.map (· + 1)) (V.ref a :: vs ++ zs ++ dvs) = V.ref a :: pick perm (vs ++ zs ++ dvs) := pick_zero
  exact run_P (us := .ref a :: us) (vs := .ref a :: vs) F hr hb tk I3 (.cons rfl r) rz (congrArg Nat.succ l1) l2 (by rw [ev]; exact q3)
theorem pe_methP0 {pl : Sem Bool} {to : TE} {tkw : TA} (ho : PE X o to) (c : Cls X.K C) (hm : Meth X.K C m f) (F : FnOk X.prog X.w X.K X.mg X.base (L2.CX X.prog X.w) k f fd ps sp) (hr : Room k X.A) (hb : ArgB X.K fd ps 1 ks dvs (0 :: perm.map (· + 1))) (tk : Takes X W)
    (hkw : PK X kws tkw) (hall : (backToKw pos (keywordEach kws X.env)).all (·.1.isSome) = true) (hks : (backToKw pos (keywordEach kws X.env)).filterMap (·.1) = ks)
    (hpl : ((backTo pos (starEach [] X.env)).any (·.1) || (backToKw pos (keywordEach kws X.env)).any (·.1.isNone)) = false)
    (ht : eval (.Call (.Attribute o m apos) [] kws pos) X.env = (do
      let ov ← eval o X.env
      standAt apos.atName
      let (f, first) ← holding [ov] (getMethod ov m pl)
      callWith pos f first (backTo pos (starEach [] X.env)) (backToKw pos (keywordEach kws X.env)))) :
    PE X (.Call (.Attribute o m apos) [] kws pos) (tMP C m 0 ks.length perm sp dvs (WE W) to tNil tkw) := by
  refine ⟨fun pins s σ H Q I h => ?_⟩
  refine PySem.W.methodCall_KW (pl := pl) (thn (ho.run pins s σ H _ I h) fun u s1 ⟨x, H1, I1, rx, a, dx, fs, ex, ea, l, q⟩ => ?_) ht
  subst ex
  obtain rfl : u = Value.ref a := rx
  refine getmeth_ok I1 ea c hm l ?_
  refine PySem.W.callWith_KW0 (first := [.ref a]) (h₀ := X.base) I.ok.mod.kin hm.kp hall (thn (hkw.run pos pins s1 σ H1 _ I1 q) fun ws s3 ⟨zs, H3, I3, rz, l1, l2, q3⟩ => ⟨I3.kIn, ?_⟩) hpl
  rw [hks]
  have ev : pick (0 :: perm.map (· + 1)) (V.ref a :: [] ++ zs ++ dvs) = V.ref a :: pick perm ([] ++ zs ++ dvs) := pick_zero
  exact run_P (us := [.ref a]) (vs := [.ref a]) F hr hb tk I3 (.cons rfl .nil) rz rfl l2 (by rw [ev]; exact q3)
def vMethP (ci n m : Nat) (perm : List Nat) (sem : List D → Option R) (dds : List D) (fo : FE) (fs fk : FL) : FE := fun ρ => R1 (fo ρ) fun d => match d with
  | .obj c _ => if c = ci then RL1 (fs ρ) fun ds => RL1 (fk ρ) fun es => if ds.length = n ∧ es.length = m then sem (d :: pick perm (ds ++ es ++ dds)) else none
    else none
  | _ => none
structure MethI (T : Tab) (ci : Nat) (m : Str) (f : Addr) : Prop where
  cls : Cls T.K (T.cls ci)
  meth : Meth T.K (T.cls ci) m f
  no : m ∉ T.flds ci
theorem wMP {np : Nat} {mm : Nat} (MI : MethI T ci m f) (hp : perm.length + 1 = np) (hdd : ∀ S, Iss T S dvs dds) (σ : L2.St) (H : Hp) (Q : VK) (hmx : ∀ j ∈ perm, j < n + mm + dvs.length)
    (q : tF T W (vMethP ci n mm perm sem dds fo fs fk) σ H Q) : tMP (T.cls ci) m n mm perm (spF T np sem) dvs (WE W) (tF T W fo) (tA T W fs) (tA T W fk) σ H Q := by
  obtain ⟨ρ, S, r, sh, rep, e, fin⟩ := q
  refine tF_go sh rep e fin fun d x S0 H0 k0 i0 rep0 e0 fin0 => ?_
  split at e0 <;> try cases e0
  rename_i c fds
  split at e0 <;> try cases e0
  rename_i hc
  subst hc
  cases i0 with
  | @obj a dx _ vs0 _ h hl0 hs =>
    refine ⟨a, dx, _, rfl, k0.sub.same _ _ h, lookup_zip_none MI.no, ?_⟩
    refine tA_go k0.sub rep0 e0 fin0 fun ds vs S1 H1 k1 i1 rep1 e1 fin1 => ?_
    refine tA_go k1.sub rep1 e1 fin1 fun es zs S2 H2 k2 i2 rep2 e2 fin2 => ?_
    split at e2 <;> try cases e2
    rename_i hl
    have i12 := (((i1.mono k2.s).append i2).append (hdd S2)).pick perm
    have io : Is T S2 (.ref a) (.obj c fds) := Is.mono (k1.s.trans k2.s) (.obj h hl0 hs)
    refine ⟨i1.length.trans hl.1, i2.length.trans hl.2, S2, _, r, k2.sub, .cons io i12, ?_, e2, fend fin2⟩
    rw [List.length_cons, pick_len fun j hj => ?_, hp]
    rw [List.length_append, List.length_append, i1.length, i2.length, hl.1, hl.2]
    exact hmx j hj
theorem ee_methP {pl : Sem Bool} {np mk : Nat} (MI : MethI T ci m f) (F : FnOk X.prog X.w X.K X.mg X.base (L2.CX X.prog X.w) k f fd ps (spF T np sem)) (hr : Room k X.A) (hb : ArgB X.K fd ps (n + 1) ks dvs (0 :: perm.map (· + 1))) (tk : Takes X W) (hp : perm.length + 1 = np)
    (hmx : ∀ j ∈ perm, j < n + ks.length + dvs.length) (hdd : ∀ S, Iss T S dvs dds) (ho : EE X T W o fo) (ha : EA X T W (e :: es) fs) (hkw : EK X T W kws fk) (hK : X.K = T.K := by rfl)
    (hall : (backToKw pos (keywordEach kws X.env)).all (·.1.isSome) = true := by rfl) (hks : (backToKw pos (keywordEach kws X.env)).filterMap (·.1) = ks := by rfl)
    (he : starEach (e :: es) X.env = (false, eval e X.env) :: starEach es X.env := by rfl) (hpl : ((backTo pos (starEach (e :: es) X.env)).any (·.1) || (backToKw pos (keywordEach kws X.env)).any (·.1.isNone)) = false := by rfl)
    (ht : eval (.Call (.Attribute o m apos) (e :: es) kws pos) X.env = (do
      let ov ← eval o X.env
      standAt apos.atName
      let (f, first) ← holding [ov] (getMethod ov m pl)
      callWith pos f first (backTo pos (starEach (e :: es) X.env)) (backToKw pos (keywordEach kws X.env))) := by rfl) (hkl : ks.length = mk := by rfl) :
    EE X T W (.Call (.Attribute o m apos) (e :: es) kws pos) (vMethP ci n mk perm sem dds fo fs fk) := by
  subst hkl
  exact PE.weak (pe_methP (pl := pl) ho (by rw [hK]; exact MI.cls) (by rw [hK]; exact MI.meth) F hr hb tk ha hkw hall hks he hpl ht) fun σ H Q q => wMP MI hp hdd σ H Q hmx q
theorem ee_methP0 {pl : Sem Bool} {np mk : Nat} (MI : MethI T ci m f) (F : FnOk X.prog X.w X.K X.mg X.base (L2.CX X.prog X.w) k f fd ps (spF T np sem)) (hr : Room k X.A) (hb : ArgB X.K fd ps 1 ks dvs (0 :: perm.map (· + 1))) (tk : Takes X W) (hp : perm.length + 1 = np)
    (hmx : ∀ j ∈ perm, j < 0 + ks.length + dvs.length) (hdd : ∀ S, Iss T S dvs dds) (ho : EE X T W o fo) (hkw : EK X T W kws fk) (hK : X.K = T.K := by rfl)
    (hall : (backToKw pos (keywordEach kws X.env)).all (·.1.isSome) = true := by rfl) (hks : (backToKw pos (keywordEach kws X.env)).filterMap (·.1) = ks := by rfl)
    (hpl : ((backTo pos (starEach [] X.env)).any (·.1) || (backToKw pos (keywordEach kws X.env)).any (·.1.isNone)) = false := by rfl)
    (ht : eval (.Call (.Attribute o m apos) [] kws pos) X.env = (do
      let ov ← eval o X.env
      standAt apos.atName
      let (f, first) ← holding [ov] (getMethod ov m pl)
      callWith pos f first (backTo pos (starEach [] X.env)) (backToKw pos (keywordEach kws X.env))) := by rfl) (hkl : ks.length = mk := by rfl) :
    EE X T W (.Call (.Attribute o m apos) [] kws pos) (vMethP ci 0 mk perm sem dds fo aNil fk) := by
  subst hkl
  exact PE.weak (pe_methP0 (pl := pl) ho (by rw [hK]; exact MI.cls) (by rw [hK]; exact MI.meth) F hr hb tk hkw hall hks hpl ht) fun σ H Q q => by
    have z := wMP (n := 0) MI hp hdd σ H Q hmx q
    obtain ⟨ρ, S, r, sh, rep, e, fin⟩ := z
    refine ⟨ρ, S, r, sh, rep, e, ?_⟩
    cases r with
    | ok d =>
      intro v S' H' kp i
      obtain ⟨a, dx, fs, h1, h2, h3, ρ2, S3, r3, sh3, rep3, e3, fin3⟩ := fin v S' H' kp i
      cases e3
      exact ⟨a, dx, fs, h1, h2, h3, fin3 [] S3 H' (Kp.refl sh3) .nil⟩
    | ex x => exact fin

/-! ### isinstance of built-in types -/
inductive Ty where
  | non | bl | int | str | lst | tup
def Ty.nm : Ty → String
  | .non => "NoneType" | .bl => "bool" | .int => "int" | .str => "str" | .lst => "list" | .tup => "tuple"
def Ty.le : Ty → Ty → Bool
  | .non, .non => true | .bl, .bl => true | .bl, .int => true | .int, .int => true | .str, .str => true | .lst, .lst => true | .tup, .tup => true
  | _, _ => false
theorem kit_le {K : PySem.W.Frag} (t u : Ty) : PySem.W.kitOne K (.type t.nm) (.type u.nm) = some (t.le u) := by
  refine kit_ty ?_
  cases t <;> cases u <;> decide +kernel
def D.ty : D → Option Ty
  | .non => some .non | .bl _ => some .bl | .int _ => some .int | .str _ => some .str | .lst _ => some .lst | .tup _ => some .tup | .scr _ => some .lst
  | _ => none
theorem ty_of {H : Hp} {v : V} {d : D} {t : Ty} (h : Is T H v d) (e : d.ty = some t) : TyX T.K H v (.type t.nm) := by
  cases h with
  | non => cases e; exact .base .non
  | bl b => cases e; exact .base (.bl _)
  | int b => cases e; exact .base (.int _)
  | str b => cases e; exact .base (.str _)
  | tup h hs =>
    cases e
    rcases h with (h | ⟨o, h⟩) | ⟨o, its, n, h1, h2, _⟩
    · exact .base (.tup h)
    · exact .fTuple h
    · exact .kTuple h1 h2
  | lst h hs => cases e; exact .base (.lst h)
  | obj h hl hs => cases e
  | scr h hl =>
    cases e
    rcases h with (h | ⟨o, h⟩) | ⟨o, its, n, h1, h2, _⟩
    · exact .base (.lst h)
    · exact .base (.frz h)
    · exact .kList h1 h2
def isD (cs : List Ty) (d : D) : Option D := d.ty.map fun t => .bl (cs.any fun u => t.le u)
theorem ee_isi (u : Ty) {y : Str} {q : Pos} (hm : X.mg "isinstance" = none) (hmy : X.mg y = none) (hvy : bootBuiltins y = some (.type u.nm)) (hK : X.K = T.K := by rfl) (hg : Gl X "isinstance" := by rfl) (hgy : Gl X y := by rfl) (hny : y ≠ "__name__" := by decide) (hdy : (y == ("__debug__" : Str)) = false := by decide)
    (he : starEach (a :: [.Name y q]) X.env = (false, eval a X.env) :: starEach [.Name y q] X.env := by rfl) (he2 : starEach [.Name y q] X.env = (false, eval (.Name y q) X.env) :: starEach [] X.env := by rfl) (hpl : (backTo pos (starEach [.Name y q] X.env)).any (·.1) = false := by rfl)
    (ha : EE X T W a fa) : EE X T W (.Call (.Name "isinstance" p) [a, .Name y q] [] pos) (v1 (isD [u]) fa) := by
  refine PE.weak (pe_callB call_isi hg hm (by decide +kernel) (pa_cons ha (pa_cons (pe_bltn (v := .ty u.nm) hgy hmy hvy rfl hny hdy) pa_nil he2) he) (by decide) (by decide) he hpl) fun σ H Q q => ?_
  obtain ⟨ρ, S, z, sh, rep, e, fin⟩ := q
  refine tF_go sh rep e fin fun d x S1 H1 k1 i1 rep1 e1 fin1 => ?_
  obtain ⟨r, e3, rfl⟩ := okO_inv e1
  obtain ⟨t, e4, rfl⟩ := Option.map_eq_some_iff.mp e3
  refine ⟨x, .ty u.nm, _, _, _, rfl, .ty _, by rw [hK]; exact ty_of (i1.mono k1.sub.same) e4, kit_le t u, ?_⟩
  have : [u].any (fun u => t.le u) = t.le u := by simp
  rw [this] at fin1
  exact fin1 _ S1 H1 (Kp.refl k1.sub) (.bl _)
theorem kitAny_le {K : PySem.W.Frag} (t : Ty) : ∀ us : List Ty, PySem.W.kitAny K (.type t.nm) (us.map fun u => .type u.nm) = some (us.any fun u => t.le u)
  | [] => rfl
  | u :: us => by
    rw [List.map_cons, List.any_cons]
    refine kitAny_cons (b := t.le u) (kit_le t u) (fun h => ?_) fun h => ?_
    · rw [h, Bool.false_or]; exact kitAny_le t us
    · rw [h]; rfl
/-- the classes written as a tuple -/
inductive PTy (X : Cx) : List Expr → List Ty → Prop where
  | nil : PTy X [] []
  | cons {y : Str} {q : Pos} {es : List Expr} {u : Ty} {us : List Ty} (hmy : X.mg y = none) (hvy : bootBuiltins y = some (.type u.nm)) (hr : PTy X es us) (hgy : Gl X y := by rfl) (hny : y ≠ "__name__" := by decide) (hdy : (y == ("__debug__" : Str)) = false := by decide)
      (he : starEach (.Name y q :: es) X.env = (false, eval (.Name y q) X.env) :: starEach es X.env := by rfl) : PTy X (.Name y q :: es) (u :: us)
theorem PTy.pa {es : List Expr} {us : List Ty} (h : PTy X es us) : PA X es (fun _ H Q => Q (us.map fun u => V.ty u.nm) H) := by
  induction h with
  | nil => exact pa_nil
  | cons hmy hvy hr hgy hny hdy he ih => exact pa_cons (pe_bltn (v := .ty _) hgy hmy hvy rfl hny hdy) ih he
theorem PTy.clsV : ∀ us : List Ty, Paired ClsV (us.map fun u => V.ty u.nm) (us.map fun u => Value.type u.nm)
  | [] => .nil
  | u :: us => .cons (.ty _) (PTy.clsV us)
theorem ee_isiT (us : List Ty) {q : Pos} {x1} (h : PTy X es us) (hl : us.length ≤ 20) (hm : X.mg "isinstance" = none) (hK : X.K = T.K := by rfl) (hg : Gl X "isinstance" := by rfl)
    (he : starEach (a :: [.Tuple es x1 q]) X.env = (false, eval a X.env) :: starEach [.Tuple es x1 q] X.env := by rfl) (he2 : starEach [.Tuple es x1 q] X.env = (false, eval (.Tuple es x1 q) X.env) :: starEach [] X.env := by rfl) (hpl : (backTo pos (starEach [.Tuple es x1 q] X.env)).any (·.1) = false := by rfl)
    (ha : EE X T W a fa) : EE X T W (.Call (.Name "isinstance" p) [a, .Tuple es x1 q] [] pos) (v1 (isD us) fa) := by
  refine PE.weak (pe_callB call_isiT hg hm (by decide +kernel) (pa_cons ha (pa_cons (pe_tup h.pa) pa_nil he2) he) (by decide) (by decide) he hpl) fun σ H Q q => ?_
  obtain ⟨ρ, S, z, sh, rep, e, fin⟩ := q
  refine tF_go sh rep e fin fun d x S1 H1 k1 i1 rep1 e1 fin1 => ?_
  obtain ⟨r, e3, rfl⟩ := okO_inv e1
  obtain ⟨t, e4, rfl⟩ := Option.map_eq_some_iff.mp e3
  refine ⟨by rw [List.length_map]; exact line_of (by omega), fun tp hp => ?_⟩
  have k2 := Kp.new (o := .tup (us.map fun u => V.ty u.nm)) k1.sub hp
  refine ⟨x, tp, _, _, _, _, rfl, upd_same, PTy.clsV us, by rw [hK]; exact ty_of (((i1.mono k2.s)).mono k2.sub.same) e4, kitAny_le t us, ?_⟩
  exact fin1 _ _ _ k2 (.bl _)
end
end EV
end

section
set_option maxHeartbeats 4000000
/-! EV11: enumerate of lists and tuples, x += e, sorted(set(e)). -/
namespace EV
open PySem L2

/-- a list (false) or a tuple (true) -/
def SqK (K : PySem.W.Frag) : Bool → Hp → Addr → List V → Prop
  | true => SqT K
  | false => SqL K
def IsK : Bool → Heap → Addr → Array Value → Prop
  | true => fun h a its => h.IsTuple a its
  | false => fun h a its => h.IsList a its
def itO : Bool → Addr → Obj
  | true, a => { cls := .type "tuple_iterator", data := .fields #[.ref a, .int 0 0] }
  | false, a => { cls := .type "list_iterator", data := .fields #[.ref a, .int 0 0] }
def stK : Bool → Addr → Addr → Nat → Heap → Prop
  | true, it, a, i => fun h => h.IsTupleIter it a i
  | false, it, a, i => fun h => h.IsListIter it a i
theorem beginsK : ∀ (k : Bool) (a : Addr) (its : Array Value), Begins (.ref a) (itO k a) fun h => IsK k h a its
  | true, a, its => begins_tuple a its
  | false, a, its => begins_list a its
theorem itO_st {h : Heap} {it a : Addr} : ∀ {k : Bool}, h.get? it = some (itO k a) → stK k it a 0 h
  | true, e => ⟨_, e, rfl, rfl⟩
  | false, e => ⟨_, e, rfl, rfl⟩
theorem itO_free {k : Bool} {a : Addr} : (itO k a).isFreed = false := by cases k <;> rfl
theorem drawsK {prog : Program} {w : World} {A : Around} (hh : A.handled = none) (it a : Addr) (hne : a ≠ it) (its : Array Value) : ∀ k : Bool,
    Draws prog w A it [it, a] its.size (fun i v => its[i]? = some v) (fun i h => stK k it a i h ∧ IsK k h a its)
  | true => Draws.tuple hh it a hne its
  | false => Draws.list hh it a hne its
theorem stK_live {h : Heap} {it a : Addr} {i : Nat} : ∀ {k : Bool}, stK k it a i h → ∃ o, h.get? it = some o ∧ ∀ v, o.data ≠ .cell v
  | true, ⟨o, e, _, d⟩ => ⟨o, e, fun v q => by rw [d] at q; cases q⟩
  | false, ⟨o, e, _, d⟩ => ⟨o, e, fun v q => by rw [d] at q; cases q⟩
theorem stK_at {h h' : Heap} {it a : Addr} {i : Nat} : ∀ {k : Bool}, stK k it a i h → (∀ o, h.get? it = some o → h'.get? it = some o) → stK k it a i h'
  | true, st, q => Heap.IsTupleIter.at st q
  | false, st, q => Heap.IsListIter.at st q
theorem stK_ne {h : Heap} {it a b : Addr} {i : Nat} {its : Array Value} : ∀ {k k' : Bool}, stK k it a i h → IsK k' h b its → b ≠ it
  | true, true, ⟨o, e, c, _⟩, ⟨u, e', c', _⟩ => fun z => by subst z; rw [e] at e'; cases e'; rw [c] at c'; injection c' with c'; exact absurd c' (by decide)
  | true, false, ⟨o, e, c, _⟩, ⟨u, e', c', _⟩ => fun z => by subst z; rw [e] at e'; cases e'; rw [c] at c'; injection c' with c'; exact absurd c' (by decide)
  | false, true, ⟨o, e, c, _⟩, ⟨u, e', c', _⟩ => fun z => by subst z; rw [e] at e'; cases e'; rw [c] at c'; injection c' with c'; exact absurd c' (by decide)
  | false, false, ⟨o, e, c, _⟩, ⟨u, e', c', _⟩ => fun z => by subst z; rw [e] at e'; cases e'; rw [c] at c'; injection c' with c'; exact absurd c' (by decide)
theorem isK_ne {h : Heap} {e b : Addr} {its : Array Value} {o : Obj} {T : String} (ho : h.get? e = some o) (hc : o.cls = .type T) (h1 : T ≠ "list") (h2 : T ≠ "tuple") : ∀ {k : Bool}, IsK k h b its → e ≠ b
  | true, ⟨u, e', c', _⟩ => fun z => by subst z; rw [ho] at e'; cases e'; rw [hc] at c'; cases c'; exact h2 rfl
  | false, ⟨u, e', c', _⟩ => fun z => by subst z; rw [ho] at e'; cases e'; rw [hc] at c'; cases c'; exact h1 rfl
section
variable {X : Cx} {pins : List (Addr × Obj)} {σ : L2.St} {H : Hp} {s : Shared} {a : Addr} {xs ys : List V}
theorem sqK_get (I : Inv X pins σ H s) : ∀ {k : Bool}, SqK X.K k H a xs → ∃ its : List Value, Vals xs its ∧ IsK k s.heap a its.toArray
  | true, h => let ⟨its, r, p, _⟩ := I.tuple h; ⟨its, r, p⟩
  | false, h => let ⟨its, r, p, _⟩ := I.list h; ⟨its, r, p.isList⟩
theorem sqK_inj (I : Inv X pins σ H s) : ∀ {k : Bool}, SqK X.K k H a xs → SqK X.K k H a ys → xs = ys
  | true, h, h' => I.tuple_inj h h'
  | false, h, h' => I.list_inj h h'
end
theorem sqK_same {K : PySem.W.Frag} {H H' : Hp} {a : Addr} {xs : List V} (e : Same H H') : ∀ {k : Bool}, SqK K k H a xs → SqK K k H' a xs
  | true, h => Same.seqT e h
  | false, h => e.seq h

/-! ### enumerate -/
def Itn (K : PySem.W.Frag) (k : Bool) (a : Addr) : It :=
  ⟨fun i H => ∃ (xs : List V) (x : V), SqK K k H a xs ∧ xs[i]? = some x, fun i H v H' => ∃ T x, v = .ref T ∧ H T = none ∧ H' = L2.upd H T (.tup [.int (i : Nat), x]) ∧ ∀ xs, SqK K k H a xs → xs[i]? = some x, fun i H => ∃ xs : List V, SqK K k H a xs ∧ xs.length = i⟩
theorem turn_itn {P : Program} {w : World} {K : PySem.W.Frag} {elts : List Expr} {kk : Nat} {tpos : Pos} (k : Bool) (a e it : Addr) :
    Turn P w K (.Tuple elts kk tpos) (Itn K k a) [e, it] e (fun i h => (∃ old, IsEnum h e it ((i : Nat) : Int) old) ∧ stK k it a i h ∧ e ≠ it) where
  mem := List.mem_cons_self
  obj := fun i h st b hb => by
    obtain ⟨⟨old, he⟩, hi, _⟩ := st
    rcases List.mem_cons.mp hb with z | z
    · subst z; exact ⟨_, he, fun v q => nomatch q⟩
    · rw [List.mem_singleton.mp z]; exact stK_live hi
  keep := fun i h h' st q => ⟨⟨st.1.choose, q e (by simp) _ st.1.choose_spec⟩, stK_at st.2.1 fun o z => q it (by simp) o z, st.2.2⟩
  item := by
    intro X hP hw hK hc i pins s σ H E I hf st hg
    subst hP hw hK
    obtain ⟨⟨old, he⟩, hi, hne⟩ := st
    obtain ⟨xs, x, hq, hx⟩ := hg
    obtain ⟨its, rv, p⟩ := sqK_get I hq
    obtain ⟨u, hu, ru⟩ := rv.get hx
    have hai : a ≠ it := stK_ne hi p
    have hea : e ≠ a := isK_ne he rfl (by decide) (by decide) p
    have hel : e < s.heap.objs.size := Heap.lt_size he
    have hil : it < s.heap.objs.size := by obtain ⟨_, q, _⟩ := stK_live hi; exact Heap.lt_size q
    have hlt : i < its.toArray.size := by
      have := (List.getElem?_eq_some_iff.mp hu).1
      simpa using this
    refine wpAny_pyNext_enum_itemD (drawsK (A := X.A.in1) (I.ok.hd hc) it a hai its.toArray k) he ⟨hi, p⟩ hlt hne (by simp [hne, hea]) fun v h1 tk hv ho st1 hT hsz hk => ?_
    have ev : v = u := by
      have e1 : its.toArray[i]? = some u := by simpa using hu
      rw [e1] at hv
      exact (Option.some.inj hv).symm
    subst ev
    refine ⟨_, rfl, wpAny_letOwnedTupleGo_enum (s := { s with heap := h1, toks := tk + 1 }) ho fun h2 he2 sb => ?_⟩
    have hT2 : h2.get? s.heap.objs.size = some { cls := .type "tuple", data := .seq #[.int i tk, v] } := (sb.2 _ (Nat.ne_of_gt hel)).trans hT
    have new : ObjOk X.prog X.w (L2.upd H s.heap.objs.size (.tup [.int (i : Nat), x])) h2 s.heap.objs.size (.tup [.int (i : Nat), x]) :=
      ⟨by show 2 ≤ sizeLine; decide, [.int i tk, v], .cons ⟨_, rfl⟩ (.cons ru .nil), ⟨_, hT2, rfl, _, rfl⟩⟩
    have I1 : Inv X pins σ (L2.upd H s.heap.objs.size (.tup [.int (i : Nat), x])) { s with heap := h2, toks := tk + 1 } :=
      I.turnedNew (ch := [e, it]) (fun b ob hb q => (sb.2 b (fun z => hb (by simp [z]))).trans (hk b ob (fun z => hb (by simp [z])) (fun z => hb (by simp [z])) q)) hf (Nat.le_refl _) new
    refine ⟨.ref s.heap.objs.size, _, I1, rfl, ⟨_, x, rfl, I.hok.fresh (Nat.le_refl _), rfl, fun ys hy => by rw [sqK_inj I hy hq]; exact hx⟩, ⟨⟨v, ?_⟩, stK_at st1.1 fun o q => (sb.2 it (Ne.symm hne)).trans q, hne⟩, fun b hb => ?_⟩
    · have e1 : ((i + 1 : Nat) : Int) = (i : Int) + 1 := by omega
      rw [e1]; exact he2
    · have hb' : b < s.heap.objs.size := by
        rcases List.mem_cons.mp hb with z | z
        · rw [z]; exact hel
        · rw [List.mem_singleton.mp z]; exact hil
      rw [upd_ne (Nat.ne_of_lt hb')]
      exact (hf b hb).1
  done := by
    intro X hP hw hK hc i pins s σ H E I hf st hg
    subst hP hw hK
    obtain ⟨⟨old, he⟩, hi, hne⟩ := st
    obtain ⟨xs, hq, hx⟩ := hg
    obtain ⟨its, rv, p⟩ := sqK_get I hq
    have hai : a ≠ it := stK_ne hi p
    obtain ⟨f0, f1, f2, f3, f4, f5⟩ := hf it (by simp)
    have hn : its.toArray.size = i := by
      have := rv.length
      simp
      omega
    refine wpAny_pyNext_enum_endD (drawsK (A := X.A.in1) (I.ok.hd hc) it a hai its.toArray k) he ⟨by rw [hn]; exact hi, p⟩ fun h1 eb => ⟨rfl, I.turned (t' := s.toks) (fun b o hb q => eb b o hb q) f0 f1 f3 f4 f5⟩
  self := fun A i s Q E st h => wpAny_pyIter_enum st.1.choose_spec h
theorem meets_enum1 {v : Value} {o : Obj} {G : Heap → Prop} (B : Begins v o G) :
    Meets (Builtin.«enumerate.__new__» ⟨[.type "enumerate", v], []⟩) (fun _ R s => G s.heap ∧
      R (.ok (.ret (.ref (s.heap.push o).objs.size))) { s with heap := (s.heap.push o).push { cls := .type "enumerate", data := .fields #[.none, .bool false, .ref s.heap.objs.size, rawInt 0, .none, .none] } }) :=
  .of_wp fun prog w A R s h => by
    obtain ⟨hp, g, d, tk, os⟩ := s
    obtain ⟨h1, h⟩ := h
    have isE := sub_enumerate
    have begun : ∀ {A' : Around} {E : Value → Shared → Prop} {Q : Value → Shared → Prop}, Q (.ref hp.objs.size) ⟨hp.push o, g, d, tk, os⟩ → wpAny (model prog w) A' (pyIter v) Q E ⟨hp, g, d, tk, os⟩ :=
      fun q => B.iter prog w _ _ ⟨hp, g, d, tk, os⟩ _ h1 q
    wp_walk using begun
    refine wpAny_stack_any fun st => wpAny_pure ?_
    split
    · rename_i cc _ _ _ _ _
      cases (cc == Value.type "enumerate")
      · wp_walk using begun
        exact ⟨_, rfl, h⟩
      · wp_walk using begun
        exact ⟨_, rfl, h⟩
    · wp_walk using begun
      exact ⟨_, rfl, h⟩
section
variable {prog : Program} {w : World} {A : Around} {E : Value → Shared → Prop} {s : Shared}
theorem call_enum1 {v : Value} {o : Obj} {G : Heap → Prop} {Q : Value → Shared → Prop} (B : Begins v o G) (h1 : G s.heap)
    (h : ∀ h', IsEnum h' (s.heap.objs.size + 1) s.heap.objs.size 0 .none → h'.get? s.heap.objs.size = some o → (∀ b o, s.heap.get? b = some o → h'.get? b = some o) → Q (.ref (s.heap.objs.size + 1)) { s with heap := h' }) :
    wpAny (model prog w) A (call (.type "enumerate") [v]) Q E s := by
  refine callType_new F.called_enumerate (by decide) (F.typeCall_enumerate_1 _) (F.newCall_enumerate_1 _) (fun obj => F.args_object_init_2 obj _) F.entry_enumerate_new (meets_enum1 B) ⟨h1, ?_⟩
  have hz : (s.heap.push o).objs.size = s.heap.objs.size + 1 := Heap.size_push ..
  have he : ∀ n, n = (s.heap.push o).objs.size → IsEnum ((s.heap.push o).push { cls := .type "enumerate", data := .fields #[.none, .bool false, .ref s.heap.objs.size, rawInt 0, .none, .none] }) n s.heap.objs.size 0 .none := fun n q => by
    rw [q]
    exact Heap.get?_push_size _ rfl
  show _ ∧ _
  rw [hz]
  exact ⟨⟨_, he _ hz.symm, rfl⟩, h _ (he _ hz.symm) (Heap.get?_push_of_some _ (Heap.get?_push_size _ B.free)) fun b o x => Heap.get?_push_of_some _ (Heap.get?_push_of_some _ x)⟩
end
section
variable {X : Cx} {T : Tab} {W : WX} {e : Expr} {fa : FE} {p pos tpos : Pos} {elts : List Expr} {kk : Nat}
def iEn (K : PySem.W.Frag) (ta : TA) : TI := fun σ H R => ta σ H fun vs H1 => ∃ a xs k, vs = [.ref a] ∧ SqK K k H1 a xs ∧ R (Itn K k a) H1
theorem pi_en {ta : TA} (hg : Gl X "enumerate") (hm : X.mg "enumerate" = none) (ha : PA X [e] ta) (hs : starEach [e] X.env = [(false, eval e X.env)] := by rfl) : PI X (.Tuple elts kk tpos) (.Call (.Name "enumerate" p) [e] [] pos) (iEn X.K ta) := by
  refine ⟨fun pins s σ H R I h => ?_⟩
  refine PyProof.Rows.Call_ (ld_blt I hg hm PyProof.Rows.boot_enumerate (PyProof.Rows.callWith_type1 (thn (ha.run pos pins s σ H _ I h) fun us s1 ⟨vs, H1, I1, r1, q1⟩ => ?_) hs rfl))
  obtain ⟨a, xs, k, rfl, hq, q⟩ := q1
  cases r1 with
  | cons r rr =>
    cases rr
    cases r
    obtain ⟨its, rv, pk⟩ := sqK_get I1 hq
    refine call_enum1 (beginsK k a its.toArray) pk fun h' he hi hk => wpAny_pyIter_enum he ?_
    have I2 : Inv X pins σ H1 { s1 with heap := h' } := I1.kept (t' := s1.toks) hk
    refine ⟨s1.heap.objs.size + 1, [s1.heap.objs.size + 1, s1.heap.objs.size], _, _, H1, rfl, I2, turn_itn k a (s1.heap.objs.size + 1) s1.heap.objs.size, ⟨⟨.none, he⟩, itO_st hi, Nat.succ_ne_self _⟩, fun b hb => ?_, q⟩
    have hle : s1.heap.objs.size ≤ b := by
      rcases List.mem_cons.mp hb with z | z
      · rw [z]; exact Nat.le_add_right _ _
      · rw [List.mem_singleton.mp z]; exact Nat.le_refl _
    exact I1.fpOk hle (I1.hok.fresh hle)
def enumFrom : Nat → List D → List D
  | _, [] => []
  | n, d :: ds => .tup [.int n, d] :: enumFrom (n + 1) ds
theorem enumFrom_length : ∀ (ds : List D) (n : Nat), (enumFrom n ds).length = ds.length
  | [], _ => rfl
  | d :: ds, n => by simp [enumFrom, enumFrom_length ds]
theorem enumFrom_get : ∀ (ds : List D) (n i : Nat) (d : D), ds[i]? = some d → (enumFrom n ds)[i]? = some (.tup [.int ((n + i : Nat) : Int), d])
  | [], _, _, _, h => by simp at h
  | d :: ds, n, 0, e, h => by simp at h; subst h; simp [enumFrom]
  | d :: ds, n, i + 1, e, h => by
    have := enumFrom_get ds (n + 1) i e (by simpa using h)
    simp only [enumFrom, List.getElem?_cons_succ, this]
    rw [show n + 1 + i = n + (i + 1) by omega]
def iEnum (f : FE) : FL := fun ρ => R1L (f ρ) fun d => (seqD d).map fun ds => RL.ok (enumFrom 0 ds)
theorem iw_enum {K : PySem.W.Frag} (hK : K = T.K) {k : Bool} {a : Addr} {vs : List V} {ds : List D} {S1 H1 : Hp} {σ : L2.St} (h : SqK K k S1 a vs) (hs : Iss T S1 vs ds) : IW T (Itn K k a) S1 (enumFrom 0 ds) := by
  refine ⟨fun i S H s sh hi => ?_, fun S H s sh => ?_, fun i S H x H' s sh hi y => ?_⟩
  · rw [enumFrom_length, ← hs.length] at hi
    exact ⟨vs, vs[i], sqK_same sh.same (sqK_same s h), List.getElem?_eq_getElem hi⟩
  · exact ⟨vs, sqK_same sh.same (sqK_same s h), by rw [enumFrom_length, hs.length]⟩
  · obtain ⟨Tn, x', rfl, hn, rfl, hx⟩ := y
    obtain ⟨d, h1, h2⟩ := hs.get (hx vs (sqK_same sh.same (sqK_same s h)))
    have kp := Kp.new (o := .tup [.int (i : Nat), x']) sh hn
    refine ⟨.tup [.int (i : Nat), d], _, ?_, kp, .tup (SqT.of upd_same) (.cons (.int _) (.cons ((h2.mono s).mono kp.s) .nil))⟩
    have := enumFrom_get ds 0 i d h1
    rw [Nat.zero_add] at this
    exact this
theorem ei_enum (hm : X.mg "enumerate" = none) (ha : EE X T W e fa) (hK : X.K = T.K := by rfl) (hg : Gl X "enumerate" := by rfl) (hs : starEach [e] X.env = [(false, eval e X.env)] := by rfl) (hs2 : starEach [e] X.env = (false, eval e X.env) :: starEach [] X.env := by rfl) :
    EI X T W (.Tuple elts kk tpos) (.Call (.Name "enumerate" p) [e] [] pos) (iEnum fa) := by
  refine PI.weak (pi_en hg hm (pa_cons ha pa_nil hs2) hs) fun σ H R q => ?_
  obtain ⟨ρ, S, r, sh, rep, e, fin⟩ := q
  show tF T W fa σ H _
  refine tF_goI sh rep e fin fun d v S1 H1 k i rep1 e1 fin1 => ?_
  obtain ⟨ds, e2, rfl⟩ := Option.map_eq_some_iff.mp e1
  unfold seqD at e2
  split at e2 <;> cases e2
  · cases i with
    | lst h hs => exact ⟨_, _, false, rfl, SqL.of (k.sub.same _ _ h), fin1 _ S1 H1 (Kp.refl k.sub) (iw_enum (H1 := H1) (σ := σ) hK (k := false) (SqL.of h) hs)⟩
  · cases i with
    | tup h hs => exact ⟨_, _, true, rfl, Same.seqT k.sub.same (by rw [hK]; exact h), fin1 _ S1 H1 (Kp.refl k.sub) (iw_enum (H1 := H1) (σ := σ) hK (k := true) (by show SqT X.K _ _ _; rw [hK]; exact h) hs)⟩
  · cases i with
    | scr h l => exact ⟨_, _, false, rfl, k.sub.same.seq (by rw [hK]; exact h), fin1 _ S1 H1 (Kp.refl k.sub) (iw_enum (H1 := H1) (σ := σ) hK (k := false) (by show SqL X.K _ _ _; rw [hK]; exact h) (Iss.ints _))⟩
end

/-! ### set(xs) of a list of ints -/
abbrev sO (w : World) : Obj := { cls := .type "set", dict := none, data := .set #[] 0 (.fresh 0 0 (!w.params.followText "set-order")) }
section
open PyProof.Rows Calls
variable {P : Program} {w : World} {A : Around} {E : Value → Shared → Prop} {s : Shared}
set_option maxHeartbeats 3200000 in
theorem call_set_lstI {l : Addr} {items : Array Value} (ns : List Int) {Q : Value → Shared → Prop} (hh : A.handled = none) (hl : s.heap.IsList l items) (hit : IntsAre items.toList ns) (hb : ns.length + 1 < scanBound)
    (h : ∀ (h' : Heap) (tk c : Nat), SetR w h' s.heap.objs.size (fun j => decide (j ∈ ns)) c → c ≤ ns.length → (∀ b o, s.heap.get? b = some o → h'.get? b = some o) → Q (.ref s.heap.objs.size) { s with heap := h', toks := tk }) :
    wpAny (model P w) A (call (.type "set") [.ref l]) Q E s := by
  have lenE : items.size = ns.length := by
    have q := IntsAre.length hit
    rw [Array.length_toList] at q
    exact q
  obtain ⟨c, tl, mroE⟩ := F.called_set.mro
  have madeE := F.called_set.made
  have subE := F.called_set.sub
  refine wpAny_call (codeAny_of_tree ?_)
  show wpAny _ _ (callAny (.type "set") _) _ _ _
  refine wpAny_pure ⟨Code.quiet_builtin _ (by decide +kernel), codeAny_builtin F.entry_type_call ?_⟩
  rw [Around.under_plain (weight_type_call_type "set" [.ref l] []) rfl]
  have nT := F.called_set.notType
  have nC := F.called_set.canCreate
  have tcE := F.typeCall_set_1 (.ref l)
  repeat (any_goals (first | assumption | wp_step))

  refine codeAny_mono (code_set_led1 (.ref l) (E := E) (Q₁ := fun ob sA => ob = .ref s.heap.objs.size ∧ sA = { s with heap := s.heap.push (sO w) }) ⟨rfl, rfl⟩) fun r sA hrA => ?_
  cases r with
  | error e => exact hrA
  | ok fl =>
    cases fl with
    | ret ob =>
      obtain ⟨rfl, rfl⟩ := hrA
      have gotS : (s.heap.push (sO w)).get? s.heap.objs.size = some (sO w) := Heap.get?_push_size _ rfl
      have tyS : Shared.TypeIs { s with heap := s.heap.push (sO w) } (.ref s.heap.objs.size) "set" := ⟨_, gotS, rfl⟩
      have liE := F.called_set.init.lookup
      have biE := F.called_set.init.bind (.ref s.heap.objs.size)
      repeat (any_goals (first | assumption | wp_step))

      refine codeAny_mono (codeAny_call_builtin (R := wants (fun r sB => r = .none ∧ ∃ h' tk c, sB = { s with heap := h', toks := tk } ∧ SetR w h' s.heap.objs.size (fun j => decide (j ∈ ns)) c ∧ c ≤ ns.length ∧
          (∀ b o, s.heap.get? b = some o → h'.get? b = some o)) E) F.called_set.init.plain F.entry_set_init (check_set_init_1 tyS ?_)) fun rB sB hrB => ?_
      · obtain ⟨oo, seqE, hkc, nn, hkd⟩ := hl
        obtain ⟨kc, kd, ks, ksl⟩ := oo
        simp only at hkc hkd
        subst hkc; subst hkd
        have seqE' : (s.heap.push (sO w)).get? l = some { cls := .type "list", dict := kd, data := .seq items nn, slots := ksl } := Heap.get?_push_of_some _ seqE
        have nse1 := F.sub_list_set
        have nse2 := F.sub_list_frozenset
        have nd1 : (Value.type "list" == Value.type "dict") = false := by decide
        have isL : (s.heap.push (sO w)).IsList l items := ⟨_, seqE', rfl, nn, rfl⟩
        unfold Builtin.«set.__init__» noKeywords Builtin.Frozenset.updateFrom
        generalize hPIt : pyIter = PIt
        wp_walk
        subst hPIt

        refine wpAny_pyIter_list isL ?_
        refine wpAny_bind (wpAny_runValue ?_)
        have ltS : l < s.heap.objs.size := Heap.lt_size seqE
        have noH : A.in1.in1.in1.handled = none := by simp [hh]
        have szE : (s.heap.push (sO w)).objs.size = s.heap.objs.size + 1 := Heap.size_push ..
        have apI : l ≠ (s.heap.push (sO w)).objs.size := by
          rw [Heap.size_push]; exact Nat.ne_of_lt (Nat.lt_succ_of_lt ltS)
        have apS : s.heap.objs.size ∉ [(s.heap.push (sO w)).objs.size, l] := by
          rw [Heap.size_push]; simp only [List.mem_cons, List.mem_singleton, List.not_mem_nil, or_false, not_or]
          exact ⟨Nat.ne_of_lt (Nat.lt_succ_self _), Nat.ne_of_gt ltS⟩
        have valE : ∀ (i : Nat) (v : Value), items[i]? = some v → ∃ k t, ns[i]? = some k ∧ v = .int k t := fun i v hv => by
          have hi : i < ns.length := by rw [← lenE]; exact (Array.getElem?_eq_some_iff.mp hv).1
          obtain ⟨t, e⟩ := PyProof.Rows.IntsAre.int_at hit i v (by rw [Array.getElem?_toList]; exact hv)
          refine ⟨ns[i], t, List.getElem?_eq_getElem hi, ?_⟩
          rw [e, List.getD_eq_getElem?_getD, List.getElem?_eq_getElem hi] <;> rfl
        refine set_update_ints ((Walks.list noH _ l apI items).toS) s.heap.objs.size
          apS ns lenE hb valE (items.size - 0) 0 _ (by omega) (Nat.zero_le _)
          ⟨⟨_, Heap.get?_push_size _ rfl, rfl, rfl⟩, (isL.push _)⟩ ?hS0 ?hR
        case hS0 =>
          have getS : ((s.heap.push (sO w)).push { cls := .type "list_iterator", data := .fields #[.ref l, .int 0 0] }).get? s.heap.objs.size
              = some (sO w) := Heap.get?_push_of_some _ gotS
          exact ⟨0, Nat.le_refl 0, setR_new_at getS⟩
        case hR =>
          intro s' c' mv hcc gotS'
          obtain ⟨h', g2, d', tk', os'⟩ := s'
          have qg : g2 = s.gens := mv.gens
          have qd : d' = s.drawn := mv.drawn
          have qo : os' = s.os := mv.os
          subst qg; subst qd; subst qo
          show wpAny _ _ _ _ _ _
          refine wpAny_pure ?_
          show wpAny _ _ (ret Value.none) _ _ _
          rw [lenE] at hcc
          refine wpAny_pure ⟨rfl, h', tk', c', rfl, gotS', hcc, fun b o e => ?_⟩
          have b0 : b < s.heap.objs.size := Heap.lt_size e
          have b1 : b ≠ s.heap.objs.size := Nat.ne_of_lt b0
          have b2 : b ≠ (s.heap.push (sO w)).objs.size := by
            rw [Heap.size_push]; exact Nat.ne_of_lt (Nat.lt_succ_of_lt b0)
          exact mv.heap b o (by simp only [List.mem_cons, List.mem_singleton, List.not_mem_nil, or_false, not_or]; exact ⟨b1, b2⟩) (Heap.get?_push_of_some _ (Heap.get?_push_of_some _ e))

      · cases rB with
        | error e => exact hrB
        | ok flB =>
          cases flB with
          | ret r =>
            obtain ⟨rfl, h', tk, c', rfl, gotS', hcc, hkk⟩ := hrB
            repeat (any_goals (first | assumption | wp_step))
            exact h _ _ _ gotS' hcc hkk
          | _ => exact hrB.elim
    | _ => exact hrA.elim

end
/-! ### x += e of ints -/
section
variable {X : Cx} {T : Tab} {W : WX} {e a : Expr} {f fa : FE} {x : Str} {i : Nat} {p pos : Pos}
def gAug (i : Nat) (f : FE) : FS := fun ρ => match ρ[i]? with
  | some (.v (.int k)) => RS (f ρ) ρ fun
    | .int j => some (.nx (ρ.set i (.v (.int (k + j)))))
    | _ => none
  | _ => none
theorem ss_aug (i : Nat) (hN : X.N.Nodup) (hi : X.N[i]? = some x := by rfl) (hx : Loc X.env.scope x := by first | exact .inl rfl | exact .inr rfl) (hf : X.fn x = true ∨ X.env.scope.names.lookup x = some .local := by first | exact .inl rfl | exact .inr rfl)
    (he : EE X T W e f) : SS X T W (.AugAssign (.Name x p) .Add e pos) (gAug i f) := by
  refine PS.weak (ps_aug (ti := rI0 fun i j => .int (i + j)) hN hi hx he (fun pins s σ H x y u v Q I r1 r2 q => iop_add pins s σ H x y u v Q I r1 r2 q) hf) fun Dn σ H q => ?_
  obtain ⟨ρ, S, L, o, r, e, fin⟩ := q
  unfold gAug at e
  split at e <;> try cases e
  rename_i k hk
  obtain ⟨v, h1, h2⟩ := r.v i _ hk
  cases h2
  refine ⟨_, h1, ?_⟩
  refine sB r e fin fun d v S' H' kp hi r' e' fin' => ?_
  split at e' <;> cases e'
  cases hi
  exact ⟨k, _, rfl, rfl, fin' _ S' H' _ (r'.setV (.int _)) Stp.off⟩
end
end EV
end

section
set_option maxHeartbeats 4000000
/-! EV12: sorted(set(e)); constants of the module. -/
namespace EV
open PySem L2

/-- into a rising list -/
def insI (x : Int) : List Int → List Int
  | [] => [x]
  | y :: ys => if x < y then x :: y :: ys else if x = y then y :: ys else y :: insI x ys
def ascI : List Int → List Int
  | [] => []
  | x :: xs => insI x (ascI xs)
theorem mem_insI {x k : Int} : ∀ {ys : List Int}, k ∈ insI x ys ↔ k = x ∨ k ∈ ys
  | [] => by simp [insI]
  | y :: ys => by
    unfold insI
    split
    · simp
    · split
      · rename_i h; subst h; simp
      · rw [List.mem_cons, mem_insI (ys := ys), List.mem_cons]
        constructor
        · rintro (h | h | h)
          · exact .inr (.inl h)
          · exact .inl h
          · exact .inr (.inr h)
        · rintro (h | h | h)
          · exact .inr (.inl h)
          · exact .inl h
          · exact .inr (.inr h)
theorem insI_rise {x : Int} : ∀ {ys : List Int}, ys.Pairwise (· < ·) → (insI x ys).Pairwise (· < ·)
  | [], _ => by simp [insI]
  | y :: ys, h => by
    obtain ⟨h1, h2⟩ := List.pairwise_cons.mp h
    unfold insI
    split
    · rename_i hx
      refine List.pairwise_cons.mpr ⟨fun z hz => ?_, h⟩
      rcases List.mem_cons.mp hz with rfl | hz
      · exact hx
      · exact Int.lt_trans hx (h1 z hz)
    · split
      · exact h
      · refine List.pairwise_cons.mpr ⟨fun z hz => ?_, insI_rise h2⟩
        rcases mem_insI.mp hz with rfl | hz
        · omega
        · exact h1 z hz
theorem ascI_rise : ∀ xs : List Int, (ascI xs).Pairwise (· < ·)
  | [] => .nil
  | x :: xs => insI_rise (ascI_rise xs)
theorem mem_ascI {k : Int} : ∀ {xs : List Int}, k ∈ ascI xs ↔ k ∈ xs
  | [] => by simp [ascI]
  | x :: xs => by rw [ascI, mem_insI, mem_ascI (xs := xs), List.mem_cons]
theorem rise_ext : ∀ {xs ys : List Int}, xs.Pairwise (· < ·) → ys.Pairwise (· < ·) → (∀ k, k ∈ xs ↔ k ∈ ys) → xs = ys
  | [], [], _, _, _ => rfl
  | [], y :: ys, _, _, h => by have := (h y).mpr List.mem_cons_self; simp at this
  | x :: xs, [], _, _, h => by have := (h x).mp List.mem_cons_self; simp at this
  | x :: xs, y :: ys, h1, h2, h => by
    obtain ⟨a1, a2⟩ := List.pairwise_cons.mp h1
    obtain ⟨b1, b2⟩ := List.pairwise_cons.mp h2
    have e : x = y := by
      rcases List.mem_cons.mp ((h x).mp List.mem_cons_self) with e | e
      · exact e
      · rcases List.mem_cons.mp ((h y).mpr List.mem_cons_self) with e' | e'
        · exact e'.symm
        · have := b1 x e
          have := a1 y e'
          omega
    subst e
    rw [rise_ext a2 b2 fun k => ⟨fun hk => ?_, fun hk => ?_⟩]
    · rcases List.mem_cons.mp ((h k).mp (List.mem_cons_of_mem _ hk)) with e | e
      · have := a1 k hk; omega
      · exact e
    · rcases List.mem_cons.mp ((h k).mpr (List.mem_cons_of_mem _ hk)) with e | e
      · have := b1 k hk; omega
      · exact e
theorem ascI_eq {xs ys : List Int} (h : ys.Pairwise (· < ·)) (hm : ∀ k, k ∈ ys ↔ k ∈ xs) : ascI xs = ys :=
  rise_ext (ascI_rise xs) h fun k => mem_ascI.trans (hm k).symm

section
variable {X : Cx} {T : Tab} {W : WX} {a : Expr} {fa : FE} {p p2 q pos : Pos}
def tAsc (K : PySem.W.Frag) (ta : TE) : TE := fun σ H Q => ta σ H fun x H1 => ∃ (l : Addr) (ns : List Int) (k : Bool), x = .ref l ∧ SqK K k H1 l (ns.map V.int) ∧ ns.length ≤ 63 ∧ ∀ r, H1 r = none → Q (.ref r) (L2.upd H1 r (.lst ((ascI ns).map V.int)))
theorem pe_asc {ta : TE} (hg : Gl X "sorted") (hm : X.mg "sorted" = none) (hg2 : Gl X "set") (hm2 : X.mg "set" = none) (ha : PE X a ta) (hc : X.calm = true := by rfl)
    (na : starEach [a] X.env = (false, eval a X.env) :: starEach [] X.env := by rfl) : PE X (.Call (.Name "sorted" p) [.Call (.Name "set" p2) [a] [] q] [] pos) (tAsc X.K ta) := by
  refine ⟨fun pins s σ H Q I h => ?_⟩
  refine PyProof.Rows.Call_ (ld_blt I hg hm PyProof.Rows.boot_sorted ?_)
  refine PyProof.Rows.callWith_builtin1 (PyProof.Rows.args_cons ?_ rfl) rfl rfl
  refine PyProof.Rows.Call_ (ld_blt I hg2 hm2 PyProof.Rows.boot_set ?_)
  refine PyProof.Rows.callWith_type1 (PyProof.Rows.args_cons (thn (ha.run pins s σ H _ I h) fun v s1 ⟨x, H1, I1, r1, q1⟩ => PyProof.Rows.args_nil ?_) na) na rfl
  obtain ⟨l, ns, k, rfl, hq, hl, q1⟩ := q1
  cases r1
  have rest : ∀ (h' : Heap) (tk c : Nat), SetR X.w h' s1.heap.objs.size (fun j => decide (j ∈ ns)) c → c ≤ ns.length → (∀ b o, s1.heap.get? b = some o → h'.get? b = some o) →
      wpAny (model X.prog X.w) X.A (call (.builtin "sorted") [.ref s1.heap.objs.size]) (EP X pins σ Q) X.xe { s1 with heap := h', toks := tk } := fun h' tk c R hcl hk => by
    have I2 : L2.Inv X pins σ H1 { s1 with heap := h', toks := tk } := I1.kept hk
    refine sorted_set R (I2.ok.hd hc) (by omega) fun s' r out n ms kp g o hp hgt hi hs hmm hll => ?_
    have em : ascI ns = ms := ascI_eq hs fun j => (hmm j).trans decide_eq_true_iff
    have hlen : (ms.map V.int).length ≤ sizeLine := by rw [List.length_map, hll, sizeLine_eq]; omega
    have hn : H1 r = none := I2.hok.fresh hp
    have J : L2.Inv X pins σ (L2.upd H1 r (.lst (ms.map V.int))) { ({ s1 with heap := h', toks := tk } : Shared) with heap := s'.heap, gens := s'.gens, drawn := s'.drawn, toks := s'.toks } :=
      I2.call (ch := []) (Un.laid kp hp hn) (I2.hok.laid kp hp ⟨hlen, out.toList, n, vals_of_ints hi, hgt⟩) (by rw [g]; exact I2.bare) (fun _ z => nomatch z)
    have e : s' = { ({ s1 with heap := h', toks := tk } : Shared) with heap := s'.heap, gens := s'.gens, drawn := s'.drawn, toks := s'.toks } := by
      cases s'
      cases s1
      cases o
      rfl
    rw [e]
    refine ⟨.ref r, _, J, rfl, ?_⟩
    have z := q1 r hn
    rw [em] at z
    exact z
  cases k with
  | false =>
    obtain ⟨its, rv, pl, hz⟩ := I1.list hq
    exact call_set_lstI ns (I1.ok.hd hc) pl.isList (by simpa using RZ.intsAre_vals rv) (by unfold scanBound; omega) fun h' tk c R hcl hk => PyProof.Rows.args_nil (rest h' tk c R hcl hk)
  | true =>
    obtain ⟨its, rv, pl, hz⟩ := I1.tuple hq
    exact call_set_tupI ns (I1.ok.hd hc) (show s1.heap.IsTuple l its.toArray from pl) (by simpa using RZ.intsAre_vals rv) (by unfold scanBound; omega) fun h' tk c R hcl hk => PyProof.Rows.args_nil (rest h' tk c R hcl hk)
def nAsc (f : FE) : FL := fun ρ => R1L (f ρ) fun d => ((seqD d).bind intsD).bind fun ns => if ns.length ≤ 63 then some (.ok ((ascI ns).map D.int)) else none
theorem en_asc (hm : X.mg "sorted" = none) (hm2 : X.mg "set" = none) (ha : EE X T W a fa) (hK : X.K = T.K := by rfl) (hg : Gl X "sorted" := by rfl) (hg2 : Gl X "set" := by rfl) (hc : X.calm = true := by rfl)
    (na : starEach [a] X.env = (false, eval a X.env) :: starEach [] X.env := by rfl) : EN X T W (.Call (.Name "sorted" p) [.Call (.Name "set" p2) [a] [] q] [] pos) (nAsc fa) := by
  refine PE.weak (pe_asc hg hm hg2 hm2 ha hc na) fun σ H Q q => ?_
  obtain ⟨ρ, S, r, sh, rep, e, fin⟩ := q
  refine tF_goN sh rep e fin fun d x S1 H1 k1 i1 rep1 e1 fin1 => ?_
  obtain ⟨ns, e2, e3⟩ := Option.bind_eq_some_iff.mp e1
  obtain ⟨ds, e4, e5⟩ := Option.bind_eq_some_iff.mp e2
  split at e3 <;> cases e3
  rename_i hl
  have go : ∀ (k : Bool) (l : Addr) (vs : List V), x = .ref l → SqK T.K k S1 l vs → Iss T S1 vs ds → ∃ (l' : Addr) (ns' : List Int) (k : Bool), x = .ref l' ∧ SqK X.K k H1 l' (ns'.map V.int) ∧ ns'.length ≤ 63 ∧ ∀ r, H1 r = none → Q (.ref r) (L2.upd H1 r (.lst ((ascI ns').map V.int))) := fun k l vs ex hq hs => by
    have ev := ints_iss hs e5
    subst ev
    exact ⟨l, ns, k, ex, by rw [hK]; exact sqK_same k1.sub.same hq, hl, fun r hr => fin1 r _ S1 _ (Kp.hide k1.sub hr rfl) hr (k1.sub.same.free hr) upd_same (Iss.ints _)⟩
  unfold seqD at e4
  split at e4 <;> cases e4
  · cases i1 with
    | lst h hs => exact go false _ _ rfl (SqL.of h) hs
  · cases i1 with
    | tup h hs => exact go true _ _ rfl h hs
  · cases i1 with
    | scr h l => exact go false _ _ rfl h (Iss.ints _)
end

/-! ### a constant of the module, as it stands in what the head has seen -/
mutual
def kD (K : PySem.W.Frag) : D → Value → Bool
  | .non, .none => true
  | .bl b, .bool c => b == c
  | .int i, .int j _ => decide (i = j)
  | .str x, .str y _ => decide (x = y)
  | .tup ds, .ref a => (match K.lookup a with
    | some ⟨.type c, _, .seq its _, _⟩ => decide (c = "tuple") && (decide (its.size ≤ sizeLine) && kDs K ds its.toList)
    | _ => false)
  | _, _ => false
def kDs (K : PySem.W.Frag) : List D → List Value → Bool
  | [], [] => true
  | d :: ds, v :: vs => kD K d v && kDs K ds vs
  | _, _ => false
end
theorem and2 {a b : Bool} (h : (a && b) = true) : a = true ∧ b = true := by simpa using h
mutual
theorem kD_ok {T : Tab} : ∀ {d : D} {v : Value}, kD T.K d v = true → ∃ x, RelV x v ∧ ∀ H, Is T H x d
  | .non, v, h => by
    cases v <;> first | (simp [kD] at h; done) | exact ⟨.non, rfl, fun _ => .non⟩
  | .bl b, v, h => by
    cases v <;> first | (simp [kD] at h; done) | skip
    rw [kD] at h
    have := eq_of_beq h
    subst this
    exact ⟨.bl b, rfl, fun _ => .bl b⟩
  | .int i, v, h => by
    cases v <;> first | (simp [kD] at h; done) | skip
    rw [kD] at h
    have := of_decide_eq_true h
    subst this
    exact ⟨.int i, ⟨_, rfl⟩, fun _ => .int i⟩
  | .str i, v, h => by
    cases v <;> first | (simp [kD] at h; done) | skip
    rw [kD] at h
    have := of_decide_eq_true h
    subst this
    exact ⟨.str i, ⟨_, rfl⟩, fun _ => .str i⟩
  | .tup ds, v, h => by
    cases v <;> first | (simp [kD] at h; done) | skip
    rename_i a
    rw [kD] at h
    split at h <;> try cases h
    rename_i c od its n sl e
    obtain ⟨h1, h2⟩ := and2 h
    obtain ⟨h3, h4⟩ := and2 h2
    obtain ⟨xs, r, hi⟩ := kDs_ok h4
    have hc : c = "tuple" := of_decide_eq_true h1
    subst hc
    exact ⟨.ref a, rfl, fun H => .tup (.inr ⟨_, its, n, e, rfl, rfl, of_decide_eq_true h3, r⟩) (hi H)⟩
  | .lst _, v, h => by cases v <;> simp [kD] at h
  | .obj _ _, v, h => by cases v <;> simp [kD] at h
  | .scr _, v, h => by cases v <;> simp [kD] at h
theorem kDs_ok {T : Tab} : ∀ {ds : List D} {vs : List Value}, kDs T.K ds vs = true → ∃ xs, Vals xs vs ∧ ∀ H, Iss T H xs ds
  | [], [], _ => ⟨[], .nil, fun _ => .nil⟩
  | [], _ :: _, h => by simp [kDs] at h
  | _ :: _, [], h => by simp [kDs] at h
  | d :: ds, v :: vs, h => by
    rw [kDs] at h
    obtain ⟨h1, h2⟩ := and2 h
    obtain ⟨x, r1, i1⟩ := kD_ok h1
    obtain ⟨xs, r2, i2⟩ := kDs_ok h2
    exact ⟨x :: xs, .cons r1 r2, fun H => .cons (i1 H) (i2 H)⟩
end
/-- the constant's name stands for d -/
def kC (K : PySem.W.Frag) (x : Str) (d : D) : Bool := match PySem.W.nsIn K mainGlobals x with
  | some (some v) => kD K d v
  | _ => false
theorem kC_ok {T : Tab} {h : Heap} {mg : Str → Option Value} (X : T.K.In h) (G : h.Ns mainGlobals mg) {x : Str} {d : D} (c : kC T.K x d = true) : ∃ u v, mg x = some u ∧ RelV v u ∧ ∀ H, Is T H v d := by
  unfold kC at c
  split at c <;> try cases c
  rename_i u e
  obtain ⟨v, r, i⟩ := kD_ok c
  exact ⟨u, v, PySem.W.mg_of X G e, r, i⟩
section
variable {X : Cx} {T : Tab} {W : WX} {x : Str} {pos : Pos}
theorem ee_globC {d : D} (hc : ∃ u v, X.mg x = some u ∧ RelV v u ∧ ∀ H, Is T H v d) (hg : Gl X x := by rfl) (hd : (x == ("__debug__" : Str)) = false := by decide) : EE X T W (.Name x pos) (vC d) := by
  obtain ⟨u, v, h1, h2, h3⟩ := hc
  exact ee_glob h1 h2 h3 hg hd
end
end EV
namespace EV
open PySem L2
/-- a def of which nothing is said -/
theorem fn_none {P : Program} {w : World} {K : PySem.W.Frag} {mg : Str → Option Value} {base : Heap} {CX : CXT} {k n : Nat} {f : Addr} {fd : FuncData} {ps : List Str} {T : Tab} : FnOk P w K mg base CX k f fd ps (spF T n fun _ => none) :=
  ⟨fun vs H Q E h => (nomatch (show False from (let ⟨_, _, _, _, _, _, e, _⟩ := h; nomatch e))), fun A outer s H args us vs Q E _ _ _ _ h => (nomatch (show False from (let ⟨_, _, _, _, _, _, e, _⟩ := h; nomatch e)))⟩
end EV
namespace EV
open PySem L2
section
variable {K : PySem.W.Frag} {x qual : Str} {params : Arguments} {body : List Stmt} {scope : Scope} {f : Addr} {fd : FuncData} {ps ks : List Str} {n : Nat} {perm : List Nat} {dvs : List V} {kws : List (Str × V)}
/-- a def without positional defaults; all parameters are given -/
theorem ArgB.given (F : FunD K x qual params body scope [] kws f fd)
    (h : ∀ (kV doc pm : Value) (an : Option Addr) (cdv ct : Value) (us ws : List Value), us.length = n → ws.length = ks.length → bindArgs (PySem.W.fnOf x qual params body scope .none kV doc pm an cdv ct) ⟨us, ks.zip ws⟩ = pure (ps.zip (pick perm (us ++ ws ++ [])))) : ArgB K fd ps n ks [] perm := by
  obtain ⟨oc, od, dV, kV, doc, pm, an, cdv, ct, osl, rfl, lk, hcd, hD, hK⟩ := F.ex
  rcases hD with ⟨_, rfl⟩ | ⟨e, _⟩
  · exact ⟨[], .nil, fun s us ws _ l1 l2 => BindsTo.of_eq (h kV doc pm an cdv ct us ws l1 l2)⟩
  · exact absurd rfl e
/-- a def with positional defaults, none of them is used -/
theorem ArgB.unused (F : FunD K x qual params body scope dvs kws f fd) (hd : dvs ≠ [])
    (h : ∀ (T : Addr) (kV doc pm : Value) (an : Option Addr) (cdv ct : Value) (us its ws : List Value), us.length = n → its.length = dvs.length → ws.length = ks.length →
      ∃ k, bindArgs (PySem.W.fnOf x qual params body scope (.ref T) kV doc pm an cdv ct) ⟨us, ks.zip ws⟩ = seqItems? (.ref T) >>= k ∧ k (some its.toArray) = pure (ps.zip (pick perm (us ++ ws ++ [])))) : ArgB K fd ps n ks [] perm := by
  obtain ⟨oc, od, dV, kV, doc, pm, an, cdv, ct, osl, rfl, lk, hcd, hD, hK⟩ := F.ex
  rcases hD with ⟨e, _⟩ | ⟨_, Ta, o, its, m, rfl, lT, oT, rT⟩
  · exact absurd e hd
  · refine ⟨[], .nil, fun s us ws X l1 l2 => ?_⟩
    obtain ⟨k, e1, e2⟩ := h Ta kV doc pm an cdv ct us its ws l1 rT.length.symm l2
    refine BindsTo.of_looks fun M => ?_
    rw [e1]
    exact looks_items X lT oT (.of_pure e2)
end
end EV
namespace EV
open PySem L2
section
variable {X : Cx} {T : Tab} {W : WX} {e : Expr} {f : FE} {pos : Pos}
def gDropA (f : FE) : FS := fun ρ => RA (f (thaw ρ)) ρ fun _ => some (.nx ρ)
theorem ss_exprA (he : EE X T W e f) (hs : swapsWith e none pos.line X.env = pure false := by rfl) : SS X T W (.Expr e pos) (gDropA f) := PS.weak (ps_expr he hs) fun Dn σ H q => by
  obtain ⟨ρ, S, L, o, r, e, fin⟩ := q
  refine sA r e fin fun d v S' H' kp hi r' e' fin' => ?_
  cases e'
  exact fin' _ S' H' L r' Stp.refl
end
end EV
end

section
set_option maxHeartbeats 4000000
namespace LW
open PySem L2 EV
def top (i : Nat) : Stmt := PySem.Challenge.pw_millsluices_k06_lot_numbers_and_obstacle.main.body.getD i (.Pass ⟨0, 0, 0, 0⟩)
abbrev st_law_spoilt : Stmt := top 48
def d_law_spoilt : He.DefD := ⟨("_law_spoilt", none), "_law_spoilt", "_law_spoilt", defArgs st_law_spoilt, defBody st_law_spoilt, defScope st_law_spoilt, [], []⟩
abbrev st_law_digits : Stmt := top 37
def d_law_digits : He.DefD := ⟨("_law_digits", none), "_law_digits", "_law_digits", defArgs st_law_digits, defBody st_law_digits, defScope st_law_digits, [], []⟩
abbrev st_frozen : Stmt := top 2
def d_frozen : He.DefD := ⟨("frozen", none), "frozen", "frozen", defArgs st_frozen, defBody st_frozen, defScope st_frozen, [], []⟩
abbrev st_bad_index : Stmt := top 21
def d_bad_index : He.DefD := ⟨("bad_index", none), "bad_index", "bad_index", defArgs st_bad_index, defBody st_bad_index, defScope st_bad_index, [], []⟩
abbrev st_check_needs : Stmt := top 22
def d_check_needs : He.DefD := ⟨("check_needs", none), "check_needs", "check_needs", defArgs st_check_needs, defBody st_check_needs, defScope st_check_needs, [], []⟩
abbrev st_check_limits : Stmt := top 23
def d_check_limits : He.DefD := ⟨("check_limits", none), "check_limits", "check_limits", defArgs st_check_limits, defBody st_check_limits, defScope st_check_limits, [], []⟩
abbrev st_check_sides : Stmt := top 24
def d_check_sides : He.DefD := ⟨("check_sides", none), "check_sides", "check_sides", defArgs st_check_sides, defBody st_check_sides, defScope st_check_sides, [], []⟩
abbrev st_Season__init : Stmt := inClass (top 30) 0
def d_Season__init : He.DefD := ⟨("Season", some "__init__"), "__init__", "Season.__init__", defArgs st_Season__init, defBody st_Season__init, defScope st_Season__init, [], [("needs", .non), ("limits", .non), ("sides", .non)]⟩
abbrev st_check_pairs : Stmt := top 32
def d_check_pairs : He.DefD := ⟨("check_pairs", none), "check_pairs", "check_pairs", defArgs st_check_pairs, defBody st_check_pairs, defScope st_check_pairs, [], []⟩
abbrev st_Valley__init : Stmt := inClass (top 33) 0
def d_Valley__init : He.DefD := ⟨("Valley", some "__init__"), "__init__", "Valley.__init__", defArgs st_Valley__init, defBody st_Valley__init, defScope st_Valley__init, [.adr (He.dflAt ("Valley", some "__init__") 0)], []⟩
abbrev st_law_season : Stmt := top 42
def d_law_season : He.DefD := ⟨("_law_season", none), "_law_season", "_law_season", defArgs st_law_season, defBody st_law_season, defScope st_law_season, [], []⟩
abbrev st_law_sharing : Stmt := top 43
def d_law_sharing : He.DefD := ⟨("_law_sharing", none), "_law_sharing", "_law_sharing", defArgs st_law_sharing, defBody st_law_sharing, defScope st_law_sharing, [], []⟩
abbrev st_law_subsets : Stmt := top 41
def d_law_subsets : He.DefD := ⟨("_law_subsets", none), "_law_subsets", "_law_subsets", defArgs st_law_subsets, defBody st_law_subsets, defScope st_law_subsets, [], []⟩
abbrev st_law_lots : Stmt := top 52
def d_law_lots : He.DefD := ⟨("_law_lots", none), "_law_lots", "_law_lots", defArgs st_law_lots, defBody st_law_lots, defScope st_law_lots, [], []⟩
abbrev st_law_cell : Stmt := top 36
def d_law_cell : He.DefD := ⟨("_law_cell", none), "_law_cell", "_law_cell", defArgs st_law_cell, defBody st_law_cell, defScope st_law_cell, [], []⟩
abbrev st_law_fed : Stmt := top 39
def d_law_fed : He.DefD := ⟨("_law_fed", none), "_law_fed", "_law_fed", defArgs st_law_fed, defBody st_law_fed, defScope st_law_fed, [], []⟩
abbrev st_law_wide : Stmt := top 47
def d_law_wide : He.DefD := ⟨("_law_wide", none), "_law_wide", "_law_wide", defArgs st_law_wide, defBody st_law_wide, defScope st_law_wide, [], []⟩
abbrev st_law_valley : Stmt := top 38
def d_law_valley : He.DefD := ⟨("_law_valley", none), "_law_valley", "_law_valley", defArgs st_law_valley, defBody st_law_valley, defScope st_law_valley, [], []⟩
abbrev st_law_world : Stmt := top 40
def d_law_world : He.DefD := ⟨("_law_world", none), "_law_world", "_law_world", defArgs st_law_world, defBody st_law_world, defScope st_law_world, [], []⟩
abbrev st_law_drawn : Stmt := top 44
def d_law_drawn : He.DefD := ⟨("_law_drawn", none), "_law_drawn", "_law_drawn", defArgs st_law_drawn, defBody st_law_drawn, defScope st_law_drawn, [], []⟩
abbrev st_law_free : Stmt := top 45
def d_law_free : He.DefD := ⟨("_law_free", none), "_law_free", "_law_free", defArgs st_law_free, defBody st_law_free, defScope st_law_free, [], []⟩
abbrev st_law_small_world : Stmt := top 46
def d_law_small_world : He.DefD := ⟨("_law_small_world", none), "_law_small_world", "_law_small_world", defArgs st_law_small_world, defBody st_law_small_world, defScope st_law_small_world, [], []⟩
abbrev st_law_numbers : Stmt := top 49
def d_law_numbers : He.DefD := ⟨("_law_numbers", none), "_law_numbers", "_law_numbers", defArgs st_law_numbers, defBody st_law_numbers, defScope st_law_numbers, [], []⟩
abbrev st_law_levelled : Stmt := top 53
def d_law_levelled : He.DefD := ⟨("_law_levelled", none), "_law_levelled", "_law_levelled", defArgs st_law_levelled, defBody st_law_levelled, defScope st_law_levelled, [], []⟩
abbrev st_ascending : Stmt := top 3
def d_ascending : He.DefD := ⟨("ascending", none), "ascending", "ascending", defArgs st_ascending, defBody st_ascending, defScope st_ascending, [], []⟩
abbrev st_bear : Stmt := top 9
def d_bear : He.DefD := ⟨("bear", none), "bear", "bear", defArgs st_bear, defBody st_bear, defScope st_bear, [], []⟩
abbrev st_want : Stmt := top 8
def d_want : He.DefD := ⟨("want", none), "want", "want", defArgs st_want, defBody st_want, defScope st_want, [], []⟩
abbrev st_sides_to : Stmt := top 5
def d_sides_to : He.DefD := ⟨("sides_to", none), "sides_to", "sides_to", defArgs st_sides_to, defBody st_sides_to, defScope st_sides_to, [], []⟩
abbrev st_gain : Stmt := top 6
def d_gain : He.DefD := ⟨("gain", none), "gain", "gain", defArgs st_gain, defBody st_gain, defScope st_gain, [], []⟩
abbrev st_load : Stmt := top 7
def d_load : He.DefD := ⟨("load", none), "load", "load", defArgs st_load, defBody st_load, defScope st_load, [], []⟩
abbrev st_is_obstacle : Stmt := top 10
def d_is_obstacle : He.DefD := ⟨("is_obstacle", none), "is_obstacle", "is_obstacle", defArgs st_is_obstacle, defBody st_is_obstacle, defScope st_is_obstacle, [], []⟩
abbrev st_law_single : Stmt := top 54
def d_law_single : He.DefD := ⟨("_law_single", none), "_law_single", "_law_single", defArgs st_law_single, defBody st_law_single, defScope st_law_single, [], []⟩
abbrev st_law_singles : Stmt := top 55
def d_law_singles : He.DefD := ⟨("_law_singles", none), "_law_singles", "_law_singles", defArgs st_law_singles, defBody st_law_singles, defScope st_law_singles, [], []⟩
abbrev st_law_kept : Stmt := top 50
def d_law_kept : He.DefD := ⟨("_law_kept", none), "_law_kept", "_law_kept", defArgs st_law_kept, defBody st_law_kept, defScope st_law_kept, [], []⟩
abbrev st_law_whole : Stmt := top 35
def d_law_whole : He.DefD := ⟨("_law_whole", none), "_law_whole", "_law_whole", defArgs st_law_whole, defBody st_law_whole, defScope st_law_whole, [], []⟩
abbrev st_law_right : Stmt := top 56
def d_law_right : He.DefD := ⟨("_law_right", none), "_law_right", "_law_right", defArgs st_law_right, defBody st_law_right, defScope st_law_right, [], []⟩
abbrev st_law_both : Stmt := top 57
def d_law_both : He.DefD := ⟨("_law_both", none), "_law_both", "_law_both", defArgs st_law_both, defBody st_law_both, defScope st_law_both, [], []⟩
abbrev st_law_shown : Stmt := top 51
def d_law_shown : He.DefD := ⟨("_law_shown", none), "_law_shown", "_law_shown", defArgs st_law_shown, defBody st_law_shown, defScope st_law_shown, [], []⟩
abbrev st_law : Stmt := top 58
def d_law : He.DefD := ⟨("law", none), "law", "law", defArgs st_law, defBody st_law, defScope st_law, [], []⟩
def fn : List He.DefD := [d_law_spoilt, d_law_digits, d_frozen, d_bad_index, d_check_needs, d_check_limits, d_check_sides, d_Season__init, d_check_pairs, d_Valley__init, d_law_season, d_law_sharing, d_law_subsets, d_law_lots, d_law_cell, d_law_fed, d_law_wide, d_law_valley, d_law_world, d_law_drawn, d_law_free, d_law_small_world, d_law_numbers, d_law_levelled, d_ascending, d_bear, d_want, d_sides_to, d_gain, d_load, d_is_obstacle, d_law_single, d_law_singles, d_law_kept, d_law_whole, d_law_right, d_law_both, d_law_shown, d_law]
def fa : List He.Fa := [.glo "_law_spoilt", .glo "_law_digits", .glo "frozen", .glo "bad_index", .glo "check_needs", .glo "check_limits", .glo "check_sides", .glo "check_pairs", .glo "_law_season", .glo "_law_sharing", .glo "_law_subsets", .glo "_law_lots", .glo "_law_cell", .glo "_law_fed", .glo "_law_wide", .glo "_law_valley", .glo "_law_world", .glo "_law_drawn", .glo "_law_free", .glo "_law_small_world", .glo "_law_numbers", .glo "_law_levelled", .glo "ascending", .glo "bear", .glo "want", .glo "sides_to", .glo "gain", .glo "load", .glo "is_obstacle", .glo "_law_single", .glo "_law_singles", .glo "_law_kept", .glo "_law_whole", .glo "_law_right", .glo "_law_both", .glo "_law_shown", .glo "law", .glo "Season", .glo "Valley", .free "bool", .free "enumerate", .free "int", .free "isinstance", .free "len", .free "list", .free "max", .free "min", .free "range", .free "set", .free "sorted", .free "sum", .free "tuple", .cls "Season", .cls "Valley", .noat "Season" "limits", .noat "Season" "needs", .noat "Season" "sides", .noat "Season" "valley", .noat "Valley" "mills", .noat "Valley" "sluices", .mkr "Season", .mkr "Valley"]
def clsN : Nat → Str
  | 0 => "SluiceError"
  | 1 => "BadSluice"
  | 2 => "BadNeed"
  | 3 => "BadLimit"
  | 4 => "BadSides"
  | 5 => "ValleysDiffer"
  | 6 => "Season"
  | 7 => "Valley"
  | _ => ""
def fldN : Nat → List Str
  | 0 => []
  | 1 => ["index"]
  | 2 => ["index"]
  | 3 => ["index"]
  | 4 => ["index"]
  | 5 => []
  | 6 => ["valley", "needs", "limits", "sides"]
  | 7 => ["mills", "sluices"]
  | _ => []
abbrev tab (K : PySem.W.Frag) : EV.Tab := ⟨K, fun i => He.ga K (clsN i), fldN⟩
def c_BOTH : D := .tup [.int 0, .int 1]
def c_LET_SIDES : D := .tup [.tup [.int 0, .int 1], .tup [.int 0], .tup [.int 1], .tup []]
def chk (K : PySem.W.Frag) : Bool := kC K "BOTH" c_BOTH && kC K "LET_SIDES" c_LET_SIDES
structure Says (K : PySem.W.Frag) : Prop where
  d : He.SaysD fa fn K
  k : chk K = true
theorem Says.fn {K : PySem.W.Frag} (c : Says K) (i : Nat) {d : He.DefD} (h : LW.fn[i]? = some d := by rfl) : ∃ fd, FunD K d.name d.qual d.params d.body d.scope (d.dvs K) (d.kws K) (He.fAd K d.at_) fd := c.d.def_ i h
structure Hyp (K : PySem.W.Frag) (mg : Str → Option Value) : Prop where
  says : Says K
  ns : ∃ h : Heap, K.In h ∧ h.Ns mainGlobals mg
section
variable {K : PySem.W.Frag} {mg : Str → Option Value}
theorem glo__law_spoilt (hy : Hyp K mg) : mg "_law_spoilt" = some (.ref (He.ga K "_law_spoilt")) := let ⟨_, X, G⟩ := hy.ns; He.glo_ok X G (hy.says.d.fact 0 (f := .glo "_law_spoilt") rfl)
theorem glo__law_digits (hy : Hyp K mg) : mg "_law_digits" = some (.ref (He.ga K "_law_digits")) := let ⟨_, X, G⟩ := hy.ns; He.glo_ok X G (hy.says.d.fact 1 (f := .glo "_law_digits") rfl)
theorem glo_frozen (hy : Hyp K mg) : mg "frozen" = some (.ref (He.ga K "frozen")) := let ⟨_, X, G⟩ := hy.ns; He.glo_ok X G (hy.says.d.fact 2 (f := .glo "frozen") rfl)
theorem glo_bad_index (hy : Hyp K mg) : mg "bad_index" = some (.ref (He.ga K "bad_index")) := let ⟨_, X, G⟩ := hy.ns; He.glo_ok X G (hy.says.d.fact 3 (f := .glo "bad_index") rfl)
theorem glo_check_needs (hy : Hyp K mg) : mg "check_needs" = some (.ref (He.ga K "check_needs")) := let ⟨_, X, G⟩ := hy.ns; He.glo_ok X G (hy.says.d.fact 4 (f := .glo "check_needs") rfl)
theorem glo_check_limits (hy : Hyp K mg) : mg "check_limits" = some (.ref (He.ga K "check_limits")) := let ⟨_, X, G⟩ := hy.ns; He.glo_ok X G (hy.says.d.fact 5 (f := .glo "check_limits") rfl)
theorem glo_check_sides (hy : Hyp K mg) : mg "check_sides" = some (.ref (He.ga K "check_sides")) := let ⟨_, X, G⟩ := hy.ns; He.glo_ok X G (hy.says.d.fact 6 (f := .glo "check_sides") rfl)
theorem glo_check_pairs (hy : Hyp K mg) : mg "check_pairs" = some (.ref (He.ga K "check_pairs")) := let ⟨_, X, G⟩ := hy.ns; He.glo_ok X G (hy.says.d.fact 7 (f := .glo "check_pairs") rfl)
theorem glo__law_season (hy : Hyp K mg) : mg "_law_season" = some (.ref (He.ga K "_law_season")) := let ⟨_, X, G⟩ := hy.ns; He.glo_ok X G (hy.says.d.fact 8 (f := .glo "_law_season") rfl)
theorem glo__law_sharing (hy : Hyp K mg) : mg "_law_sharing" = some (.ref (He.ga K "_law_sharing")) := let ⟨_, X, G⟩ := hy.ns; He.glo_ok X G (hy.says.d.fact 9 (f := .glo "_law_sharing") rfl)
theorem glo__law_subsets (hy : Hyp K mg) : mg "_law_subsets" = some (.ref (He.ga K "_law_subsets")) := let ⟨_, X, G⟩ := hy.ns; He.glo_ok X G (hy.says.d.fact 10 (f := .glo "_law_subsets") rfl)
theorem glo__law_lots (hy : Hyp K mg) : mg "_law_lots" = some (.ref (He.ga K "_law_lots")) := let ⟨_, X, G⟩ := hy.ns; He.glo_ok X G (hy.says.d.fact 11 (f := .glo "_law_lots") rfl)
theorem glo__law_cell (hy : Hyp K mg) : mg "_law_cell" = some (.ref (He.ga K "_law_cell")) := let ⟨_, X, G⟩ := hy.ns; He.glo_ok X G (hy.says.d.fact 12 (f := .glo "_law_cell") rfl)
theorem glo__law_fed (hy : Hyp K mg) : mg "_law_fed" = some (.ref (He.ga K "_law_fed")) := let ⟨_, X, G⟩ := hy.ns; He.glo_ok X G (hy.says.d.fact 13 (f := .glo "_law_fed") rfl)
theorem glo__law_wide (hy : Hyp K mg) : mg "_law_wide" = some (.ref (He.ga K "_law_wide")) := let ⟨_, X, G⟩ := hy.ns; He.glo_ok X G (hy.says.d.fact 14 (f := .glo "_law_wide") rfl)
theorem glo__law_valley (hy : Hyp K mg) : mg "_law_valley" = some (.ref (He.ga K "_law_valley")) := let ⟨_, X, G⟩ := hy.ns; He.glo_ok X G (hy.says.d.fact 15 (f := .glo "_law_valley") rfl)
theorem glo__law_world (hy : Hyp K mg) : mg "_law_world" = some (.ref (He.ga K "_law_world")) := let ⟨_, X, G⟩ := hy.ns; He.glo_ok X G (hy.says.d.fact 16 (f := .glo "_law_world") rfl)
theorem glo__law_drawn (hy : Hyp K mg) : mg "_law_drawn" = some (.ref (He.ga K "_law_drawn")) := let ⟨_, X, G⟩ := hy.ns; He.glo_ok X G (hy.says.d.fact 17 (f := .glo "_law_drawn") rfl)
theorem glo__law_free (hy : Hyp K mg) : mg "_law_free" = some (.ref (He.ga K "_law_free")) := let ⟨_, X, G⟩ := hy.ns; He.glo_ok X G (hy.says.d.fact 18 (f := .glo "_law_free") rfl)
theorem glo__law_small_world (hy : Hyp K mg) : mg "_law_small_world" = some (.ref (He.ga K "_law_small_world")) := let ⟨_, X, G⟩ := hy.ns; He.glo_ok X G (hy.says.d.fact 19 (f := .glo "_law_small_world") rfl)
theorem glo__law_numbers (hy : Hyp K mg) : mg "_law_numbers" = some (.ref (He.ga K "_law_numbers")) := let ⟨_, X, G⟩ := hy.ns; He.glo_ok X G (hy.says.d.fact 20 (f := .glo "_law_numbers") rfl)
theorem glo__law_levelled (hy : Hyp K mg) : mg "_law_levelled" = some (.ref (He.ga K "_law_levelled")) := let ⟨_, X, G⟩ := hy.ns; He.glo_ok X G (hy.says.d.fact 21 (f := .glo "_law_levelled") rfl)
theorem glo_ascending (hy : Hyp K mg) : mg "ascending" = some (.ref (He.ga K "ascending")) := let ⟨_, X, G⟩ := hy.ns; He.glo_ok X G (hy.says.d.fact 22 (f := .glo "ascending") rfl)
theorem glo_bear (hy : Hyp K mg) : mg "bear" = some (.ref (He.ga K "bear")) := let ⟨_, X, G⟩ := hy.ns; He.glo_ok X G (hy.says.d.fact 23 (f := .glo "bear") rfl)
theorem glo_want (hy : Hyp K mg) : mg "want" = some (.ref (He.ga K "want")) := let ⟨_, X, G⟩ := hy.ns; He.glo_ok X G (hy.says.d.fact 24 (f := .glo "want") rfl)
theorem glo_sides_to (hy : Hyp K mg) : mg "sides_to" = some (.ref (He.ga K "sides_to")) := let ⟨_, X, G⟩ := hy.ns; He.glo_ok X G (hy.says.d.fact 25 (f := .glo "sides_to") rfl)
theorem glo_gain (hy : Hyp K mg) : mg "gain" = some (.ref (He.ga K "gain")) := let ⟨_, X, G⟩ := hy.ns; He.glo_ok X G (hy.says.d.fact 26 (f := .glo "gain") rfl)
theorem glo_load (hy : Hyp K mg) : mg "load" = some (.ref (He.ga K "load")) := let ⟨_, X, G⟩ := hy.ns; He.glo_ok X G (hy.says.d.fact 27 (f := .glo "load") rfl)
theorem glo_is_obstacle (hy : Hyp K mg) : mg "is_obstacle" = some (.ref (He.ga K "is_obstacle")) := let ⟨_, X, G⟩ := hy.ns; He.glo_ok X G (hy.says.d.fact 28 (f := .glo "is_obstacle") rfl)
theorem glo__law_single (hy : Hyp K mg) : mg "_law_single" = some (.ref (He.ga K "_law_single")) := let ⟨_, X, G⟩ := hy.ns; He.glo_ok X G (hy.says.d.fact 29 (f := .glo "_law_single") rfl)
theorem glo__law_singles (hy : Hyp K mg) : mg "_law_singles" = some (.ref (He.ga K "_law_singles")) := let ⟨_, X, G⟩ := hy.ns; He.glo_ok X G (hy.says.d.fact 30 (f := .glo "_law_singles") rfl)
theorem glo__law_kept (hy : Hyp K mg) : mg "_law_kept" = some (.ref (He.ga K "_law_kept")) := let ⟨_, X, G⟩ := hy.ns; He.glo_ok X G (hy.says.d.fact 31 (f := .glo "_law_kept") rfl)
theorem glo__law_whole (hy : Hyp K mg) : mg "_law_whole" = some (.ref (He.ga K "_law_whole")) := let ⟨_, X, G⟩ := hy.ns; He.glo_ok X G (hy.says.d.fact 32 (f := .glo "_law_whole") rfl)
theorem glo__law_right (hy : Hyp K mg) : mg "_law_right" = some (.ref (He.ga K "_law_right")) := let ⟨_, X, G⟩ := hy.ns; He.glo_ok X G (hy.says.d.fact 33 (f := .glo "_law_right") rfl)
theorem glo__law_both (hy : Hyp K mg) : mg "_law_both" = some (.ref (He.ga K "_law_both")) := let ⟨_, X, G⟩ := hy.ns; He.glo_ok X G (hy.says.d.fact 34 (f := .glo "_law_both") rfl)
theorem glo__law_shown (hy : Hyp K mg) : mg "_law_shown" = some (.ref (He.ga K "_law_shown")) := let ⟨_, X, G⟩ := hy.ns; He.glo_ok X G (hy.says.d.fact 35 (f := .glo "_law_shown") rfl)
theorem glo_law (hy : Hyp K mg) : mg "law" = some (.ref (He.ga K "law")) := let ⟨_, X, G⟩ := hy.ns; He.glo_ok X G (hy.says.d.fact 36 (f := .glo "law") rfl)
theorem glo_Season (hy : Hyp K mg) : mg "Season" = some (.ref (He.ga K "Season")) := let ⟨_, X, G⟩ := hy.ns; He.glo_ok X G (hy.says.d.fact 37 (f := .glo "Season") rfl)
theorem glo_Valley (hy : Hyp K mg) : mg "Valley" = some (.ref (He.ga K "Valley")) := let ⟨_, X, G⟩ := hy.ns; He.glo_ok X G (hy.says.d.fact 38 (f := .glo "Valley") rfl)
theorem free_bool (hy : Hyp K mg) : mg "bool" = none := let ⟨_, X, G⟩ := hy.ns; He.free_ok X G (hy.says.d.fact 39 (f := .free "bool") rfl)
theorem free_enumerate (hy : Hyp K mg) : mg "enumerate" = none := let ⟨_, X, G⟩ := hy.ns; He.free_ok X G (hy.says.d.fact 40 (f := .free "enumerate") rfl)
theorem free_int (hy : Hyp K mg) : mg "int" = none := let ⟨_, X, G⟩ := hy.ns; He.free_ok X G (hy.says.d.fact 41 (f := .free "int") rfl)
theorem free_isinstance (hy : Hyp K mg) : mg "isinstance" = none := let ⟨_, X, G⟩ := hy.ns; He.free_ok X G (hy.says.d.fact 42 (f := .free "isinstance") rfl)
theorem free_len (hy : Hyp K mg) : mg "len" = none := let ⟨_, X, G⟩ := hy.ns; He.free_ok X G (hy.says.d.fact 43 (f := .free "len") rfl)
theorem free_list (hy : Hyp K mg) : mg "list" = none := let ⟨_, X, G⟩ := hy.ns; He.free_ok X G (hy.says.d.fact 44 (f := .free "list") rfl)
theorem free_max (hy : Hyp K mg) : mg "max" = none := let ⟨_, X, G⟩ := hy.ns; He.free_ok X G (hy.says.d.fact 45 (f := .free "max") rfl)
theorem free_min (hy : Hyp K mg) : mg "min" = none := let ⟨_, X, G⟩ := hy.ns; He.free_ok X G (hy.says.d.fact 46 (f := .free "min") rfl)
theorem free_range (hy : Hyp K mg) : mg "range" = none := let ⟨_, X, G⟩ := hy.ns; He.free_ok X G (hy.says.d.fact 47 (f := .free "range") rfl)
theorem free_set (hy : Hyp K mg) : mg "set" = none := let ⟨_, X, G⟩ := hy.ns; He.free_ok X G (hy.says.d.fact 48 (f := .free "set") rfl)
theorem free_sorted (hy : Hyp K mg) : mg "sorted" = none := let ⟨_, X, G⟩ := hy.ns; He.free_ok X G (hy.says.d.fact 49 (f := .free "sorted") rfl)
theorem free_sum (hy : Hyp K mg) : mg "sum" = none := let ⟨_, X, G⟩ := hy.ns; He.free_ok X G (hy.says.d.fact 50 (f := .free "sum") rfl)
theorem free_tuple (hy : Hyp K mg) : mg "tuple" = none := let ⟨_, X, G⟩ := hy.ns; He.free_ok X G (hy.says.d.fact 51 (f := .free "tuple") rfl)
theorem cls_Season (hy : Hyp K mg) : Cls K (He.ga K "Season") := He.cls_ok (hy.says.d.fact 52 (f := .cls "Season") rfl)
theorem cls_Valley (hy : Hyp K mg) : Cls K (He.ga K "Valley") := He.cls_ok (hy.says.d.fact 53 (f := .cls "Valley") rfl)
theorem noat_Season_limits (hy : Hyp K mg) : NoAttr K (He.ga K "Season") "limits" := He.noat_ok (hy.says.d.fact 54 (f := .noat "Season" "limits") rfl)
theorem fld_Season_limits (hy : Hyp K mg) : Fld (tab K) 6 2 "limits" := ⟨cls_Season hy, noat_Season_limits hy, rfl, (show ¬ ("limits" : Str) ∈ List.take 2 (fldN 6) by decide), (show (fldN 6).length ≤ 900 by decide)⟩
theorem noat_Season_needs (hy : Hyp K mg) : NoAttr K (He.ga K "Season") "needs" := He.noat_ok (hy.says.d.fact 55 (f := .noat "Season" "needs") rfl)
theorem fld_Season_needs (hy : Hyp K mg) : Fld (tab K) 6 1 "needs" := ⟨cls_Season hy, noat_Season_needs hy, rfl, (show ¬ ("needs" : Str) ∈ List.take 1 (fldN 6) by decide), (show (fldN 6).length ≤ 900 by decide)⟩
theorem noat_Season_sides (hy : Hyp K mg) : NoAttr K (He.ga K "Season") "sides" := He.noat_ok (hy.says.d.fact 56 (f := .noat "Season" "sides") rfl)
theorem fld_Season_sides (hy : Hyp K mg) : Fld (tab K) 6 3 "sides" := ⟨cls_Season hy, noat_Season_sides hy, rfl, (show ¬ ("sides" : Str) ∈ List.take 3 (fldN 6) by decide), (show (fldN 6).length ≤ 900 by decide)⟩
theorem noat_Season_valley (hy : Hyp K mg) : NoAttr K (He.ga K "Season") "valley" := He.noat_ok (hy.says.d.fact 57 (f := .noat "Season" "valley") rfl)
theorem fld_Season_valley (hy : Hyp K mg) : Fld (tab K) 6 0 "valley" := ⟨cls_Season hy, noat_Season_valley hy, rfl, (show ¬ ("valley" : Str) ∈ List.take 0 (fldN 6) by decide), (show (fldN 6).length ≤ 900 by decide)⟩
theorem noat_Valley_mills (hy : Hyp K mg) : NoAttr K (He.ga K "Valley") "mills" := He.noat_ok (hy.says.d.fact 58 (f := .noat "Valley" "mills") rfl)
theorem fld_Valley_mills (hy : Hyp K mg) : Fld (tab K) 7 0 "mills" := ⟨cls_Valley hy, noat_Valley_mills hy, rfl, (show ¬ ("mills" : Str) ∈ List.take 0 (fldN 7) by decide), (show (fldN 7).length ≤ 900 by decide)⟩
theorem noat_Valley_sluices (hy : Hyp K mg) : NoAttr K (He.ga K "Valley") "sluices" := He.noat_ok (hy.says.d.fact 59 (f := .noat "Valley" "sluices") rfl)
theorem fld_Valley_sluices (hy : Hyp K mg) : Fld (tab K) 7 1 "sluices" := ⟨cls_Valley hy, noat_Valley_sluices hy, rfl, (show ¬ ("sluices" : Str) ∈ List.take 1 (fldN 7) by decide), (show (fldN 7).length ≤ 900 by decide)⟩
theorem mk_Season (hy : Hyp K mg) : Mk K (He.ga K "Season") (He.ma K (He.ga K "Season") "__init__") := He.mkr_ok (hy.says.d.fact 60 (f := .mkr "Season") rfl)
theorem mk_Valley (hy : Hyp K mg) : Mk K (He.ga K "Valley") (He.ma K (He.ga K "Valley") "__init__") := He.mkr_ok (hy.says.d.fact 61 (f := .mkr "Valley") rfl)
theorem con_BOTH (hy : Hyp K mg) : ∃ u v, mg "BOTH" = some u ∧ RelV v u ∧ ∀ H, Is (tab K) H v c_BOTH := let ⟨_, X, G⟩ := hy.ns; kC_ok (T := tab K) X G ((and2 hy.says.k).1)
theorem con_LET_SIDES (hy : Hyp K mg) : ∃ u v, mg "LET_SIDES" = some u ∧ RelV v u ∧ ∀ H, Is (tab K) H v c_LET_SIDES := let ⟨_, X, G⟩ := hy.ns; kC_ok (T := tab K) X G ((and2 hy.says.k).2)
end
end LW
end

section
set_option maxHeartbeats 4000000
namespace LW
open PySem L2 EV
open PySem.Spec PyProof.Rows
def loose0 : List Str := ["_wall", "frozen", "ascending", "sides_to", "gain", "load", "want", "bear", "is_obstacle", "SluiceError", "BadSluice", "BadNeed", "BadLimit", "BadSides", "ValleysDiffer", "BOTH", "LET_SIDES", "bad_index", "check_needs", "check_limits", "check_sides", "smaller_limit", "larger_limit", "common_sides", "joint_sides", "require_valley", "Season", "check_pairs", "Valley", "_law_whole"]
def loose1 : List Str := ["_law_cell", "_law_digits", "_law_valley", "_law_fed", "_law_world", "_law_subsets", "_law_season", "_law_sharing", "_law_drawn", "_law_free", "_law_small_world", "_law_wide", "_law_spoilt", "_law_numbers", "_law_kept", "_law_shown", "_law_lots", "_law_levelled", "_law_single", "_law_singles", "_law_right", "_law_both"]
def loose : List Str := loose0 ++ loose1
abbrev RowL : PySem.W.OpenRow := PySem.W.OpenLaw.row PySem.Challenge.rw_millsluices_k06_lot_numbers_and_obstacle
def obA (K : PySem.W.Frag) : He.AlD × Bool := (He.obsD fa fn K, chk K)
def obG (n : Nat) (g : Addr → Option Obj) : He.AlD × Bool := obA (He.frG g (He.asD g n))
def hk : PySem.W.Hook where
  α := He.AlD × Bool
  obs := fun s => obG 6 s.heap.get?
  val := fun _ => (He.valD fn, true)
  says := fun _ h => ∃ K : PySem.W.Frag, K.In h ∧ Says K
  of := fun _ _ e => ⟨_, He.frG_in, congrArg Prod.fst e, congrArg Prod.snd e⟩
  keeps := fun _ _ _ ⟨K, hK, c⟩ k => ⟨K, PySem.W.Frag.In.keeps hK k, c⟩
def ob (s : PySem.W.SharedT) : He.AlD × Bool := obG 6 (HandSHeadRun.getT s)
theorem ob_eq (s : PySem.W.SharedT) : ob s = hk.obs s.abs := by
  have e : HandSHeadRun.getT s = s.abs.heap.get? := funext fun a => HandSHeadRun.getT_eq s a
  show obG 6 (HandSHeadRun.getT s) = obG 6 s.abs.heap.get?
  rw [e]
theorem run (w : World) : HandSHeadRun.RunEq RowL (PySem.W.view RowL.prog [58]) hk ob 9000 loose w := by
  intro os
  kernel_rfl
end LW
end

section
set_option maxHeartbeats 4000000
/-! EV13: the end: a law's def whose promise may lean on the World. -/
namespace EV
open PySem PySem.Spec PyProof.Rows L2
theorem walk_end {l : PySem.W.OpenLaw} {n k : Nat} {q : Program} {loose : List Str} {XP : (Str → Option Value) → Heap → Prop} {YP : World → Heap → Prop} {d : DefRec} {x : Str} (C : World → CXT)
    (h1 : l.most = some n) (h2 : n ≤ sizeLine) (h3 : d.params.defaults = []) (h4 : Room k callerA)
    (F : ∀ (w : World) (mg : Str → Option Value) (fa : Addr) (h : Heap), YP w h → h.Ns mainGlobals mg → mg d.name = some (.ref fa) →
      ∃ (K : PySem.W.Frag) (fd : FuncData) (sp : Sp), K.In h ∧ (∀ (s : Shared) (u : Value), BindsTo s fd ⟨[u], []⟩ [(x, u)]) ∧
        (∀ (H : Hp) (a : Addr) (ms : List Int), ms.length ≤ n → SqL K H a (ms.map V.int) → sp [.ref a] H (fun v _ => v = .bl true) fun _ _ _ => False) ∧
        ∀ g : Heap, K.In g → g.Ns mainGlobals mg → FnOk l.prog w K mg g (C w) k fa fd [x] sp)
    (hC : ∀ (w : World) (H : Hp) (s : Shared) (e : Value) (s' : Shared), C w [] H s (fun _ _ _ => False) e s' → False) : PySem.W.WalkO q loose XP YP l.row.toRowW d [] (fun f vs => PySem.call f vs) := by
  refine Att.attach_call h1 h3 fun w sa sb mg mb fa o pm cd doc a vs ms G Y ho hd hcd hmg hobj hints hlen hg => ?_
  obtain ⟨K, fd, sp, KX, hb, hsp, hF⟩ := F w mg fa _ Y G.T.g hmg
  refine law_call KX G.T.g G.T.b G.T.builtins G.T.nolimit hg hobj hints (Nat.le_trans hlen h2) h4 hF hb ?_ ?_
  · exact fun H _ hS => hsp H a ms hlen hS
  · exact fun H e s' => hC w H sb e s'
end EV
end

section
set_option maxHeartbeats 4000000
/-! EV14: reasoning about the pure functions. -/
namespace EV
open PySem L2

abbrev Ev (f : FE) (ρ : Env) (d : D) : Prop := f ρ = some (.ok d)
abbrev EvL (f : FL) (ρ : Env) (ds : List D) : Prop := f ρ = some (.ok ds)
section
variable {f fa fb fc : FE} {fs fr fk : FL} {ρ : Env} {i j : Int} {P Q : Prop} {d d' p q : D} {ds es : List D}
theorem Ev.var {k : Nat} (h : ρ[k]? = some (.v d)) : Ev (vVar k) ρ d := by unfold Ev vVar; rw [h]
theorem Ev.c : Ev (vC d) ρ d := rfl
theorem Ev.v2 {o : D → D → Option D} (ha : Ev fa ρ p) (hb : Ev fb ρ q) (h : o p q = some d) : Ev (v2 o fa fb) ρ d := by
  unfold Ev EV.v2; rw [ha, hb]; simp [h]
theorem Ev.v1 {o : D → Option D} (ha : Ev fa ρ p) (h : o p = some d) : Ev (v1 o fa) ρ d := by
  unfold Ev EV.v1; rw [ha]; simp [h]
theorem Ev.add (ha : Ev fa ρ (.int i)) (hb : Ev fb ρ (.int j)) : Ev (EV.v2 addD fa fb) ρ (.int (i + j)) := .v2 ha hb rfl
theorem Ev.addT (ha : Ev fa ρ (.tup ds)) (hb : Ev fb ρ (.tup es)) (h : ds.length + es.length ≤ 100000) : Ev (EV.v2 addD fa fb) ρ (.tup (ds ++ es)) := .v2 ha hb (by simp [addD, h])
theorem Ev.addL (ha : Ev fa ρ (.lst ds)) (hb : Ev fb ρ (.lst es)) (h : ds.length + es.length ≤ 100000) : Ev (EV.v2 addD fa fb) ρ (.lst (ds ++ es)) := .v2 ha hb (by simp [addD, h])
theorem Ev.sub (ha : Ev fa ρ (.int i)) (hb : Ev fb ρ (.int j)) : Ev (EV.v2 subD fa fb) ρ (.int (i - j)) := .v2 ha hb rfl
theorem Ev.mulR (ha : Ev fa ρ (.int i)) (hb : Ev fb ρ (.int j)) (h : -18446744073709551616 < j ∧ j < 18446744073709551616) : Ev (EV.v2 mulD fa fb) ρ (.int (i * j)) := .v2 ha hb (if_pos (.inr (by omega)))
theorem Ev.mulL (ha : Ev fa ρ (.int i)) (hb : Ev fb ρ (.int j)) (h : -18446744073709551616 < i ∧ i < 18446744073709551616) : Ev (EV.v2 mulD fa fb) ρ (.int (i * j)) := .v2 ha hb (if_pos (.inl (by omega)))
theorem Ev.mod (ha : Ev fa ρ (.int i)) (hb : Ev fb ρ (.int j)) (h : 0 < j) : Ev (EV.v2 modD fa fb) ρ (.int (i % j)) := .v2 ha hb (if_pos h)
theorem Ev.fdiv (ha : Ev fa ρ (.int i)) (hb : Ev fb ρ (.int j)) (h : 0 < j ∧ j < 1073741824) : Ev (EV.v2 fdivD fa fb) ρ (.int (i / j)) := .v2 ha hb (if_pos h)
theorem Ev.pow (ha : Ev fa ρ (.int i)) (hb : Ev fb ρ (.int j)) (h : 0 ≤ j ∧ j ≤ 1000000 ∧ i.natAbs < 2 ^ 64) : Ev (EV.v2 powD fa fb) ρ (.int (i ^ j.toNat)) := .v2 ha hb (if_pos h)
theorem Ev.neg (ha : Ev fa ρ (.int i)) : Ev (EV.v1 negD fa) ρ (.int (-i)) := .v1 ha rfl
theorem Ev.lt (ha : Ev fa ρ (.int i)) (hb : Ev fb ρ (.int j)) : Ev (EV.v2 ltD fa fb) ρ (.bl (decide (i < j))) := .v2 ha hb rfl
theorem Ev.le (ha : Ev fa ρ (.int i)) (hb : Ev fb ρ (.int j)) : Ev (EV.v2 leD fa fb) ρ (.bl (decide (i ≤ j))) := .v2 ha hb rfl
theorem Ev.gt (ha : Ev fa ρ (.int i)) (hb : Ev fb ρ (.int j)) : Ev (EV.v2 gtD fa fb) ρ (.bl (decide (j < i))) := .v2 ha hb rfl
theorem Ev.ge (ha : Ev fa ρ (.int i)) (hb : Ev fb ρ (.int j)) : Ev (EV.v2 geD fa fb) ρ (.bl (decide (j ≤ i))) := .v2 ha hb rfl
theorem Ev.eqI (ha : Ev fa ρ (.int i)) (hb : Ev fb ρ (.int j)) : Ev (EV.v2 eqD fa fb) ρ (.bl (decide (i = j))) := .v2 ha hb (by
  simp only [eqD, D.pl, D.eqv, Bool.and_self, if_true]
  congr 2)
theorem Ev.neI (ha : Ev fa ρ (.int i)) (hb : Ev fb ρ (.int j)) : Ev (EV.v2 neD fa fb) ρ (.bl (decide (i ≠ j))) := .v2 ha hb (by
  simp only [neD, D.pl, D.eqv, Bool.and_self, if_true]
  congr 2
  rw [decide_not]
  congr 1)
theorem Ev.eq (ha : Ev fa ρ p) (hb : Ev fb ρ q) (hp : D.pl 8 p = true) (hq : D.pl 8 q = true) : Ev (EV.v2 eqD fa fb) ρ (.bl (D.eqv p q)) := .v2 ha hb (by simp [eqD, hp, hq])
theorem Ev.ne (ha : Ev fa ρ p) (hb : Ev fb ρ q) (hp : D.pl 8 p = true) (hq : D.pl 8 q = true) : Ev (EV.v2 neD fa fb) ρ (.bl (!D.eqv p q)) := .v2 ha hb (by simp [neD, hp, hq])
theorem Ev.isN (ha : Ev fa ρ p) : Ev (EV.v2 isNonD fa (vC .non)) ρ (.bl (decide (p.isNon = true))) := .v2 ha .c (by
  show some (D.bl p.isNon) = _
  cases p.isNon <;> rfl)
theorem Ev.notN (ha : Ev fa ρ p) : Ev (EV.v2 notNonD fa (vC .non)) ρ (.bl (decide (¬ p.isNon = true))) := .v2 ha .c (by
  show some (D.bl (!p.isNon)) = _
  cases p.isNon <;> rfl)
theorem Ev.notP {iP : Decidable P} (ha : Ev fa ρ (.bl (decide P))) : Ev (EV.v1 notD fa) ρ (.bl (decide (¬ P))) := .v1 ha (by
  show some (D.bl (!decide P)) = _
  rw [decide_not])
theorem Ev.andP {iP : Decidable P} {iQ : Decidable Q} (ha : Ev fa ρ (.bl (decide P))) (hb : P → Ev fb ρ (.bl (decide Q))) : Ev (vAnd fa fb) ρ (.bl (decide (P ∧ Q))) := by
  by_cases h : P
  · have hb := hb h
    unfold Ev vAnd
    rw [ha, decide_eq_true h]
    show fb ρ = _
    rw [hb]
    simp [h]
  · unfold Ev vAnd
    rw [ha]
    simp [h]
theorem Ev.orP {iP : Decidable P} {iQ : Decidable Q} (ha : Ev fa ρ (.bl (decide P))) (hb : ¬ P → Ev fb ρ (.bl (decide Q))) : Ev (vOr fa fb) ρ (.bl (decide (P ∨ Q))) := by
  by_cases h : P
  · unfold Ev vOr
    rw [ha]
    simp [h]
  · have hb := hb h
    unfold Ev vOr
    rw [ha, decide_eq_false h]
    show fb ρ = _
    rw [hb]
    simp [h]
theorem Ev.ifP {iP : Decidable P} (hc : Ev fc ρ (.bl (decide P))) (ha : P → Ev fa ρ d) (hb : ¬ P → Ev fb ρ d') : Ev (vIf fc fa fb) ρ (if P then d else d') := by
  by_cases h : P
  · unfold Ev vIf
    rw [hc]
    simp only [h, decide_true, if_true]
    exact ha h
  · unfold Ev vIf
    rw [hc]
    simp only [h, decide_false, if_false]
    exact hb h
theorem atI_nn {α : Type} {xs : List α} {x : α} (h0 : 0 ≤ i) (h : xs[i.toNat]? = some x) : atI xs i = some x := by
  have hl := (List.getElem?_eq_some_iff.mp h).1
  unfold atI
  have e : ixN xs.length i = some i.toNat := by
    unfold ixN
    simp only [h0, if_true]
    rw [if_pos (by omega)]
  rw [e]
  exact h
theorem Ev.ixL (ha : Ev fa ρ (.lst ds)) (hb : Ev fb ρ (.int i)) (h0 : 0 ≤ i) (h : ds[i.toNat]? = some d) : Ev (EV.v2 ixD fa fb) ρ d := .v2 ha hb (atI_nn h0 h)
theorem Ev.ixT (ha : Ev fa ρ (.tup ds)) (hb : Ev fb ρ (.int i)) (h0 : 0 ≤ i) (h : ds[i.toNat]? = some d) : Ev (EV.v2 ixD fa fb) ρ d := .v2 ha hb (atI_nn h0 h)
theorem Ev.ixS {ns : List Int} {z : Int} (ha : Ev fa ρ (.scr ns)) (hb : Ev fb ρ (.int i)) (h0 : 0 ≤ i) (h : ns[i.toNat]? = some z) : Ev (EV.v2 ixD fa fb) ρ (.int z) := .v2 ha hb (by
  show (atI ns i).map D.int = _
  rw [atI_nn h0 h]
  rfl)
theorem Ev.in_ (ha : Ev fa ρ p) (hb : Ev fb ρ q) (h : q = .lst ds ∨ q = .tup ds) (hp : D.pl 8 p = true) (hq : D.pls 8 ds = true) : Ev (EV.v2 inD fa fb) ρ (.bl (ds.any fun z => D.eqv z p)) := .v2 ha hb (by
  rcases h with rfl | rfl <;> simp [inD, hp, hq])
theorem Ev.nin (ha : Ev fa ρ p) (hb : Ev fb ρ q) (h : q = .lst ds ∨ q = .tup ds) (hp : D.pl 8 p = true) (hq : D.pls 8 ds = true) : Ev (EV.v2 ninD fa fb) ρ (.bl (!ds.any fun z => D.eqv z p)) := .v2 ha hb (by
  rcases h with rfl | rfl <;> simp [ninD, hp, hq])
/-! arguments -/
theorem EvL.nil : EvL aNil ρ [] := rfl
theorem EvL.cons (ha : Ev fa ρ d) (hr : EvL fr ρ ds) : EvL (aCons fa fr) ρ (d :: ds) := by
  unfold EvL aCons; rw [ha, hr]; rfl
theorem Ev.tup (h : EvL fs ρ ds) (hl : ds.length ≤ 100000) : Ev (vTup fs) ρ (.tup ds) := by
  unfold Ev vTup; rw [h]; simp [tupD, hl]
theorem Ev.vL (h : EvL fs ρ ds) : Ev (vL fs) ρ (.lst ds) := by
  unfold Ev EV.vL; rw [h]; rfl
theorem EvL.lenOk (h : EvL fs ρ ds) (hl : ds.length ≤ 100000) : EvL (lenOk fs) ρ ds := by
  unfold EvL EV.lenOk; rw [h]; simp [hl]
theorem Ev.call {o : List D → Option D} (h : EvL fs ρ ds) (e : o ds = some d) : Ev (vCall o fs) ρ d := by
  unfold Ev vCall; rw [h]; simp [e, RL1]
theorem EvL.call {o : List D → Option (List D)} (h : EvL fs ρ ds) (e : o ds = some es) : EvL (nCall o fs) ρ es := by
  unfold EvL nCall; rw [h]; simp [e, RLL]
theorem Ev.int_ (ha : Ev fa ρ (.int i)) : Ev (vCall intD (aCons fa aNil)) ρ (.int i) := .call (.cons ha .nil) rfl
theorem Ev.intB {b : Bool} (ha : Ev fa ρ (.bl b)) : Ev (vCall intD (aCons fa aNil)) ρ (.int (if b then 1 else 0)) := .call (.cons ha .nil) rfl
theorem Ev.lenL (ha : Ev fa ρ (.lst ds)) : Ev (vCall lenD (aCons fa aNil)) ρ (.int ds.length) := .call (.cons ha .nil) rfl
theorem Ev.lenT (ha : Ev fa ρ (.tup ds)) : Ev (vCall lenD (aCons fa aNil)) ρ (.int ds.length) := .call (.cons ha .nil) rfl
theorem Ev.lenS {ns : List Int} (ha : Ev fa ρ (.scr ns)) : Ev (vCall lenD (aCons fa aNil)) ρ (.int ns.length) := .call (.cons ha .nil) rfl
theorem Ev.min_ (ha : Ev fa ρ (.int i)) (hb : Ev fb ρ (.int j)) : Ev (vCall minD (aCons fa (aCons fb aNil))) ρ (.int (min i j)) := .call (.cons ha (.cons hb .nil)) (by
  show some (D.int (if j < i then j else i)) = _
  congr 2
  split <;> omega)
theorem Ev.max_ (ha : Ev fa ρ (.int i)) (hb : Ev fb ρ (.int j)) : Ev (vCall maxD (aCons fa (aCons fb aNil))) ρ (.int (max i j)) := .call (.cons ha (.cons hb .nil)) (by
  show some (D.int (if j > i then j else i)) = _
  congr 2
  split <;> omega)
theorem Ev.abs_ (ha : Ev fa ρ (.int i)) : Ev (vCall absD (aCons fa aNil)) ρ (.int (if i < 0 then -i else i)) := .call (.cons ha .nil) rfl
theorem Ev.tupleL (ha : Ev fa ρ (.lst ds)) : Ev (vCall tupleD (aCons fa aNil)) ρ (.tup ds) := .call (.cons ha .nil) rfl
theorem Ev.tupleT (ha : Ev fa ρ (.tup ds)) : Ev (vCall tupleD (aCons fa aNil)) ρ (.tup ds) := .call (.cons ha .nil) rfl
theorem EvL.listL (ha : Ev fa ρ (.lst ds)) : EvL (nCall listD (aCons fa aNil)) ρ ds := .call (.cons ha .nil) rfl
theorem EvL.listT (ha : Ev fa ρ (.tup ds)) : EvL (nCall listD (aCons fa aNil)) ρ ds := .call (.cons ha .nil) rfl
theorem Ev.callP {n m : Nat} {perm : List Nat} {sem : List D → Option R} {dds : List D} (h : EvL fs ρ ds) (hk : EvL fk ρ es) (hl : ds.length = n ∧ es.length = m) (e : sem (pick perm (ds ++ es ++ dds)) = some (.ok d)) : Ev (vCallP n m perm sem dds fs fk) ρ d := by
  unfold Ev vCallP; rw [h, hk]; simp only [RL1, hl, and_self, if_true]; exact e
theorem EvL.callP {n m : Nat} {perm : List Nat} {sem : List D → Option RL} {dds xs : List D} (h : EvL fs ρ ds) (hk : EvL fk ρ es) (hl : ds.length = n ∧ es.length = m) (e : sem (pick perm (ds ++ es ++ dds)) = some (.ok xs)) : EvL (nCallP n m perm sem dds fs fk) ρ xs := by
  unfold EvL nCallP; rw [h, hk]; simp only [RLL, hl, and_self, if_true]; exact e
theorem EvL.rep (ha : Ev fa ρ (.lst ds)) (hb : Ev fb ρ (.int i)) (h0 : 0 ≤ i ∧ i < 1000000 ∧ ds.length * i.toNat ≤ 100000) : EvL (nRep fa fb) ρ (List.replicate i.toNat ds).flatten := by
  unfold EvL nRep; rw [ha, hb]
  simp only [R1L]
  rw [if_pos (by omega)]
theorem EvL.add (ha : Ev fa ρ (.lst ds)) (hb : Ev fb ρ (.lst es)) (h : ds.length + es.length ≤ 100000) : EvL (nAdd fa fb) ρ (ds ++ es) := by
  unfold EvL nAdd; rw [ha, hb]
  simp only [R1L]
  rw [if_pos h]
/-! what is walked -/
theorem EvL.seqL (h : Ev f ρ (.lst ds)) : EvL (iSeq f) ρ ds := by unfold EvL iSeq; rw [h]; rfl
theorem EvL.seqT (h : Ev f ρ (.tup ds)) : EvL (iSeq f) ρ ds := by unfold EvL iSeq; rw [h]; rfl
theorem EvL.seqS {ns : List Int} (h : Ev f ρ (.scr ns)) : EvL (iSeq f) ρ (ns.map D.int) := by unfold EvL iSeq; rw [h]; rfl
theorem EvL.range1 (h : Ev f ρ (.int j)) (hb : -4611686018427387904 ≤ j ∧ j < 4611686018427387904) : EvL (iRange1 f) ρ (rangeD 0 j.toNat) := by
  unfold EvL iRange1; rw [h]
  simp only [R1L]
  rw [if_pos (by omega)]
theorem EvL.range2 (ha : Ev fa ρ (.int i)) (hb : Ev fb ρ (.int j)) (h : (-4611686018427387904 ≤ i ∧ i < 4611686018427387904) ∧ -4611686018427387904 ≤ j ∧ j < 4611686018427387904) : EvL (iRange2 fa fb) ρ (rangeD i (j - i).toNat) := by
  unfold EvL iRange2; rw [ha, hb]
  simp only [R1L]
  rw [if_pos (by omega)]
theorem EvL.enumL (h : Ev f ρ (.lst ds)) : EvL (iEnum f) ρ (enumFrom 0 ds) := by unfold EvL iEnum; rw [h]; rfl
theorem EvL.enumT (h : Ev f ρ (.tup ds)) : EvL (iEnum f) ρ (enumFrom 0 ds) := by unfold EvL iEnum; rw [h]; rfl
end

/-! ### statements -/
def Run (g : FS) (ρ : Env) (Q : Out → Prop) : Prop := ∃ o, g ρ = some o ∧ Q o
section
variable {g g1 g2 : FS} {f fa fb fc fkx : FE} {fl : FL} {ρ ρ' : Env} {Q : Out → Prop} {d : D} {ds : List D} {i : Nat} {P : Prop}
def After (g2 : FS) (Q : Out → Prop) : Out → Prop
  | .nx ρ' => Run g2 ρ' Q
  | o => Q o
theorem Run.mono {Q' : Out → Prop} (h : Run g ρ Q) (w : ∀ o, Q o → Q' o) : Run g ρ Q' := let ⟨o, e, q⟩ := h; ⟨o, e, w o q⟩
theorem Run.seq (h : Run g1 ρ (After g2 Q)) : Run (gSeq g1 g2) ρ Q := by
  obtain ⟨o, e, q⟩ := h
  cases o with
  | nx ρ' =>
    obtain ⟨o2, e2, q2⟩ := q
    exact ⟨o2, by unfold gSeq; rw [e]; exact e2, q2⟩
  | rt d => exact ⟨_, by unfold gSeq; rw [e], q⟩
  | bk d => exact ⟨_, by unfold gSeq; rw [e], q⟩
  | ct d => exact ⟨_, by unfold gSeq; rw [e], q⟩
  | rs d _ => exact ⟨_, by unfold gSeq; rw [e], q⟩
  | rl d => exact ⟨_, by unfold gSeq; rw [e], q⟩
theorem Run.cut (M : Env → Prop) (h1 : Run g1 ρ fun o => ∃ ρ', o = .nx ρ' ∧ M ρ') (h2 : ∀ ρ', M ρ' → Run g2 ρ' Q) : Run (gSeq g1 g2) ρ Q := by
  obtain ⟨o, e, ρ', rfl, m⟩ := h1
  exact Run.seq ⟨_, e, h2 ρ' m⟩
theorem Run.next (h : Q (.nx ρ)) : Run gNext ρ Q := ⟨_, rfl, h⟩
theorem Run.brk (h : Q (.bk ρ)) : Run gBrk ρ Q := ⟨_, rfl, h⟩
theorem Run.set (e : Ev f ρ d) (h : Q (.nx (ρ.set i (.v d)))) : Run (gSet i f) ρ Q := ⟨_, by unfold gSet; rw [e]; rfl, h⟩
theorem Run.setA (e : Ev f (thaw ρ) d) (p : d.pure = true) (h : Q (.nx (ρ.set i (.v d)))) : Run (gSetA i f) ρ Q := ⟨_, by unfold gSetA; rw [e]; simp only [RA, p, if_true], h⟩
theorem Run.own (e : EvL fl ρ ds) (hi : i < ρ.length) (h : Q (.nx (ρ.set i (.own ds)))) : Run (gOwn i fl) ρ Q := ⟨_, by unfold gOwn; rw [e]; simp only [RSL, EV.setOwn, hi, if_true], h⟩
theorem Run.ownA (e : EvL fl (thaw ρ) ds) (p : D.pures ds = true) (hi : i < ρ.length) (h : Q (.nx (ρ.set i (.own ds)))) : Run (gOwnA i fl) ρ Q := ⟨_, by unfold gOwnA; rw [e]; simp only [RAL, p, EV.setOwn, hi, if_true], h⟩
theorem Run.rel (h : Run g (EV.rel i ρ) Q) : Run (gRel i g) ρ Q := h
def Rels (i : Nat) (Q : Out → Prop) : Out → Prop
  | .nx ρ => Q (.nx (EV.rel i ρ))
  | o => Q o
theorem Run.thenRel (h : Run g ρ (Rels i Q)) : Run (gThenRel i g) ρ Q := by
  obtain ⟨o, e, q⟩ := h
  cases o with
  | nx ρ' => exact ⟨_, by unfold gThenRel; rw [e], q⟩
  | rt d => exact ⟨_, by unfold gThenRel; rw [e], q⟩
  | bk d => exact ⟨_, by unfold gThenRel; rw [e], q⟩
  | ct d => exact ⟨_, by unfold gThenRel; rw [e], q⟩
  | rs d _ => exact ⟨_, by unfold gThenRel; rw [e], q⟩
  | rl d => exact ⟨_, by unfold gThenRel; rw [e], q⟩
theorem Run.drop (e : Ev f ρ d) (h : Q (.nx ρ)) : Run (gDrop f) ρ Q := ⟨_, by unfold gDrop; rw [e]; rfl, h⟩
theorem Run.dropA (e : Ev f (thaw ρ) d) (p : d.pure = true) (h : Q (.nx ρ)) : Run (gDropA f) ρ Q := ⟨_, by unfold gDropA; rw [e]; simp only [RA, p, if_true], h⟩
theorem Run.ret (e : Ev f ρ d) (h : Q (.rt d)) : Run (gRet f) ρ Q := ⟨_, by unfold gRet; rw [e]; rfl, h⟩
theorem Run.retA (e : Ev f (thaw ρ) d) (p : d.pure = true) (h : Q (.rt d)) : Run (gRetA f) ρ Q := ⟨_, by unfold gRetA; rw [e]; simp only [RA, p, if_true], h⟩
theorem Run.retN (h : Q (.rt .non)) : Run gRetN ρ Q := ⟨_, rfl, h⟩
theorem Run.retL (e : EvL fl ρ ds) (h : Q (.rl ds)) : Run (gRetL fl) ρ Q := ⟨_, by unfold gRetL; rw [e]; rfl, h⟩
theorem Run.ifP {iP : Decidable P} (e : Ev fc ρ (.bl (decide P))) (h1 : P → Run g1 ρ Q) (h2 : ¬ P → Run g2 ρ Q) : Run (gIf fc g1 g2) ρ Q := by
  by_cases h : P
  · obtain ⟨o, e1, q⟩ := h1 h
    exact ⟨o, by unfold gIf; rw [e]; simp only [RS, h, decide_true]; exact e1, q⟩
  · obtain ⟨o, e1, q⟩ := h2 h
    exact ⟨o, by unfold gIf; rw [e]; simp only [RS, h, decide_false]; exact e1, q⟩
theorem Run.ifAP {iP : Decidable P} (e : Ev fc (thaw ρ) (.bl (decide P))) (h1 : P → Run g1 ρ Q) (h2 : ¬ P → Run g2 ρ Q) : Run (gIfA fc g1 g2) ρ Q := by
  by_cases h : P
  · obtain ⟨o, e1, q⟩ := h1 h
    exact ⟨o, by unfold gIfA; rw [e]; simp only [RA, D.pure, if_true, h, decide_true]; exact e1, q⟩
  · obtain ⟨o, e1, q⟩ := h2 h
    exact ⟨o, by unfold gIfA; rw [e]; simp only [RA, D.pure, if_true, h, decide_false]; exact e1, q⟩
theorem Run.app {xs : List D} (ho : ρ[i]? = some (.own xs)) (e : Ev f ρ d) (hl : xs.length < 100000) (h : Q (.nx (ρ.set i (.own (xs ++ [d]))))) : Run (gAppO i (gApp i f)) ρ Q :=
  ⟨_, by unfold gAppO gApp; rw [ho]; simp only []; rw [e]; simp only [RS, appK, ho, hl, if_true], h⟩
theorem Run.appA {xs : List D} (ho : ρ[i]? = some (.own xs)) (e : Ev f (thaw ρ) d) (p : d.pure = true) (hl : xs.length < 100000) (h : Q (.nx (ρ.set i (.own (xs ++ [d]))))) : Run (gAppO i (gAppA i f)) ρ Q :=
  ⟨_, by unfold gAppO gAppA; rw [ho]; simp only []; rw [e]; simp only [RA, p, appK, ho, hl, if_true], h⟩
theorem ixN_nn {n : Nat} {k : Int} (h0 : 0 ≤ k) (h : k < n) : ixN n k = some k.toNat := by
  unfold ixN
  simp only [h0, if_true]
  rw [if_pos (by omega)]
theorem Run.setIx {xs : List D} {k : Int} (ho : ρ[i]? = some (.own xs)) (e : Ev f ρ d) (ek : Ev fkx (thaw ρ) (.int k)) (h0 : 0 ≤ k) (hl : k < xs.length) (h : Q (.nx (ρ.set i (.own (xs.set k.toNat d))))) : Run (gSetIx i fkx f) ρ Q :=
  ⟨_, by unfold gSetIx; rw [e]; simp only [RS, setK, ho]; rw [ek]; simp only [ixN_nn h0 hl], h⟩
theorem Run.setIxA {xs : List D} {k : Int} (ho : ρ[i]? = some (.own xs)) (e : Ev f (thaw ρ) d) (p : d.pure = true) (ek : Ev fkx (thaw ρ) (.int k)) (h0 : 0 ≤ k) (hl : k < xs.length) (h : Q (.nx (ρ.set i (.own (xs.set k.toNat d))))) : Run (gSetIxA i fkx f) ρ Q :=
  ⟨_, by unfold gSetIxA; rw [e]; simp only [RA, p, if_true, setK, ho]; rw [ek]; simp only [ixN_nn h0 hl], h⟩
theorem Run.aug {k j : Int} (ho : ρ[i]? = some (.v (.int k))) (e : Ev f ρ (.int j)) (h : Q (.nx (ρ.set i (.v (.int (k + j)))))) : Run (gAug i f) ρ Q :=
  ⟨_, by unfold gAug; rw [ho]; simp only []; rw [e]; rfl, h⟩
theorem Run.asg {fg : FG} (e : Ev f ρ d) (eg : fg d ρ = some ρ') (h : Q (.nx ρ')) : Run (gAsg fg f) ρ Q := ⟨_, by unfold gAsg; rw [e]; simp only [RS, eg, Option.map], h⟩
theorem Run.fld {ci k : Nat} {xs : List D} (ho : ρ[i]? = some (.ins ci xs)) (hk : xs.length = k) (e : Ev f ρ d) (h : Q (.nx (ρ.set i (.ins ci (xs ++ [d]))))) : Run (gFld i ci k f) ρ Q :=
  ⟨_, by unfold gFld; rw [e]; simp only [RS, fldK, ho, hk, and_self, if_true], h⟩
theorem Run.sset (e : Ev f ρ d) (h : Run g2 (ρ.set i (.v d)) Q) : Run (gSeq (gSet i f) g2) ρ Q := .seq (.set e h)
theorem Run.ssetA (e : Ev f (thaw ρ) d) (p : d.pure = true) (h : Run g2 (ρ.set i (.v d)) Q) : Run (gSeq (gSetA i f) g2) ρ Q := .seq (.setA e p h)
theorem Run.sown (e : EvL fl ρ ds) (hi : i < ρ.length) (h : Run g2 (ρ.set i (.own ds)) Q) : Run (gSeq (gOwn i fl) g2) ρ Q := .seq (.own e hi h)
theorem Run.sownA (e : EvL fl (thaw ρ) ds) (p : D.pures ds = true) (hi : i < ρ.length) (h : Run g2 (ρ.set i (.own ds)) Q) : Run (gSeq (gOwnA i fl) g2) ρ Q := .seq (.ownA e p hi h)
theorem Run.sthen (e : EvL fl (thaw ρ) ds) (p : D.pures ds = true) (hi : i < ρ.length) (h : Run g2 (EV.rel i (ρ.set i (.own ds))) Q) : Run (gSeq (gThenRel i (gOwnA i fl)) g2) ρ Q := .seq (.thenRel (.ownA e p hi h))
theorem Run.srel (h : Run (gSeq g1 g2) (EV.rel i ρ) Q) : Run (gSeq (gRel i g1) g2) ρ Q := h
theorem Run.sdrop (e : Ev f ρ d) (h : Run g2 ρ Q) : Run (gSeq (gDrop f) g2) ρ Q := .seq (.drop e h)
theorem Run.sdropA (e : Ev f (thaw ρ) d) (p : d.pure = true) (h : Run g2 ρ Q) : Run (gSeq (gDropA f) g2) ρ Q := .seq (.dropA e p h)
theorem Run.sapp {xs : List D} (ho : ρ[i]? = some (.own xs)) (e : Ev f ρ d) (hl : xs.length < 100000) (h : Run g2 (ρ.set i (.own (xs ++ [d]))) Q) : Run (gSeq (gAppO i (gApp i f)) g2) ρ Q := .seq (.app ho e hl h)
theorem Run.ssetIx {xs : List D} {k : Int} (ho : ρ[i]? = some (.own xs)) (e : Ev f ρ d) (ek : Ev fkx (thaw ρ) (.int k)) (h0 : 0 ≤ k) (hl : k < xs.length) (h : Run g2 (ρ.set i (.own (xs.set k.toNat d))) Q) : Run (gSeq (gSetIx i fkx f) g2) ρ Q := .seq (.setIx ho e ek h0 hl h)
theorem Run.sfld {ci k : Nat} {xs : List D} (ho : ρ[i]? = some (.ins ci xs)) (hk : xs.length = k) (e : Ev f ρ d) (h : Run g2 (ρ.set i (.ins ci (xs ++ [d]))) Q) : Run (gSeq (gFld i ci k f) g2) ρ Q := .seq (.fld ho hk e h)
/-- what a turn may end with -/
def Turn' (I : Env → Prop) (Q : Out → Prop) : Out → Prop
  | .nx ρ => I ρ
  | .ct ρ => I ρ
  | .bk ρ => Q (.nx ρ)
  | o => Q o
theorem loop_run {fg : FG} {b : FS} (I : Nat → Env → Prop) : ∀ (ds : List D) (n : Nat) (ρ : Env), I n ρ →
    (∀ k d ρ, ds[k]? = some d → I (n + k) ρ → ∃ ρ1, fg d ρ = some ρ1 ∧ Run b ρ1 (Turn' (I (n + k + 1)) Q)) → (∀ ρ, I (n + ds.length) ρ → Q (.nx ρ)) → ∃ o, loopF fg b ds ρ = some o ∧ Q o
  | [], n, ρ, h0, _, hq => ⟨_, rfl, hq ρ h0⟩
  | d :: ds, n, ρ, h0, st, hq => by
    obtain ⟨ρ1, e1, o, e2, q⟩ := st 0 d ρ rfl h0
    have rest : ∀ ρ2, I (n + 1) ρ2 → ∃ o, loopF fg b ds ρ2 = some o ∧ Q o := fun ρ2 h2 => loop_run I ds (n + 1) ρ2 h2 (fun k d ρ hd hI => by
      have := st (k + 1) d ρ (by simpa using hd) (by rw [show n + (k + 1) = n + 1 + k by omega]; exact hI)
      rw [show n + (k + 1) + 1 = n + 1 + k + 1 by omega] at this
      exact this) (fun ρ h => hq ρ (by rw [List.length_cons, show n + (ds.length + 1) = n + 1 + ds.length by omega]; exact h))
    cases o with
    | nx ρ2 =>
      obtain ⟨o, e, q⟩ := rest ρ2 q
      exact ⟨o, by rw [loopF, e1]; simp only [e2]; exact e, q⟩
    | ct ρ2 =>
      obtain ⟨o, e, q⟩ := rest ρ2 q
      exact ⟨o, by rw [loopF, e1]; simp only [e2]; exact e, q⟩
    | bk ρ2 => exact ⟨_, by rw [loopF, e1]; simp only [e2], q⟩
    | rt d2 => exact ⟨_, by rw [loopF, e1]; simp only [e2], q⟩
    | rs x ρ2 => exact ⟨_, by rw [loopF, e1]; simp only [e2], q⟩
    | rl d2 => exact ⟨_, by rw [loopF, e1]; simp only [e2], q⟩
theorem Run.for {fg : FG} {b : FS} (I : Nat → Env → Prop) (e : EvL fl ρ ds) (h0 : I 0 ρ) (st : ∀ k d ρ, ds[k]? = some d → I k ρ → ∃ ρ1, fg d ρ = some ρ1 ∧ Run b ρ1 (Turn' (I (k + 1)) Q)) (hq : ∀ ρ, I ds.length ρ → Q (.nx ρ)) : Run (gFor fl fg b) ρ Q := by
  obtain ⟨o, e2, q⟩ := loop_run (fg := fg) (b := b) (Q := Q) I ds 0 ρ h0 (fun k d ρ hd hI => by
    rw [Nat.zero_add] at hI ⊢
    exact st k d ρ hd hI) (fun ρ h => hq ρ (by rw [Nat.zero_add] at h; exact h))
  exact ⟨o, by unfold gFor; rw [e]; exact e2, q⟩
end
/-! ### comprehensions -/
theorem lcF_of {α : Type} {fg : FG} {ft fe : FE} {ρ : Env} (A : α → D) (o : α → Option D) : ∀ (xs : List α), (∀ x ∈ xs, itemF fg ft fe ρ (A x) = some (o x)) → lcF fg ft fe ρ (xs.map A) = some (xs.filterMap o)
  | [], _ => rfl
  | x :: xs, h => by
    rw [List.map_cons, lcF, h x List.mem_cons_self]
    simp only []
    rw [lcF_of A o xs fun y hy => h y (List.mem_cons_of_mem _ hy)]
    cases e : o x with
    | none => simp [List.filterMap_cons, e]
    | some d => simp [List.filterMap_cons, e]
theorem EvL.lc {α : Type} {fi : FL} {fg : FG} {ft fe : FE} {vs : List Nat} {ρ : Env} (xs : List α) (A : α → D) (o : α → Option D) (hi : EvL fi ρ (xs.map A)) (hl : xs.length ≤ 90000) (h : ∀ x ∈ xs, itemF fg ft fe (wipeE ρ vs) (A x) = some (o x)) : EvL (nLc fi fg ft fe vs) ρ (xs.filterMap o) := by
  unfold EvL nLc
  rw [hi]
  simp only [RLL, List.length_map, hl, if_true, lcF_of A o xs h, Option.map]
theorem item_yes {fg : FG} {fe : FE} {ρ ρ1 : Env} {d v : D} (eg : fg d (mask ρ) = some ρ1) (ev : Ev fe ρ1 v) : itemF fg vYes fe ρ d = some (some v) := by
  unfold itemF vYes
  rw [eg]
  simp only []
  rw [ev]
theorem item_if {fg : FG} {ft fe : FE} {ρ ρ1 : Env} {d v : D} {P : Prop} {iP : Decidable P} (eg : fg d (mask ρ) = some ρ1) (et : Ev ft ρ1 (.bl (decide P))) (ev : P → Ev fe ρ1 v) : itemF fg ft fe ρ d = some (if P then some v else none) := by
  unfold itemF
  rw [eg]
  simp only []
  rw [et]
  by_cases h : P
  · simp only [h, decide_true, if_true]
    rw [ev h]
  · simp only [h, decide_false, if_false]
/-! ### defs -/
theorem sem_of {n : Nat} {g : FS} {ds : List D} {P : D → Prop} (h : Run g (ds.map Sl.v ++ List.replicate (n - ds.length) Sl.no) fun o => (∃ d, o = .rt d ∧ P d) ∨ ((∃ ρ, o = .nx ρ) ∧ P .non) ∨ ∃ xs, o = .rl xs ∧ P (.lst xs)) : ∃ d, semF n g ds = some (.ok d) ∧ P d := by
  obtain ⟨o, e, q⟩ := h
  unfold semF
  rw [e]
  rcases q with ⟨d, rfl, q⟩ | ⟨⟨ρ, rfl⟩, q⟩ | ⟨xs, rfl, q⟩
  · exact ⟨d, rfl, q⟩
  · exact ⟨_, rfl, q⟩
  · exact ⟨_, rfl, q⟩
def Ret (P : D → Prop) : Out → Prop
  | .rt d => P d
  | .nx _ => P .non
  | .rl xs => P (.lst xs)
  | _ => False
theorem sem_ret {n : Nat} {g : FS} {ds : List D} {P : D → Prop} (h : Run g (ds.map Sl.v ++ List.replicate (n - ds.length) Sl.no) (Ret P)) : ∃ d, semF n g ds = some (.ok d) ∧ P d := by
  obtain ⟨o, e, q⟩ := h
  unfold semF
  rw [e]
  cases o with
  | rt d => exact ⟨d, rfl, q⟩
  | nx ρ => exact ⟨_, rfl, q⟩
  | rl xs => exact ⟨_, rfl, q⟩
  | _ => exact q.elim
theorem rangeD_map (lo : Int) (n : Nat) : rangeD lo n = (List.range n).map fun k => D.int (lo + (k : Nat)) := rfl
theorem rangeD_get {lo : Int} {n k : Nat} {d : D} (h : (rangeD lo n)[k]? = some d) : d = .int (lo + (k : Nat)) ∧ k < n := by
  unfold rangeD at h
  rw [List.getElem?_map] at h
  obtain ⟨x, e, rfl⟩ := Option.map_eq_some_iff.mp h
  have := (List.getElem?_eq_some_iff.mp e)
  obtain ⟨hl, hx⟩ := this
  rw [List.length_range] at hl
  rw [List.getElem_range] at hx
  subst hx
  exact ⟨rfl, hl⟩
def at_ {α : Type} [Inhabited α] (xs : List α) (i : Int) : α := xs.getD i.toNat default
theorem at_get {α : Type} [Inhabited α] {xs : List α} {i : Int} (h0 : 0 ≤ i) (h : i < xs.length) : xs[i.toNat]? = some (at_ xs i) := by
  unfold at_
  rw [List.getD_eq_getElem?_getD]
  have : i.toNat < xs.length := by omega
  rw [List.getElem?_eq_getElem this]
  rfl
theorem at_mem {α : Type} [Inhabited α] {xs : List α} {i : Int} (h0 : 0 ≤ i) (h : i < xs.length) : at_ xs i ∈ xs := List.mem_of_getElem? (at_get h0 h)
theorem Ev.ixM {fa fb : FE} {ρ : Env} {i : Int} {α : Type} [Inhabited α] {A : α → D} {xs : List α} (ha : Ev fa ρ (.lst (xs.map A))) (hb : Ev fb ρ (.int i)) (h0 : 0 ≤ i) (h : i < xs.length) : Ev (EV.v2 ixD fa fb) ρ (A (at_ xs i)) :=
  .ixL ha hb h0 (by rw [List.getElem?_map, at_get h0 h]; rfl)
theorem Ev.ixMT {fa fb : FE} {ρ : Env} {i : Int} {α : Type} [Inhabited α] {A : α → D} {xs : List α} (ha : Ev fa ρ (.tup (xs.map A))) (hb : Ev fb ρ (.int i)) (h0 : 0 ≤ i) (h : i < xs.length) : Ev (EV.v2 ixD fa fb) ρ (A (at_ xs i)) :=
  .ixT ha hb h0 (by rw [List.getElem?_map, at_get h0 h]; rfl)
theorem range0_get {n k : Nat} {d : D} (h : (rangeD 0 n)[k]? = some d) : d = .int (k : Nat) ∧ k < n := by
  obtain ⟨e, hl⟩ := rangeD_get h
  exact ⟨by rw [e, Int.zero_add], hl⟩
theorem tbl_get {tb : List D} (P : Int → Bool) (h : tb.all (fun d => match d with | .int m => P m | _ => false) = true) {i : Int} (hl : i.toNat < tb.length) : ∃ m, tb[i.toNat]? = some (.int m) ∧ P m = true := by
  have hm : tb[i.toNat] ∈ tb := List.getElem_mem hl
  have q := List.all_eq_true.mp h _ hm
  rw [List.getElem?_eq_getElem hl]
  generalize tb[i.toNat] = d at q
  cases d with
  | int m => exact ⟨m, rfl, q⟩
  | _ => cases q
end EV
end

section
set_option maxHeartbeats 4000000
namespace LW
open PySem L2 EV
theorem sc_law_spoilt : FnScope ["_law_world_here", "_law_row", "_law_mills", "_law_pairs", "_law_low", "_law_high", "_law_let", "_law_t", "_law_kind", "_law_mill", "_law_size", "_law_near", "_law_k"] ["_law_world_here", "_law_row"] (defScope st_law_spoilt) := ⟨rfl, rfl, rfl, by decide +kernel, rfl, by decide +kernel, by decide +kernel⟩
def g_law_spoilt : FS := gSeq (gSet 2 (v2 ixD (vVar 0) (vC (.int 0)))) (gSeq (gSet 3 (v2 ixD (vVar 0) (vC (.int 1)))) (gSeq (gOwn 4 (nCall listD (aCons (v2 ixD (vVar 0) (vC (.int 2))) (aNil)))) (gSeq (gOwn 5 (nCall listD (aCons (v2 ixD (vVar 0) (vC (.int 3))) (aNil)))) (gSeq (gOwn 6 (nCall listD (aCons (v2 ixD (vVar 0) (vC (.int 4))) (aNil)))) (gSeq (gFor (iRange1 (v2 ixD (vL (lenOk (aCons (vC (.int 1)) (aCons (vC (.int 0)) (aCons (vC (.int 2)) (aCons (vC (.int 1)) (aCons (vC (.int 0)) (aCons (vC (.int 3)) (aCons (vC (.int 1)) (aCons (vC (.int 2)) (aNil))))))))))) (v2 modD (vCall intD (aCons (v2 ixD (vVar 1) (vC (.int 0))) (aNil))) (vC (.int 8))))) (nmG 7) (gSeq (gSet 8 (v2 modD (vCall intD (aCons (v2 ixD (vVar 1) (v2 addD (vC (.int 1)) (v2 mulD (vC (.int 3)) (vVar 7)))) (aNil))) (vC (.int 12)))) (gSeq (gSet 9 (v2 modD (vCall intD (aCons (v2 ixD (vVar 1) (v2 addD (vC (.int 2)) (v2 mulD (vC (.int 3)) (vVar 7)))) (aNil))) (vVar 2))) (gSeq (gSet 10 (v2 modD (vCall intD (aCons (v2 ixD (vVar 1) (v2 addD (vC (.int 3)) (v2 mulD (vC (.int 3)) (vVar 7)))) (aNil))) (vC (.int 6)))) (gSeq (gSet 11 (vCall lenD (aCons (vL (nLc (iRange1 (vCall lenD (aCons (vVar 3) (aNil)))) (nmG 12) (v2 inD (vVar 9) (v2 ixD (vVar 3) (vVar 12))) (vVar 12) [12])) (aNil)))) (gSeq (gIf (v2 leD (vVar 8) (vC (.int 2))) (gSetIxA 4 (vVar 9) (v2 addD (v2 addD (v2 ixD (vVar 4) (vVar 9)) (vC (.int 1))) (v2 fdivD (vVar 10) (vC (.int 4))))) (gNext)) (gSeq (gIf (v2 eqD (vVar 8) (vC (.int 2))) (gSetIxA 4 (v2 modD (vCall intD (aCons (v2 addD (vVar 9) (vC (.int 1))) (aNil))) (vVar 2)) (v2 addD (v2 ixD (vVar 4) (v2 modD (vCall intD (aCons (v2 addD (vVar 9) (vC (.int 1))) (aNil))) (vVar 2))) (vC (.int 1)))) (gNext)) (gSeq (gIf (v2 eqD (vVar 8) (vC (.int 3))) (gSetIxA 5 (vVar 9) (v2 ixD (vVar 4) (vVar 9))) (gNext)) (gSeq (gIf (v2 eqD (vVar 8) (vC (.int 4))) (gSetIxA 5 (vVar 9) (vCall maxD (aCons (vC (.int 0)) (aCons (v2 subD (v2 ixD (vVar 4) (vVar 9)) (vC (.int 1))) (aNil))))) (gNext)) (gSeq (gIf (v2 eqD (vVar 8) (vC (.int 5))) (gSetIx 5 (vVar 9) (v2 ixD (vL (lenOk (aCons (vC (.int 0)) (aCons (vC (.int 0)) (aCons (vC (.int 1)) (aCons (vC (.int 1)) (aCons (vC (.int 2)) (aCons (v2 powD (vC (.int 10)) (vC (.int 30))) (aNil))))))))) (vVar 10))) (gNext)) (gSeq (gIf (v2 eqD (vVar 8) (vC (.int 6))) (gSetIx 4 (vVar 9) (v2 ixD (vL (lenOk (aCons (vVar 11) (aCons (vVar 11) (aCons (v2 addD (vVar 11) (vC (.int 1))) (aCons (vVar 11) (aCons (v2 addD (v2 powD (vC (.int 10)) (vC (.int 30))) (vVar 11)) (aCons (v2 addD (vVar 11) (vC (.int 2))) (aNil))))))))) (vVar 10))) (gNext)) (gSeq (gIf (v2 eqD (vVar 8) (vC (.int 7))) (gOwnA 5 (nLc (iRange1 (vVar 2)) (nmG 12) (vYes) (v2 addD (v2 ixD (vVar 4) (vVar 12)) (v2 modD (vCall intD (aCons (v2 addD (vVar 12) (vVar 10)) (aNil))) (vC (.int 2)))) [12])) (gNext)) (gIf (vAnd (v2 geD (vVar 8) (vC (.int 8))) (v2 gtD (vCall lenD (aCons (vVar 3) (aNil))) (vC (.int 0)))) (gSetIx 6 (v2 modD (vCall intD (aCons (v2 ixD (vVar 1) (v2 addD (vC (.int 2)) (v2 mulD (vC (.int 3)) (vVar 7)))) (aNil))) (vCall lenD (aCons (vVar 3) (aNil)))) (v2 ixD (vL (lenOk (aCons (vTup (aCons (vC (.int 0)) (aNil))) (aCons (vTup (aCons (vC (.int 1)) (aNil))) (aCons (vTup (aNil)) (aCons (vTup (aCons (vC (.int 0)) (aNil))) (aCons (vTup (aCons (vC (.int 1)) (aNil))) (aCons (vTup (aCons (vC (.int 0)) (aCons (vC (.int 1)) (aNil)))) (aNil))))))))) (vVar 10))) (gNext)))))))))))))) (gRel 6 (gRel 5 (gRel 4 (gRet (vL (lenOk (aCons (vVar 2) (aCons (vVar 3) (aCons (vVar 4) (aCons (vVar 5) (aCons (vVar 6) (aNil)))))))))))))))))
def sem_law_spoilt : List D → Option R := semF 13 g_law_spoilt
theorem ok_law_spoilt {P : Program} {w : World} {K : PySem.W.Frag} {mg : Str → Option Value} {base : Heap} (hy : Hyp K mg) : ∃ fd, FunD K d_law_spoilt.name d_law_spoilt.qual d_law_spoilt.params d_law_spoilt.body d_law_spoilt.scope (d_law_spoilt.dvs K) (d_law_spoilt.kws K) (He.fAd K d_law_spoilt.at_) fd ∧ FnOk P w K mg base (L2.CX P w) 1 (He.fAd K d_law_spoilt.at_) fd ["_law_world_here", "_law_row"] (spF (tab K) 2 (sem_law_spoilt)) := by
  obtain ⟨fd, F⟩ := hy.says.fn (0) (d := d_law_spoilt) rfl
  exact ⟨fd, F, fn_ev F sc_law_spoilt fun cdv A outer s H E hr => (ss_cons (ss_set 2 (hN := sc_law_spoilt.nd) (he := ee_ix (ha := ee_var 0) (hb := ee_int))) (ss_cons (ss_set 3 (hN := sc_law_spoilt.nd) (he := ee_ix (ha := ee_var 0) (hb := ee_int))) (ss_cons (ss_own 4 (hN := sc_law_spoilt.nd) (he := en_callT (hc := call_list_of) (h := (o_list rfl)) (hm := (free_list hy)) (hv := by decide +kernel) (ha := ea_cons (ee_ix (ha := ee_var 0) (hb := ee_int)) (ea_nil)))) (ss_cons (ss_own 5 (hN := sc_law_spoilt.nd) (he := en_callT (hc := call_list_of) (h := (o_list rfl)) (hm := (free_list hy)) (hv := by decide +kernel) (ha := ea_cons (ee_ix (ha := ee_var 0) (hb := ee_int)) (ea_nil)))) (ss_cons (ss_own 6 (hN := sc_law_spoilt.nd) (he := en_callT (hc := call_list_of) (h := (o_list rfl)) (hm := (free_list hy)) (hv := by decide +kernel) (ha := ea_cons (ee_ix (ha := ee_var 0) (hb := ee_int)) (ea_nil)))) (ss_cons (ss_for (hp := passes_of rfl) (hc := rfl) (hi := ei_range1 (hm := (free_range hy)) (ha := ee_ix (ha := en_ee (en_lst (ea_cons (ee_int) (ea_cons (ee_int) (ea_cons (ee_int) (ea_cons (ee_int) (ea_cons (ee_int) (ea_cons (ee_int) (ea_cons (ee_int) (ea_cons (ee_int) (ea_nil))))))))))) (hb := ee_mod (ha := ee_callT (hc := call_int1) (h := o_int) (hm := (free_int hy)) (hv := by decide +kernel) (ha := ea_cons (ee_ix (ha := ee_var 1) (hb := ee_int)) (ea_nil))) (hb := ee_int)))) (hg := eg_name 7 sc_law_spoilt.nd) (hb := ss_cons (ss_set 8 (hN := sc_law_spoilt.nd) (he := ee_mod (ha := ee_callT (hc := call_int1) (h := o_int) (hm := (free_int hy)) (hv := by decide +kernel) (ha := ea_cons (ee_ix (ha := ee_var 1) (hb := ee_add (ha := ee_int) (hb := ee_mul (ha := ee_int) (hb := ee_var 7)))) (ea_nil))) (hb := ee_int))) (ss_cons (ss_set 9 (hN := sc_law_spoilt.nd) (he := ee_mod (ha := ee_callT (hc := call_int1) (h := o_int) (hm := (free_int hy)) (hv := by decide +kernel) (ha := ea_cons (ee_ix (ha := ee_var 1) (hb := ee_add (ha := ee_int) (hb := ee_mul (ha := ee_int) (hb := ee_var 7)))) (ea_nil))) (hb := ee_var 2))) (ss_cons (ss_set 10 (hN := sc_law_spoilt.nd) (he := ee_mod (ha := ee_callT (hc := call_int1) (h := o_int) (hm := (free_int hy)) (hv := by decide +kernel) (ha := ea_cons (ee_ix (ha := ee_var 1) (hb := ee_add (ha := ee_int) (hb := ee_mul (ha := ee_int) (hb := ee_var 7)))) (ea_nil))) (hb := ee_int))) (ss_cons (ss_set 11 (hN := sc_law_spoilt.nd) (he := ee_callB (hc := call_len_seq) (h := (o_len rfl)) (hm := (free_len hy)) (hv := by decide +kernel) (ha := ea_cons (en_ee (en_lc (own := [("_law_k", 12)]) (hc := rfl) (hN := sc_law_spoilt.nd) (ok := blkOk_by (show blkC ["_law_world_here", "_law_row", "_law_mills", "_law_pairs", "_law_low", "_law_high", "_law_let", "_law_t", "_law_kind", "_law_mill", "_law_size", "_law_near", "_law_k"] (defScope st_law_spoilt) _ [("_law_k", 12)] = true by decide +kernel)) (hsub := by decide) (hi := ei_range1 (hm := (free_range hy)) (ha := ee_callB (hc := call_len_seq) (h := (o_len rfl)) (hm := (free_len hy)) (hv := by decide +kernel) (ha := ea_cons (ee_var 3) (ea_nil)))) (hg := fun _ _ _ _ _ => eg_name 12 sc_law_spoilt.nd) (ht := fun _ _ _ _ _ => et_one (eb_in (hr := hr) (hm := by rfl) (ha := ee_var 9) (hb := ee_ix (ha := ee_var 3) (hb := ee_var 12)))) (he := fun _ _ _ _ _ => ee_var 12))) (ea_nil)))) (ss_cons (ss_if (eb_le (ha := ee_var 8) (hb := ee_int)) (ss_one (ss_setIxA 4 (hg := fun h => pg_sub (pv 4) h set_list) (hk := ee_var 9) (he := ee_add (ha := ee_add (ha := ee_ix (ha := ee_var 4) (hb := ee_var 9)) (hb := ee_int)) (hb := ee_fdiv (ha := ee_var 10) (hb := ee_int))))) (ss_nil)) (ss_cons (ss_if (eb_eq (hr := hr) (ha := ee_var 8) (hb := ee_int)) (ss_one (ss_setIxA 4 (hg := fun h => pg_sub (pv 4) h set_list) (hk := ee_mod (ha := ee_callT (hc := call_int1) (h := o_int) (hm := (free_int hy)) (hv := by decide +kernel) (ha := ea_cons (ee_add (ha := ee_var 9) (hb := ee_int)) (ea_nil))) (hb := ee_var 2)) (he := ee_add (ha := ee_ix (ha := ee_var 4) (hb := ee_mod (ha := ee_callT (hc := call_int1) (h := o_int) (hm := (free_int hy)) (hv := by decide +kernel) (ha := ea_cons (ee_add (ha := ee_var 9) (hb := ee_int)) (ea_nil))) (hb := ee_var 2))) (hb := ee_int)))) (ss_nil)) (ss_cons (ss_if (eb_eq (hr := hr) (ha := ee_var 8) (hb := ee_int)) (ss_one (ss_setIxA 5 (hg := fun h => pg_sub (pv 5) h set_list) (hk := ee_var 9) (he := ee_ix (ha := ee_var 4) (hb := ee_var 9)))) (ss_nil)) (ss_cons (ss_if (eb_eq (hr := hr) (ha := ee_var 8) (hb := ee_int)) (ss_one (ss_setIxA 5 (hg := fun h => pg_sub (pv 5) h set_list) (hk := ee_var 9) (he := ee_callB (hc := (call_max2 rfl)) (h := o_max) (hm := (free_max hy)) (hv := by decide +kernel) (ha := ea_cons (ee_int) (ea_cons (ee_sub (ha := ee_ix (ha := ee_var 4) (hb := ee_var 9)) (hb := ee_int)) (ea_nil)))))) (ss_nil)) (ss_cons (ss_if (eb_eq (hr := hr) (ha := ee_var 8) (hb := ee_int)) (ss_one (ss_setIx 5 (hg := fun h => pg_sub (pv 5) h set_list) (hk := ee_var 9) (he := ee_ix (ha := en_ee (en_lst (ea_cons (ee_int) (ea_cons (ee_int) (ea_cons (ee_int) (ea_cons (ee_int) (ea_cons (ee_int) (ea_cons (ee_pow (ha := ee_int) (hb := ee_int)) (ea_nil))))))))) (hb := ee_var 10)))) (ss_nil)) (ss_cons (ss_if (eb_eq (hr := hr) (ha := ee_var 8) (hb := ee_int)) (ss_one (ss_setIx 4 (hg := fun h => pg_sub (pv 4) h set_list) (hk := ee_var 9) (he := ee_ix (ha := en_ee (en_lst (ea_cons (ee_var 11) (ea_cons (ee_var 11) (ea_cons (ee_add (ha := ee_var 11) (hb := ee_int)) (ea_cons (ee_var 11) (ea_cons (ee_add (ha := ee_pow (ha := ee_int) (hb := ee_int)) (hb := ee_var 11)) (ea_cons (ee_add (ha := ee_var 11) (hb := ee_int)) (ea_nil))))))))) (hb := ee_var 10)))) (ss_nil)) (ss_cons (ss_if (eb_eq (hr := hr) (ha := ee_var 8) (hb := ee_int)) (ss_one (ss_lc_A (ps_lcs (i := 5) (hy := rfl) (hyl := rfl) (hsw := sw_true rfl rfl rfl (by decide +kernel)) (own := [("_law_k", 12)]) (hc := rfl) (hN := sc_law_spoilt.nd) (ok := blkOk_by (show blkC ["_law_world_here", "_law_row", "_law_mills", "_law_pairs", "_law_low", "_law_high", "_law_let", "_law_t", "_law_kind", "_law_mill", "_law_size", "_law_near", "_law_k"] (defScope st_law_spoilt) _ [("_law_k", 12)] = true by decide +kernel)) (hi := ei_range1 (hm := (free_range hy)) (ha := ee_var 2)) (hg := fun _ _ _ _ _ => eg_name 12 sc_law_spoilt.nd) (ht := fun _ _ _ _ _ => et_nil) (he := fun _ _ _ _ _ => ee_add (ha := ee_ix (ha := ee_var 4) (hb := ee_var 12)) (hb := ee_mod (ha := ee_callT (hc := call_int1) (h := o_int) (hm := (free_int hy)) (hv := by decide +kernel) (ha := ea_cons (ee_add (ha := ee_var 12) (hb := ee_var 10)) (ea_nil))) (hb := ee_int)))) (w_lc (by decide)))) (ss_nil)) (ss_one (ss_if (eb_w (ew_and (eb_ge (ha := ee_var 8) (hb := ee_int)) (ew_and1 (eb_gt (ha := ee_callB (hc := call_len_seq) (h := (o_len rfl)) (hm := (free_len hy)) (hv := by decide +kernel) (ha := ea_cons (ee_var 3) (ea_nil))) (hb := ee_int))))) (ss_one (ss_setIx 6 (hg := fun h => pg_sub (pv 6) h set_list) (hk := ee_mod (ha := ee_callT (hc := call_int1) (h := o_int) (hm := (free_int hy)) (hv := by decide +kernel) (ha := ea_cons (ee_ix (ha := ee_var 1) (hb := ee_add (ha := ee_int) (hb := ee_mul (ha := ee_int) (hb := ee_var 7)))) (ea_nil))) (hb := ee_callB (hc := call_len_seq) (h := (o_len rfl)) (hm := (free_len hy)) (hv := by decide +kernel) (ha := ea_cons (ee_var 3) (ea_nil)))) (he := ee_ix (ha := en_ee (en_lst (ea_cons (ee_tup (ea_cons (ee_int) (ea_nil))) (ea_cons (ee_tup (ea_cons (ee_int) (ea_nil))) (ea_cons (ee_tup (ea_nil)) (ea_cons (ee_tup (ea_cons (ee_int) (ea_nil))) (ea_cons (ee_tup (ea_cons (ee_int) (ea_nil))) (ea_cons (ee_tup (ea_cons (ee_int) (ea_cons (ee_int) (ea_nil)))) (ea_nil))))))))) (hb := ee_var 10)))) (ss_nil))))))))))))))) (ss_one (ss_rel 6 (ss_rel 5 (ss_rel 4 (ss_ret (en_ee (en_lst (ea_cons (ee_var 2) (ea_cons (ee_var 3) (ea_cons (ee_var 4) (ea_cons (ee_var 5) (ea_cons (ee_var 6) (ea_nil)))))))))))))))))))⟩
end LW
end

section
set_option maxHeartbeats 4000000
namespace LW
open PySem L2 EV
theorem sc_law_digits : FnScope ["_law_cell_here", "_law_sizes", "_law_row", "_law_rest", "_law_size", "_law_seed", "_law_k", "_law_twice"] ["_law_cell_here", "_law_sizes"] (defScope st_law_digits) := ⟨rfl, rfl, rfl, by decide +kernel, rfl, by decide +kernel, by decide +kernel⟩
def g_law_digits : FS := gSeq (gOwn 2 (lenOk (aNil))) (gSeq (gSet 3 (vCall intD (aCons (vVar 0) (aNil)))) (gSeq (gIf (v2 geD (vVar 3) (v2 powD (vC (.int 10)) (vC (.int 18)))) (gSeq (gSet 3 (v2 subD (vVar 3) (v2 powD (vC (.int 10)) (vC (.int 18))))) (gSeq (gFor (iSeq (vVar 1)) (nmG 4) (gSeq (gAppO 2 (gApp 2 (v2 modD (vCall intD (aCons (vVar 3) (aNil))) (vVar 4)))) (gSet 3 (v2 fdivD (vCall intD (aCons (vVar 3) (aNil))) (vVar 4))))) (gRel 2 (gRet (vVar 2))))) (gNext)) (gSeq (gSet 5 (v2 modD (vCall intD (aCons (vVar 3) (aNil))) (vC (.int 2147483629)))) (gSeq (gFor (iRange1 (vCall lenD (aCons (vVar 1) (aNil)))) (nmG 6) (gSeq (gSet 5 (v2 modD (vCall intD (aCons (v2 addD (v2 addD (v2 mulD (vVar 5) (vC (.int 48271))) (v2 mulD (vC (.int 974711)) (vVar 6))) (vC (.int 12345))) (aNil))) (vC (.int 2147483647)))) (gSeq (gSet 7 (v2 modD (vCall intD (aCons (v2 mulD (vVar 5) (v2 addD (v2 fdivD (vVar 5) (vC (.int 65537))) (vC (.int 3)))) (aNil))) (vC (.int 2147483629)))) (gAppO 2 (gApp 2 (v2 modD (vCall intD (aCons (v2 fdivD (vVar 7) (vC (.int 19))) (aNil))) (v2 ixD (vVar 1) (vVar 6)))))))) (gRel 2 (gRet (vVar 2)))))))
def sem_law_digits : List D → Option R := semF 8 g_law_digits
theorem ok_law_digits {P : Program} {w : World} {K : PySem.W.Frag} {mg : Str → Option Value} {base : Heap} (hy : Hyp K mg) : ∃ fd, FunD K d_law_digits.name d_law_digits.qual d_law_digits.params d_law_digits.body d_law_digits.scope (d_law_digits.dvs K) (d_law_digits.kws K) (He.fAd K d_law_digits.at_) fd ∧ FnOk P w K mg base (L2.CX P w) 1 (He.fAd K d_law_digits.at_) fd ["_law_cell_here", "_law_sizes"] (spF (tab K) 2 (sem_law_digits)) := by
  obtain ⟨fd, F⟩ := hy.says.fn (1) (d := d_law_digits) rfl
  exact ⟨fd, F, fn_ev F sc_law_digits fun cdv A outer s H E hr => (ss_cons (ss_own 2 (hN := sc_law_digits.nd) (he := en_lst (ea_nil))) (ss_cons (ss_set 3 (hN := sc_law_digits.nd) (he := ee_callT (hc := call_int1) (h := o_int) (hm := (free_int hy)) (hv := by decide +kernel) (ha := ea_cons (ee_var 0) (ea_nil)))) (ss_cons (ss_if (eb_ge (ha := ee_var 3) (hb := ee_pow (ha := ee_int) (hb := ee_int))) (ss_cons (ss_set 3 (hN := sc_law_digits.nd) (he := ee_sub (ha := ee_var 3) (hb := ee_pow (ha := ee_int) (hb := ee_int)))) (ss_cons (ss_for (hp := passes_of rfl) (hc := rfl) (hi := ei_seq (he := ee_var 1)) (hg := eg_name 4 sc_law_digits.nd) (hb := ss_cons (ss_app 2 (he := ee_mod (ha := ee_callT (hc := call_int1) (h := o_int) (hm := (free_int hy)) (hv := by decide +kernel) (ha := ea_cons (ee_var 3) (ea_nil))) (hb := ee_var 4))) (ss_one (ss_set 3 (hN := sc_law_digits.nd) (he := ee_fdiv (ha := ee_callT (hc := call_int1) (h := o_int) (hm := (free_int hy)) (hv := by decide +kernel) (ha := ea_cons (ee_var 3) (ea_nil))) (hb := ee_var 4)))))) (ss_one (ss_rel 2 (ss_ret (ee_var 2)))))) (ss_nil)) (ss_cons (ss_set 5 (hN := sc_law_digits.nd) (he := ee_mod (ha := ee_callT (hc := call_int1) (h := o_int) (hm := (free_int hy)) (hv := by decide +kernel) (ha := ea_cons (ee_var 3) (ea_nil))) (hb := ee_int))) (ss_cons (ss_for (hp := passes_of rfl) (hc := rfl) (hi := ei_range1 (hm := (free_range hy)) (ha := ee_callB (hc := call_len_seq) (h := (o_len rfl)) (hm := (free_len hy)) (hv := by decide +kernel) (ha := ea_cons (ee_var 1) (ea_nil)))) (hg := eg_name 6 sc_law_digits.nd) (hb := ss_cons (ss_set 5 (hN := sc_law_digits.nd) (he := ee_mod (ha := ee_callT (hc := call_int1) (h := o_int) (hm := (free_int hy)) (hv := by decide +kernel) (ha := ea_cons (ee_add (ha := ee_add (ha := ee_mul (ha := ee_var 5) (hb := ee_int)) (hb := ee_mul (ha := ee_int) (hb := ee_var 6))) (hb := ee_int)) (ea_nil))) (hb := ee_int))) (ss_cons (ss_set 7 (hN := sc_law_digits.nd) (he := ee_mod (ha := ee_callT (hc := call_int1) (h := o_int) (hm := (free_int hy)) (hv := by decide +kernel) (ha := ea_cons (ee_mul (ha := ee_var 5) (hb := ee_add (ha := ee_fdiv (ha := ee_var 5) (hb := ee_int)) (hb := ee_int))) (ea_nil))) (hb := ee_int))) (ss_one (ss_app 2 (he := ee_mod (ha := ee_callT (hc := call_int1) (h := o_int) (hm := (free_int hy)) (hv := by decide +kernel) (ha := ea_cons (ee_fdiv (ha := ee_var 7) (hb := ee_int)) (ea_nil))) (hb := ee_ix (ha := ee_var 1) (hb := ee_var 6)))))))) (ss_one (ss_rel 2 (ss_ret (ee_var 2)))))))))⟩
end LW
end

section
set_option maxHeartbeats 4000000
namespace LW
open PySem L2 EV
theorem sc_frozen : FnScope ["value", "item"] ["value"] (defScope st_frozen) := ⟨rfl, rfl, rfl, by decide +kernel, rfl, by decide +kernel, by decide +kernel⟩
def g_frozen (sm_frozen : List D → Option R) : FS := gSeq (gIf (v1 (isD [.lst, .tup]) (vVar 0)) (gRet (vCall tupleD (aCons (vL (nLc (iSeq (vVar 0)) (nmG 1) (vYes) (vCallP 1 0 [0] sm_frozen [] (aCons (vVar 1) (aNil)) (aNil)) [1])) (aNil)))) (gNext)) (gRet (vVar 0))
def sem_frozen_0 : List D → Option R := fun _ => none
def sem_frozen_1 : List D → Option R := semF 2 (g_frozen sem_frozen_0)
def sem_frozen_2 : List D → Option R := semF 2 (g_frozen sem_frozen_1)
def sem_frozen_3 : List D → Option R := semF 2 (g_frozen sem_frozen_2)
abbrev sem_frozen : List D → Option R := sem_frozen_3
theorem ok_frozen_0 {P : Program} {w : World} {K : PySem.W.Frag} {mg : Str → Option Value} {base : Heap} (hy : Hyp K mg) : ∃ fd, FunD K d_frozen.name d_frozen.qual d_frozen.params d_frozen.body d_frozen.scope (d_frozen.dvs K) (d_frozen.kws K) (He.fAd K d_frozen.at_) fd ∧ FnOk P w K mg base (L2.CX P w) 0 (He.fAd K d_frozen.at_) fd ["value"] (spF (tab K) 1 (sem_frozen_0)) := by
  obtain ⟨fd, F⟩ := hy.says.fn (2) (d := d_frozen) rfl
  exact ⟨fd, F, fn_none⟩
theorem ok_frozen_1 {P : Program} {w : World} {K : PySem.W.Frag} {mg : Str → Option Value} {base : Heap} (hy : Hyp K mg) : ∃ fd, FunD K d_frozen.name d_frozen.qual d_frozen.params d_frozen.body d_frozen.scope (d_frozen.dvs K) (d_frozen.kws K) (He.fAd K d_frozen.at_) fd ∧ FnOk P w K mg base (L2.CX P w) 1 (He.fAd K d_frozen.at_) fd ["value"] (spF (tab K) 1 (sem_frozen_1)) := by
  obtain ⟨fd_frozen, F_frozen, G_frozen⟩ := ok_frozen_0 (P := P) (w := w) (base := base) hy
  have ab_frozen_1_ : ArgB K fd_frozen ["value"] 1 [] [] [0] := ArgB.given F_frozen (fun kV doc pm an cdv ct us ws l1 l2 => match us, l1, ws, l2 with | [_], _, [], _ => rfl)
  exact ⟨fd_frozen, F_frozen, fn_ev F_frozen sc_frozen fun cdv A outer s H E hr => (ss_cons (ss_if (eb_val (ee_isiT [.lst, .tup] (h := (.cons (free_list hy) (by decide +kernel) (.cons (free_tuple hy) (by decide +kernel) .nil))) (hl := by decide) (hm := (free_isinstance hy)) (ha := ee_var 0))) (ss_one (ss_ret (ee_callT (hc := call_tuple_of) (h := (o_tuple rfl)) (hm := (free_tuple hy)) (hv := by decide +kernel) (ha := ea_cons (en_ee (en_lc (own := [("item", 1)]) (hc := rfl) (hN := sc_frozen.nd) (ok := blkOk_by (show blkC ["value", "item"] (defScope st_frozen) _ [("item", 1)] = true by decide +kernel)) (hsub := by decide) (hi := ei_seq (he := ee_var 0)) (hg := fun _ _ _ _ _ => eg_name 1 sc_frozen.nd) (ht := fun _ _ _ _ _ => et_nil) (he := fun _ _ _ _ _ => ee_callP (F := G_frozen) (hr := hr.mono (by decide)) (hm := glo_frozen hy) (hk := F_frozen.kp) (hb := ab_frozen_1_) (tk := takes0) (hp := rfl) (hmx := by decide) (hdd := fun _ => .nil) (ha := ea_cons (ee_var 1) (ea_nil)) (hkw := ek_nil)))) (ea_nil))))) (ss_nil)) (ss_one (ss_ret (ee_var 0))))⟩
theorem ok_frozen_2 {P : Program} {w : World} {K : PySem.W.Frag} {mg : Str → Option Value} {base : Heap} (hy : Hyp K mg) : ∃ fd, FunD K d_frozen.name d_frozen.qual d_frozen.params d_frozen.body d_frozen.scope (d_frozen.dvs K) (d_frozen.kws K) (He.fAd K d_frozen.at_) fd ∧ FnOk P w K mg base (L2.CX P w) 2 (He.fAd K d_frozen.at_) fd ["value"] (spF (tab K) 1 (sem_frozen_2)) := by
  obtain ⟨fd_frozen, F_frozen, G_frozen⟩ := ok_frozen_1 (P := P) (w := w) (base := base) hy
  have ab_frozen_1_ : ArgB K fd_frozen ["value"] 1 [] [] [0] := ArgB.given F_frozen (fun kV doc pm an cdv ct us ws l1 l2 => match us, l1, ws, l2 with | [_], _, [], _ => rfl)
  exact ⟨fd_frozen, F_frozen, fn_ev F_frozen sc_frozen fun cdv A outer s H E hr => (ss_cons (ss_if (eb_val (ee_isiT [.lst, .tup] (h := (.cons (free_list hy) (by decide +kernel) (.cons (free_tuple hy) (by decide +kernel) .nil))) (hl := by decide) (hm := (free_isinstance hy)) (ha := ee_var 0))) (ss_one (ss_ret (ee_callT (hc := call_tuple_of) (h := (o_tuple rfl)) (hm := (free_tuple hy)) (hv := by decide +kernel) (ha := ea_cons (en_ee (en_lc (own := [("item", 1)]) (hc := rfl) (hN := sc_frozen.nd) (ok := blkOk_by (show blkC ["value", "item"] (defScope st_frozen) _ [("item", 1)] = true by decide +kernel)) (hsub := by decide) (hi := ei_seq (he := ee_var 0)) (hg := fun _ _ _ _ _ => eg_name 1 sc_frozen.nd) (ht := fun _ _ _ _ _ => et_nil) (he := fun _ _ _ _ _ => ee_callP (F := G_frozen) (hr := hr.mono (by decide)) (hm := glo_frozen hy) (hk := F_frozen.kp) (hb := ab_frozen_1_) (tk := takes0) (hp := rfl) (hmx := by decide) (hdd := fun _ => .nil) (ha := ea_cons (ee_var 1) (ea_nil)) (hkw := ek_nil)))) (ea_nil))))) (ss_nil)) (ss_one (ss_ret (ee_var 0))))⟩
theorem ok_frozen_3 {P : Program} {w : World} {K : PySem.W.Frag} {mg : Str → Option Value} {base : Heap} (hy : Hyp K mg) : ∃ fd, FunD K d_frozen.name d_frozen.qual d_frozen.params d_frozen.body d_frozen.scope (d_frozen.dvs K) (d_frozen.kws K) (He.fAd K d_frozen.at_) fd ∧ FnOk P w K mg base (L2.CX P w) 3 (He.fAd K d_frozen.at_) fd ["value"] (spF (tab K) 1 (sem_frozen_3)) := by
  obtain ⟨fd_frozen, F_frozen, G_frozen⟩ := ok_frozen_2 (P := P) (w := w) (base := base) hy
  have ab_frozen_1_ : ArgB K fd_frozen ["value"] 1 [] [] [0] := ArgB.given F_frozen (fun kV doc pm an cdv ct us ws l1 l2 => match us, l1, ws, l2 with | [_], _, [], _ => rfl)
  exact ⟨fd_frozen, F_frozen, fn_ev F_frozen sc_frozen fun cdv A outer s H E hr => (ss_cons (ss_if (eb_val (ee_isiT [.lst, .tup] (h := (.cons (free_list hy) (by decide +kernel) (.cons (free_tuple hy) (by decide +kernel) .nil))) (hl := by decide) (hm := (free_isinstance hy)) (ha := ee_var 0))) (ss_one (ss_ret (ee_callT (hc := call_tuple_of) (h := (o_tuple rfl)) (hm := (free_tuple hy)) (hv := by decide +kernel) (ha := ea_cons (en_ee (en_lc (own := [("item", 1)]) (hc := rfl) (hN := sc_frozen.nd) (ok := blkOk_by (show blkC ["value", "item"] (defScope st_frozen) _ [("item", 1)] = true by decide +kernel)) (hsub := by decide) (hi := ei_seq (he := ee_var 0)) (hg := fun _ _ _ _ _ => eg_name 1 sc_frozen.nd) (ht := fun _ _ _ _ _ => et_nil) (he := fun _ _ _ _ _ => ee_callP (F := G_frozen) (hr := hr.mono (by decide)) (hm := glo_frozen hy) (hk := F_frozen.kp) (hb := ab_frozen_1_) (tk := takes0) (hp := rfl) (hmx := by decide) (hdd := fun _ => .nil) (ha := ea_cons (ee_var 1) (ea_nil)) (hkw := ek_nil)))) (ea_nil))))) (ss_nil)) (ss_one (ss_ret (ee_var 0))))⟩
theorem ok_frozen {P : Program} {w : World} {K : PySem.W.Frag} {mg : Str → Option Value} {base : Heap} (hy : Hyp K mg) : ∃ fd, FunD K d_frozen.name d_frozen.qual d_frozen.params d_frozen.body d_frozen.scope (d_frozen.dvs K) (d_frozen.kws K) (He.fAd K d_frozen.at_) fd ∧ FnOk P w K mg base (L2.CX P w) 3 (He.fAd K d_frozen.at_) fd ["value"] (spF (tab K) 1 (sem_frozen)) := by
  exact ok_frozen_3 hy
end LW
end

section
set_option maxHeartbeats 4000000
namespace LW
open PySem L2 EV
theorem sc_bad_index : FnScope ["good", "many", "index", "is_good"] ["good", "many"] (defScope st_bad_index) := ⟨rfl, rfl, rfl, by decide +kernel, rfl, by decide +kernel, by decide +kernel⟩
def g_bad_index : FS := gSeq (gFor (iEnum (vVar 0)) (tupG (lenG 2 (consG (nmG 2) (consG (nmG 3) (nilG))))) (gIf (vOr (v2 geD (vVar 2) (vVar 1)) (v1 notD (vVar 3))) (gRet (vVar 2)) (gNext))) (gSeq (gIf (v2 ltD (vCall lenD (aCons (vVar 0) (aNil))) (vVar 1)) (gRet (vCall lenD (aCons (vVar 0) (aNil)))) (gNext)) (gRet (vC .non)))
def sem_bad_index : List D → Option R := semF 4 g_bad_index
theorem ok_bad_index {P : Program} {w : World} {K : PySem.W.Frag} {mg : Str → Option Value} {base : Heap} (hy : Hyp K mg) : ∃ fd, FunD K d_bad_index.name d_bad_index.qual d_bad_index.params d_bad_index.body d_bad_index.scope (d_bad_index.dvs K) (d_bad_index.kws K) (He.fAd K d_bad_index.at_) fd ∧ FnOk P w K mg base (L2.CX P w) 1 (He.fAd K d_bad_index.at_) fd ["good", "many"] (spF (tab K) 2 (sem_bad_index)) := by
  obtain ⟨fd, F⟩ := hy.says.fn (3) (d := d_bad_index) rfl
  exact ⟨fd, F, fn_ev F sc_bad_index fun cdv A outer s H E hr => (ss_cons (ss_for (hp := passes_of rfl) (hc := rfl) (hi := ei_enum (hm := (free_enumerate hy)) (ha := ee_var 0)) (hg := eg_tup (hc := rfl) (h := egs_cons (eg_name 2 sc_bad_index.nd) (egs_cons (eg_name 3 sc_bad_index.nd) (egs_nil)))) (hb := ss_one (ss_if (eb_w (ew_or (eb_ge (ha := ee_var 2) (hb := ee_var 1)) (ew_or1 (eb_not (eb_val (ee_var 3)))))) (ss_one (ss_ret (ee_var 2))) (ss_nil)))) (ss_cons (ss_if (eb_lt (ha := ee_callB (hc := call_len_seq) (h := (o_len rfl)) (hm := (free_len hy)) (hv := by decide +kernel) (ha := ea_cons (ee_var 0) (ea_nil))) (hb := ee_var 1)) (ss_one (ss_ret (ee_callB (hc := call_len_seq) (h := (o_len rfl)) (hm := (free_len hy)) (hv := by decide +kernel) (ha := ea_cons (ee_var 0) (ea_nil))))) (ss_nil)) (ss_one (ss_ret (ee_non)))))⟩
end LW
end

section
set_option maxHeartbeats 4000000
namespace LW
open PySem L2 EV
theorem sc_check_needs : FnScope ["valley", "needs", "index", "need"] ["valley", "needs"] (defScope st_check_needs) := ⟨rfl, rfl, rfl, by decide +kernel, rfl, by decide +kernel, by decide +kernel⟩
def g_check_needs : FS := gSeq (gSet 2 (vCallP 2 0 [0, 1] sem_bad_index [] (aCons (vL (nLc (iSeq (vVar 1)) (nmG 3) (vYes) (vAnd (v2 notNonD (vVar 3) (vC .non)) (v2 geD (vVar 3) (vC (.int 0)))) [3])) (aCons (v1 (fldD 7 0) (vVar 0)) (aNil))) (aNil))) (gIf (v2 notNonD (vVar 2) (vC .non)) (gNever) (gNext))
def sem_check_needs : List D → Option R := semF 4 g_check_needs
theorem ok_check_needs {P : Program} {w : World} {K : PySem.W.Frag} {mg : Str → Option Value} {base : Heap} (hy : Hyp K mg) : ∃ fd, FunD K d_check_needs.name d_check_needs.qual d_check_needs.params d_check_needs.body d_check_needs.scope (d_check_needs.dvs K) (d_check_needs.kws K) (He.fAd K d_check_needs.at_) fd ∧ FnOk P w K mg base (L2.CX P w) 2 (He.fAd K d_check_needs.at_) fd ["valley", "needs"] (spF (tab K) 2 (sem_check_needs)) := by
  obtain ⟨fd_bad_index, F_bad_index, G_bad_index⟩ := ok_bad_index (P := P) (w := w) (base := base) hy
  have ab_bad_index_2_ : ArgB K fd_bad_index ["good", "many"] 2 [] [] [0, 1] := ArgB.given F_bad_index (fun kV doc pm an cdv ct us ws l1 l2 => match us, l1, ws, l2 with | [_, _], _, [], _ => rfl)
  obtain ⟨fd, F⟩ := hy.says.fn (4) (d := d_check_needs) rfl
  exact ⟨fd, F, fn_ev F sc_check_needs fun cdv A outer s H E hr => (ss_cons (ss_set 2 (hN := sc_check_needs.nd) (he := ee_callP (F := G_bad_index) (hr := hr.mono (by decide)) (hm := glo_bad_index hy) (hk := F_bad_index.kp) (hb := ab_bad_index_2_) (tk := (takes_of rfl rfl rfl rfl)) (hp := rfl) (hmx := by decide) (hdd := fun _ => .nil) (ha := ea_cons (en_ee (en_lc (own := [("need", 3)]) (hc := rfl) (hN := sc_check_needs.nd) (ok := blkOk_by (show blkC ["valley", "needs", "index", "need"] (defScope st_check_needs) _ [("need", 3)] = true by decide +kernel)) (hsub := by decide) (hi := ei_seq (he := ee_var 1)) (hg := fun _ _ _ _ _ => eg_name 3 sc_check_needs.nd) (ht := fun _ _ _ _ _ => et_nil) (he := fun _ _ _ _ _ => ee_and (ee_notN (ha := ee_var 3) (hb := ee_non)) (ee_one (ee_ge (ha := ee_var 3) (hb := ee_int)))))) (ea_cons (ee_fld (F := fld_Valley_mills hy) (ha := ee_var 0)) (ea_nil))) (hkw := ek_nil))) (ss_one (ss_if (eb_notN (ha := ee_var 2) (hb := ee_non)) (ss_one (ss_never)) (ss_nil))))⟩
end LW
end

section
set_option maxHeartbeats 4000000
namespace LW
open PySem L2 EV
theorem sc_check_limits : FnScope ["valley", "limits", "index", "limit"] ["valley", "limits"] (defScope st_check_limits) := ⟨rfl, rfl, rfl, by decide +kernel, rfl, by decide +kernel, by decide +kernel⟩
def g_check_limits : FS := gSeq (gSet 2 (vCallP 2 0 [0, 1] sem_bad_index [] (aCons (vL (nLc (iSeq (vVar 1)) (nmG 3) (vYes) (vOr (v2 isNonD (vVar 3) (vC .non)) (v2 geD (vVar 3) (vC (.int 0)))) [3])) (aCons (v1 (fldD 7 0) (vVar 0)) (aNil))) (aNil))) (gIf (v2 notNonD (vVar 2) (vC .non)) (gNever) (gNext))
def sem_check_limits : List D → Option R := semF 4 g_check_limits
theorem ok_check_limits {P : Program} {w : World} {K : PySem.W.Frag} {mg : Str → Option Value} {base : Heap} (hy : Hyp K mg) : ∃ fd, FunD K d_check_limits.name d_check_limits.qual d_check_limits.params d_check_limits.body d_check_limits.scope (d_check_limits.dvs K) (d_check_limits.kws K) (He.fAd K d_check_limits.at_) fd ∧ FnOk P w K mg base (L2.CX P w) 2 (He.fAd K d_check_limits.at_) fd ["valley", "limits"] (spF (tab K) 2 (sem_check_limits)) := by
  obtain ⟨fd_bad_index, F_bad_index, G_bad_index⟩ := ok_bad_index (P := P) (w := w) (base := base) hy
  have ab_bad_index_2_ : ArgB K fd_bad_index ["good", "many"] 2 [] [] [0, 1] := ArgB.given F_bad_index (fun kV doc pm an cdv ct us ws l1 l2 => match us, l1, ws, l2 with | [_, _], _, [], _ => rfl)
  obtain ⟨fd, F⟩ := hy.says.fn (5) (d := d_check_limits) rfl
  exact ⟨fd, F, fn_ev F sc_check_limits fun cdv A outer s H E hr => (ss_cons (ss_set 2 (hN := sc_check_limits.nd) (he := ee_callP (F := G_bad_index) (hr := hr.mono (by decide)) (hm := glo_bad_index hy) (hk := F_bad_index.kp) (hb := ab_bad_index_2_) (tk := (takes_of rfl rfl rfl rfl)) (hp := rfl) (hmx := by decide) (hdd := fun _ => .nil) (ha := ea_cons (en_ee (en_lc (own := [("limit", 3)]) (hc := rfl) (hN := sc_check_limits.nd) (ok := blkOk_by (show blkC ["valley", "limits", "index", "limit"] (defScope st_check_limits) _ [("limit", 3)] = true by decide +kernel)) (hsub := by decide) (hi := ei_seq (he := ee_var 1)) (hg := fun _ _ _ _ _ => eg_name 3 sc_check_limits.nd) (ht := fun _ _ _ _ _ => et_nil) (he := fun _ _ _ _ _ => ee_or (ee_isN (ha := ee_var 3) (hb := ee_non)) (ee_one (ee_ge (ha := ee_var 3) (hb := ee_int)))))) (ea_cons (ee_fld (F := fld_Valley_mills hy) (ha := ee_var 0)) (ea_nil))) (hkw := ek_nil))) (ss_one (ss_if (eb_notN (ha := ee_var 2) (hb := ee_non)) (ss_one (ss_never)) (ss_nil))))⟩
end LW
end

section
set_option maxHeartbeats 4000000
namespace LW
open PySem L2 EV
theorem sc_check_sides : FnScope ["valley", "sides", "index", "let"] ["valley", "sides"] (defScope st_check_sides) := ⟨rfl, rfl, rfl, by decide +kernel, rfl, by decide +kernel, by decide +kernel⟩
def g_check_sides : FS := gSeq (gSet 2 (vCallP 2 0 [0, 1] sem_bad_index [] (aCons (vL (nLc (iSeq (vVar 1)) (nmG 3) (vYes) (v2 inD (vVar 3) (vC c_LET_SIDES)) [3])) (aCons (vCall lenD (aCons (v1 (fldD 7 1) (vVar 0)) (aNil))) (aNil))) (aNil))) (gIf (v2 notNonD (vVar 2) (vC .non)) (gNever) (gNext))
def sem_check_sides : List D → Option R := semF 4 g_check_sides
theorem ok_check_sides {P : Program} {w : World} {K : PySem.W.Frag} {mg : Str → Option Value} {base : Heap} (hy : Hyp K mg) : ∃ fd, FunD K d_check_sides.name d_check_sides.qual d_check_sides.params d_check_sides.body d_check_sides.scope (d_check_sides.dvs K) (d_check_sides.kws K) (He.fAd K d_check_sides.at_) fd ∧ FnOk P w K mg base (L2.CX P w) 2 (He.fAd K d_check_sides.at_) fd ["valley", "sides"] (spF (tab K) 2 (sem_check_sides)) := by
  obtain ⟨fd_bad_index, F_bad_index, G_bad_index⟩ := ok_bad_index (P := P) (w := w) (base := base) hy
  have ab_bad_index_2_ : ArgB K fd_bad_index ["good", "many"] 2 [] [] [0, 1] := ArgB.given F_bad_index (fun kV doc pm an cdv ct us ws l1 l2 => match us, l1, ws, l2 with | [_, _], _, [], _ => rfl)
  obtain ⟨fd, F⟩ := hy.says.fn (6) (d := d_check_sides) rfl
  exact ⟨fd, F, fn_ev F sc_check_sides fun cdv A outer s H E hr => (ss_cons (ss_set 2 (hN := sc_check_sides.nd) (he := ee_callP (F := G_bad_index) (hr := hr.mono (by decide)) (hm := glo_bad_index hy) (hk := F_bad_index.kp) (hb := ab_bad_index_2_) (tk := (takes_of rfl rfl rfl rfl)) (hp := rfl) (hmx := by decide) (hdd := fun _ => .nil) (ha := ea_cons (en_ee (en_lc (own := [("let", 3)]) (hc := rfl) (hN := sc_check_sides.nd) (ok := blkOk_by (show blkC ["valley", "sides", "index", "let"] (defScope st_check_sides) _ [("let", 3)] = true by decide +kernel)) (hsub := by decide) (hi := ei_seq (he := ee_var 1)) (hg := fun _ _ _ _ _ => eg_name 3 sc_check_sides.nd) (ht := fun _ _ _ _ _ => et_nil) (he := fun _ _ _ _ _ => ee_in (hr := hr) (hm := by rfl) (ha := ee_var 3) (hb := ee_globC (con_LET_SIDES hy))))) (ea_cons (ee_callB (hc := call_len_seq) (h := (o_len rfl)) (hm := (free_len hy)) (hv := by decide +kernel) (ha := ea_cons (ee_fld (F := fld_Valley_sluices hy) (ha := ee_var 0)) (ea_nil))) (ea_nil))) (hkw := ek_nil))) (ss_one (ss_if (eb_notN (ha := ee_var 2) (hb := ee_non)) (ss_one (ss_never)) (ss_nil))))⟩
end LW
end

section
set_option maxHeartbeats 4000000
namespace LW
open PySem L2 EV
theorem sc_Season__init : FnScope ["self", "valley", "needs", "limits", "sides", "_"] ["self", "valley", "needs", "limits", "sides"] (defScope st_Season__init) := ⟨rfl, rfl, rfl, by decide +kernel, rfl, by decide +kernel, by decide +kernel⟩
def g_Season__init : FS := gSeq (gIf (v2 isNonD (vVar 2) (vC .non)) (gSet 2 (vL (nLc (iRange1 (v1 (fldD 7 0) (vVar 1))) (nmG 5) (vYes) (vC (.int 0)) [5]))) (gNext)) (gSeq (gIf (v2 isNonD (vVar 3) (vC .non)) (gSet 3 (vL (nLc (iRange1 (v1 (fldD 7 0) (vVar 1))) (nmG 5) (vYes) (vC .non) [5]))) (gNext)) (gSeq (gIf (v2 isNonD (vVar 4) (vC .non)) (gSet 4 (vL (nLc (iRange1 (vCall lenD (aCons (v1 (fldD 7 1) (vVar 1)) (aNil)))) (nmG 5) (vYes) (vC c_BOTH) [5]))) (gNext)) (gSeq (gFld 0 6 0 (vVar 1)) (gSeq (gFld 0 6 1 (vCallP 1 0 [0] sem_frozen [] (aCons (vVar 2) (aNil)) (aNil))) (gSeq (gFld 0 6 2 (vCallP 1 0 [0] sem_frozen [] (aCons (vVar 3) (aNil)) (aNil))) (gSeq (gFld 0 6 3 (vCallP 1 0 [0] sem_frozen [] (aCons (vVar 4) (aNil)) (aNil))) (gSeq (gDropA (vCallP 2 0 [0, 1] sem_check_needs [] (aCons (vVar 1) (aCons (v1 (fldD 6 1) (vVar 0)) (aNil))) (aNil))) (gSeq (gDropA (vCallP 2 0 [0, 1] sem_check_limits [] (aCons (vVar 1) (aCons (v1 (fldD 6 2) (vVar 0)) (aNil))) (aNil))) (gDropA (vCallP 2 0 [0, 1] sem_check_sides [] (aCons (vVar 1) (aCons (v1 (fldD 6 3) (vVar 0)) (aNil))) (aNil)))))))))))
def sem_Season__init : List D → Option R := semI 6 6 g_Season__init
theorem ok_Season__init {P : Program} {w : World} {K : PySem.W.Frag} {mg : Str → Option Value} {base : Heap} (hy : Hyp K mg) : ∃ fd, FunD K d_Season__init.name d_Season__init.qual d_Season__init.params d_Season__init.body d_Season__init.scope (d_Season__init.dvs K) (d_Season__init.kws K) (He.fAd K d_Season__init.at_) fd ∧ FnOk P w K mg base (L2.CX P w) 4 (He.fAd K d_Season__init.at_) fd ["self", "valley", "needs", "limits", "sides"] (spI (tab K) 6 5 (sem_Season__init)) := by
  obtain ⟨fd_frozen, F_frozen, G_frozen⟩ := ok_frozen (P := P) (w := w) (base := base) hy
  obtain ⟨fd_check_needs, F_check_needs, G_check_needs⟩ := ok_check_needs (P := P) (w := w) (base := base) hy
  obtain ⟨fd_check_limits, F_check_limits, G_check_limits⟩ := ok_check_limits (P := P) (w := w) (base := base) hy
  obtain ⟨fd_check_sides, F_check_sides, G_check_sides⟩ := ok_check_sides (P := P) (w := w) (base := base) hy
  have ab_frozen_1_ : ArgB K fd_frozen ["value"] 1 [] [] [0] := ArgB.given F_frozen (fun kV doc pm an cdv ct us ws l1 l2 => match us, l1, ws, l2 with | [_], _, [], _ => rfl)
  have ab_check_needs_2_ : ArgB K fd_check_needs ["valley", "needs"] 2 [] [] [0, 1] := ArgB.given F_check_needs (fun kV doc pm an cdv ct us ws l1 l2 => match us, l1, ws, l2 with | [_, _], _, [], _ => rfl)
  have ab_check_limits_2_ : ArgB K fd_check_limits ["valley", "limits"] 2 [] [] [0, 1] := ArgB.given F_check_limits (fun kV doc pm an cdv ct us ws l1 l2 => match us, l1, ws, l2 with | [_, _], _, [], _ => rfl)
  have ab_check_sides_2_ : ArgB K fd_check_sides ["valley", "sides"] 2 [] [] [0, 1] := ArgB.given F_check_sides (fun kV doc pm an cdv ct us ws l1 l2 => match us, l1, ws, l2 with | [_, _], _, [], _ => rfl)
  obtain ⟨fd, F⟩ := hy.says.fn (7) (d := d_Season__init) rfl
  exact ⟨fd, F, fn_evI 6 F sc_Season__init (by decide) fun cdv A outer s H E hr => (ss_cons (ss_if (eb_isN (ha := ee_var 2) (hb := ee_non)) (ss_one (ss_lc_v (ps_lcs (i := 2) (hy := rfl) (hyl := rfl) (hsw := sw_true rfl rfl rfl (by decide +kernel)) (own := [("_", 5)]) (hc := rfl) (hN := sc_Season__init.nd) (ok := blkOk_by (show blkC ["self", "valley", "needs", "limits", "sides", "_"] (defScope st_Season__init) _ [("_", 5)] = true by decide +kernel)) (hi := ei_range1 (hm := (free_range hy)) (ha := ee_fld (F := fld_Valley_mills hy) (ha := ee_var 1))) (hg := fun _ _ _ _ _ => eg_name 5 sc_Season__init.nd) (ht := fun _ _ _ _ _ => et_nil) (he := fun _ _ _ _ _ => ee_int)) (w_lc (by decide)))) (ss_nil)) (ss_cons (ss_if (eb_isN (ha := ee_var 3) (hb := ee_non)) (ss_one (ss_lc_v (ps_lcs (i := 3) (hy := rfl) (hyl := rfl) (hsw := sw_true rfl rfl rfl (by decide +kernel)) (own := [("_", 5)]) (hc := rfl) (hN := sc_Season__init.nd) (ok := blkOk_by (show blkC ["self", "valley", "needs", "limits", "sides", "_"] (defScope st_Season__init) _ [("_", 5)] = true by decide +kernel)) (hi := ei_range1 (hm := (free_range hy)) (ha := ee_fld (F := fld_Valley_mills hy) (ha := ee_var 1))) (hg := fun _ _ _ _ _ => eg_name 5 sc_Season__init.nd) (ht := fun _ _ _ _ _ => et_nil) (he := fun _ _ _ _ _ => ee_non)) (w_lc (by decide)))) (ss_nil)) (ss_cons (ss_if (eb_isN (ha := ee_var 4) (hb := ee_non)) (ss_one (ss_lc_v (ps_lcs (i := 4) (hy := rfl) (hyl := rfl) (hsw := sw_true rfl rfl rfl (by decide +kernel)) (own := [("_", 5)]) (hc := rfl) (hN := sc_Season__init.nd) (ok := blkOk_by (show blkC ["self", "valley", "needs", "limits", "sides", "_"] (defScope st_Season__init) _ [("_", 5)] = true by decide +kernel)) (hi := ei_range1 (hm := (free_range hy)) (ha := ee_callB (hc := call_len_seq) (h := (o_len rfl)) (hm := (free_len hy)) (hv := by decide +kernel) (ha := ea_cons (ee_fld (F := fld_Valley_sluices hy) (ha := ee_var 1)) (ea_nil)))) (hg := fun _ _ _ _ _ => eg_name 5 sc_Season__init.nd) (ht := fun _ _ _ _ _ => et_nil) (he := fun _ _ _ _ _ => ee_globC (con_BOTH hy))) (w_lc (by decide)))) (ss_nil)) (ss_cons (ss_fld 0 (F := fld_Season_valley hy) (he := ee_var 1)) (ss_cons (ss_fld 0 (F := fld_Season_needs hy) (he := ee_callP (F := G_frozen) (hr := hr.mono (by decide)) (hm := glo_frozen hy) (hk := F_frozen.kp) (hb := ab_frozen_1_) (tk := (takes_of rfl rfl rfl rfl)) (hp := rfl) (hmx := by decide) (hdd := fun _ => .nil) (ha := ea_cons (ee_var 2) (ea_nil)) (hkw := ek_nil))) (ss_cons (ss_fld 0 (F := fld_Season_limits hy) (he := ee_callP (F := G_frozen) (hr := hr.mono (by decide)) (hm := glo_frozen hy) (hk := F_frozen.kp) (hb := ab_frozen_1_) (tk := (takes_of rfl rfl rfl rfl)) (hp := rfl) (hmx := by decide) (hdd := fun _ => .nil) (ha := ea_cons (ee_var 3) (ea_nil)) (hkw := ek_nil))) (ss_cons (ss_fld 0 (F := fld_Season_sides hy) (he := ee_callP (F := G_frozen) (hr := hr.mono (by decide)) (hm := glo_frozen hy) (hk := F_frozen.kp) (hb := ab_frozen_1_) (tk := (takes_of rfl rfl rfl rfl)) (hp := rfl) (hmx := by decide) (hdd := fun _ => .nil) (ha := ea_cons (ee_var 4) (ea_nil)) (hkw := ek_nil))) (ss_cons (ss_exprA (ee_callP (F := G_check_needs) (hr := hr.mono (by decide)) (hm := glo_check_needs hy) (hk := F_check_needs.kp) (hb := ab_check_needs_2_) (tk := (takes_of rfl rfl rfl rfl)) (hp := rfl) (hmx := by decide) (hdd := fun _ => .nil) (ha := ea_cons (ee_var 1) (ea_cons (ee_fld (F := fld_Season_needs hy) (ha := ee_var 0)) (ea_nil))) (hkw := ek_nil))) (ss_cons (ss_exprA (ee_callP (F := G_check_limits) (hr := hr.mono (by decide)) (hm := glo_check_limits hy) (hk := F_check_limits.kp) (hb := ab_check_limits_2_) (tk := (takes_of rfl rfl rfl rfl)) (hp := rfl) (hmx := by decide) (hdd := fun _ => .nil) (ha := ea_cons (ee_var 1) (ea_cons (ee_fld (F := fld_Season_limits hy) (ha := ee_var 0)) (ea_nil))) (hkw := ek_nil))) (ss_one (ss_exprA (ee_callP (F := G_check_sides) (hr := hr.mono (by decide)) (hm := glo_check_sides hy) (hk := F_check_sides.kp) (hb := ab_check_sides_2_) (tk := (takes_of rfl rfl rfl rfl)) (hp := rfl) (hmx := by decide) (hdd := fun _ => .nil) (ha := ea_cons (ee_var 1) (ea_cons (ee_fld (F := fld_Season_sides hy) (ha := ee_var 0)) (ea_nil))) (hkw := ek_nil)))))))))))))⟩
end LW
end

section
set_option maxHeartbeats 4000000
namespace LW
open PySem L2 EV
theorem sc_check_pairs : FnScope ["mills", "pairs", "index", "first", "second"] ["mills", "pairs"] (defScope st_check_pairs) := ⟨rfl, rfl, rfl, by decide +kernel, rfl, by decide +kernel, by decide +kernel⟩
def g_check_pairs : FS := gFor (iEnum (vVar 1)) (tupG (lenG 2 (consG (nmG 2) (consG (tupG (lenG 2 (consG (nmG 3) (consG (nmG 4) (nilG))))) (nilG))))) (gIf (vOr (v2 ltD (vVar 3) (vC (.int 0))) (vOr (v2 geD (vVar 3) (vVar 0)) (vOr (v2 ltD (vVar 4) (vC (.int 0))) (vOr (v2 geD (vVar 4) (vVar 0)) (v2 eqD (vVar 3) (vVar 4)))))) (gNever) (gNext))
def sem_check_pairs : List D → Option R := semF 5 g_check_pairs
theorem ok_check_pairs {P : Program} {w : World} {K : PySem.W.Frag} {mg : Str → Option Value} {base : Heap} (hy : Hyp K mg) : ∃ fd, FunD K d_check_pairs.name d_check_pairs.qual d_check_pairs.params d_check_pairs.body d_check_pairs.scope (d_check_pairs.dvs K) (d_check_pairs.kws K) (He.fAd K d_check_pairs.at_) fd ∧ FnOk P w K mg base (L2.CX P w) 1 (He.fAd K d_check_pairs.at_) fd ["mills", "pairs"] (spF (tab K) 2 (sem_check_pairs)) := by
  obtain ⟨fd, F⟩ := hy.says.fn (8) (d := d_check_pairs) rfl
  exact ⟨fd, F, fn_ev F sc_check_pairs fun cdv A outer s H E hr => (ss_one (ss_for (hp := passes_of rfl) (hc := rfl) (hi := ei_enum (hm := (free_enumerate hy)) (ha := ee_var 1)) (hg := eg_tup (hc := rfl) (h := egs_cons (eg_name 2 sc_check_pairs.nd) (egs_cons (eg_tup (hc := rfl) (h := egs_cons (eg_name 3 sc_check_pairs.nd) (egs_cons (eg_name 4 sc_check_pairs.nd) (egs_nil)))) (egs_nil)))) (hb := ss_one (ss_if (eb_w (ew_or (eb_lt (ha := ee_var 3) (hb := ee_int)) (ew_or (eb_ge (ha := ee_var 3) (hb := ee_var 0)) (ew_or (eb_lt (ha := ee_var 4) (hb := ee_int)) (ew_or (eb_ge (ha := ee_var 4) (hb := ee_var 0)) (ew_or1 (eb_eq (hr := hr) (ha := ee_var 3) (hb := ee_var 4)))))))) (ss_one (ss_never)) (ss_nil)))))⟩
end LW
end

section
set_option maxHeartbeats 4000000
namespace LW
open PySem L2 EV
theorem sc_Valley__init : FnScope ["self", "mills", "sluices", "pairs"] ["self", "mills", "sluices"] (defScope st_Valley__init) := ⟨rfl, rfl, rfl, by decide +kernel, rfl, by decide +kernel, by decide +kernel⟩
def g_Valley__init : FS := gSeq (gSet 3 (vCallP 1 0 [0] sem_frozen [] (aCons (vVar 2) (aNil)) (aNil))) (gSeq (gDrop (vCallP 2 0 [0, 1] sem_check_pairs [] (aCons (vVar 1) (aCons (vVar 3) (aNil))) (aNil))) (gSeq (gFld 0 7 0 (vVar 1)) (gFld 0 7 1 (vVar 3))))
def sem_Valley__init : List D → Option R := semI 7 4 g_Valley__init
theorem ok_Valley__init {P : Program} {w : World} {K : PySem.W.Frag} {mg : Str → Option Value} {base : Heap} (hy : Hyp K mg) : ∃ fd, FunD K d_Valley__init.name d_Valley__init.qual d_Valley__init.params d_Valley__init.body d_Valley__init.scope (d_Valley__init.dvs K) (d_Valley__init.kws K) (He.fAd K d_Valley__init.at_) fd ∧ FnOk P w K mg base (L2.CX P w) 4 (He.fAd K d_Valley__init.at_) fd ["self", "mills", "sluices"] (spI (tab K) 7 3 (sem_Valley__init)) := by
  obtain ⟨fd_frozen, F_frozen, G_frozen⟩ := ok_frozen (P := P) (w := w) (base := base) hy
  obtain ⟨fd_check_pairs, F_check_pairs, G_check_pairs⟩ := ok_check_pairs (P := P) (w := w) (base := base) hy
  have ab_frozen_1_ : ArgB K fd_frozen ["value"] 1 [] [] [0] := ArgB.given F_frozen (fun kV doc pm an cdv ct us ws l1 l2 => match us, l1, ws, l2 with | [_], _, [], _ => rfl)
  have ab_check_pairs_2_ : ArgB K fd_check_pairs ["mills", "pairs"] 2 [] [] [0, 1] := ArgB.given F_check_pairs (fun kV doc pm an cdv ct us ws l1 l2 => match us, l1, ws, l2 with | [_, _], _, [], _ => rfl)
  obtain ⟨fd, F⟩ := hy.says.fn (9) (d := d_Valley__init) rfl
  exact ⟨fd, F, fn_evI 7 F sc_Valley__init (by decide) fun cdv A outer s H E hr => (ss_cons (ss_set 3 (hN := sc_Valley__init.nd) (he := ee_callP (F := G_frozen) (hr := hr.mono (by decide)) (hm := glo_frozen hy) (hk := F_frozen.kp) (hb := ab_frozen_1_) (tk := (takes_of rfl rfl rfl rfl)) (hp := rfl) (hmx := by decide) (hdd := fun _ => .nil) (ha := ea_cons (ee_var 2) (ea_nil)) (hkw := ek_nil))) (ss_cons (ss_expr (ee_callP (F := G_check_pairs) (hr := hr.mono (by decide)) (hm := glo_check_pairs hy) (hk := F_check_pairs.kp) (hb := ab_check_pairs_2_) (tk := (takes_of rfl rfl rfl rfl)) (hp := rfl) (hmx := by decide) (hdd := fun _ => .nil) (ha := ea_cons (ee_var 1) (ea_cons (ee_var 3) (ea_nil))) (hkw := ek_nil))) (ss_cons (ss_fld 0 (F := fld_Valley_mills hy) (he := ee_var 1)) (ss_one (ss_fld 0 (F := fld_Valley_sluices hy) (he := ee_var 3))))))⟩
end LW
end

section
set_option maxHeartbeats 4000000
namespace LW
open PySem L2 EV
theorem sc_law_season : FnScope ["_law_world_here"] ["_law_world_here"] (defScope st_law_season) := ⟨rfl, rfl, rfl, by decide +kernel, rfl, by decide +kernel, by decide +kernel⟩
def g_law_season : FS := gRet (vCallP 1 3 [0, 1, 2, 3] sem_Season__init [] (aCons (vCallP 2 0 [0, 1] sem_Valley__init [] (aCons (v2 ixD (vVar 0) (vC (.int 0))) (aCons (vL (nCall listD (aCons (v2 ixD (vVar 0) (vC (.int 1))) (aNil)))) (aNil))) (aNil)) (aNil)) (aCons (vL (nCall listD (aCons (v2 ixD (vVar 0) (vC (.int 2))) (aNil)))) (aCons (vL (nCall listD (aCons (v2 ixD (vVar 0) (vC (.int 3))) (aNil)))) (aCons (vL (nCall listD (aCons (v2 ixD (vVar 0) (vC (.int 4))) (aNil)))) (aNil)))))
def sem_law_season : List D → Option R := semF 1 g_law_season
theorem ok_law_season {P : Program} {w : World} {K : PySem.W.Frag} {mg : Str → Option Value} {base : Heap} (hy : Hyp K mg) : ∃ fd, FunD K d_law_season.name d_law_season.qual d_law_season.params d_law_season.body d_law_season.scope (d_law_season.dvs K) (d_law_season.kws K) (He.fAd K d_law_season.at_) fd ∧ FnOk P w K mg base (L2.CX P w) 6 (He.fAd K d_law_season.at_) fd ["_law_world_here"] (spF (tab K) 1 (sem_law_season)) := by
  obtain ⟨fd_Season__init, F_Season__init, G_Season__init⟩ := ok_Season__init (P := P) (w := w) (base := base) hy
  obtain ⟨fd_Valley__init, F_Valley__init, G_Valley__init⟩ := ok_Valley__init (P := P) (w := w) (base := base) hy
  have ab_Season__init_1_needs_limits_sides : ArgB K fd_Season__init ["self", "valley", "needs", "limits", "sides"] 2 ["needs", "limits", "sides"] [] [0, 1, 2, 3, 4] := ArgB.given F_Season__init (fun kV doc pm an cdv ct us ws l1 l2 => match us, l1, ws, l2 with | [_, _], _, [_, _, _], _ => rfl)
  have ab_Valley__init_2_ : ArgB K fd_Valley__init ["self", "mills", "sluices"] 3 [] [] [0, 1, 2] := ArgB.unused F_Valley__init (List.cons_ne_nil _ _) (fun T kV doc pm an cdv ct us its ws l1 l3 l2 => match us, l1, its, l3, ws, l2 with | [_, _, _], _, [_], _, [], _ => ⟨_, rfl, rfl⟩)
  obtain ⟨fd, F⟩ := hy.says.fn (10) (d := d_law_season) rfl
  exact ⟨fd, F, fn_ev F sc_law_season fun cdv A outer s H E hr => (ss_one (ss_ret (ee_makeP (hs := semI_obj) (M := mk_Season hy) (F := G_Season__init) (hr := hr.mono (by decide)) (hm := glo_Season hy) (hb := ab_Season__init_1_needs_limits_sides) (tk := (takes_of rfl rfl rfl rfl)) (hp := rfl) (hmx := by decide) (hdd := fun _ => .nil) (ha := ea_cons (ee_makeP (hs := semI_obj) (M := mk_Valley hy) (F := G_Valley__init) (hr := hr.mono (by decide)) (hm := glo_Valley hy) (hb := ab_Valley__init_2_) (tk := (takes_of rfl rfl rfl rfl)) (hp := rfl) (hmx := by decide) (hdd := fun _ => .nil) (ha := ea_cons (ee_ix (ha := ee_var 0) (hb := ee_int)) (ea_cons (en_ee (en_callT (hc := call_list_of) (h := (o_list rfl)) (hm := (free_list hy)) (hv := by decide +kernel) (ha := ea_cons (ee_ix (ha := ee_var 0) (hb := ee_int)) (ea_nil)))) (ea_nil))) (hkw := ek_nil)) (ea_nil)) (hkw := ek_cons (en_ee (en_callT (hc := call_list_of) (h := (o_list rfl)) (hm := (free_list hy)) (hv := by decide +kernel) (ha := ea_cons (ee_ix (ha := ee_var 0) (hb := ee_int)) (ea_nil)))) (ek_cons (en_ee (en_callT (hc := call_list_of) (h := (o_list rfl)) (hm := (free_list hy)) (hv := by decide +kernel) (ha := ea_cons (ee_ix (ha := ee_var 0) (hb := ee_int)) (ea_nil)))) (ek_cons (en_ee (en_callT (hc := call_list_of) (h := (o_list rfl)) (hm := (free_list hy)) (hv := by decide +kernel) (ha := ea_cons (ee_ix (ha := ee_var 0) (hb := ee_int)) (ea_nil)))) (ek_nil)))))))⟩
end LW
end

section
set_option maxHeartbeats 4000000
namespace LW
open PySem L2 EV
theorem sc_law_sharing : FnScope ["_law_rule", "_law_world_here", "_law_sharing_here", "_law_land"] ["_law_rule", "_law_world_here", "_law_sharing_here"] (defScope st_law_sharing) := ⟨rfl, rfl, rfl, by decide +kernel, rfl, by decide +kernel, by decide +kernel⟩
def g_law_sharing : FS := gSeq (gSet 3 (vIf (vVar 2) (v1 (fldD 6 0) (vVar 0)) (vCallP 2 0 [0, 1] sem_Valley__init [] (aCons (v2 ixD (vVar 1) (vC (.int 0))) (aCons (vL (nCall listD (aCons (v2 ixD (vVar 1) (vC (.int 1))) (aNil)))) (aNil))) (aNil)))) (gRet (vCallP 1 3 [0, 1, 2, 3] sem_Season__init [] (aCons (vVar 3) (aNil)) (aCons (vL (nCall listD (aCons (v2 ixD (vVar 1) (vC (.int 2))) (aNil)))) (aCons (vL (nCall listD (aCons (v2 ixD (vVar 1) (vC (.int 3))) (aNil)))) (aCons (vL (nCall listD (aCons (v2 ixD (vVar 1) (vC (.int 4))) (aNil)))) (aNil))))))
def sem_law_sharing : List D → Option R := semF 4 g_law_sharing
theorem ok_law_sharing {P : Program} {w : World} {K : PySem.W.Frag} {mg : Str → Option Value} {base : Heap} (hy : Hyp K mg) : ∃ fd, FunD K d_law_sharing.name d_law_sharing.qual d_law_sharing.params d_law_sharing.body d_law_sharing.scope (d_law_sharing.dvs K) (d_law_sharing.kws K) (He.fAd K d_law_sharing.at_) fd ∧ FnOk P w K mg base (L2.CX P w) 6 (He.fAd K d_law_sharing.at_) fd ["_law_rule", "_law_world_here", "_law_sharing_here"] (spF (tab K) 3 (sem_law_sharing)) := by
  obtain ⟨fd_Valley__init, F_Valley__init, G_Valley__init⟩ := ok_Valley__init (P := P) (w := w) (base := base) hy
  obtain ⟨fd_Season__init, F_Season__init, G_Season__init⟩ := ok_Season__init (P := P) (w := w) (base := base) hy
  have ab_Valley__init_2_ : ArgB K fd_Valley__init ["self", "mills", "sluices"] 3 [] [] [0, 1, 2] := ArgB.unused F_Valley__init (List.cons_ne_nil _ _) (fun T kV doc pm an cdv ct us its ws l1 l3 l2 => match us, l1, its, l3, ws, l2 with | [_, _, _], _, [_], _, [], _ => ⟨_, rfl, rfl⟩)
  have ab_Season__init_1_needs_limits_sides : ArgB K fd_Season__init ["self", "valley", "needs", "limits", "sides"] 2 ["needs", "limits", "sides"] [] [0, 1, 2, 3, 4] := ArgB.given F_Season__init (fun kV doc pm an cdv ct us ws l1 l2 => match us, l1, ws, l2 with | [_, _], _, [_, _, _], _ => rfl)
  obtain ⟨fd, F⟩ := hy.says.fn (11) (d := d_law_sharing) rfl
  exact ⟨fd, F, fn_ev F sc_law_sharing fun cdv A outer s H E hr => (ss_cons (ss_set 3 (hN := sc_law_sharing.nd) (he := ee_if (eb_val (ee_var 2)) (ee_fld (F := fld_Season_valley hy) (ha := ee_var 0)) (ee_makeP (hs := semI_obj) (M := mk_Valley hy) (F := G_Valley__init) (hr := hr.mono (by decide)) (hm := glo_Valley hy) (hb := ab_Valley__init_2_) (tk := (takes_of rfl rfl rfl rfl)) (hp := rfl) (hmx := by decide) (hdd := fun _ => .nil) (ha := ea_cons (ee_ix (ha := ee_var 1) (hb := ee_int)) (ea_cons (en_ee (en_callT (hc := call_list_of) (h := (o_list rfl)) (hm := (free_list hy)) (hv := by decide +kernel) (ha := ea_cons (ee_ix (ha := ee_var 1) (hb := ee_int)) (ea_nil)))) (ea_nil))) (hkw := ek_nil)))) (ss_one (ss_ret (ee_makeP (hs := semI_obj) (M := mk_Season hy) (F := G_Season__init) (hr := hr.mono (by decide)) (hm := glo_Season hy) (hb := ab_Season__init_1_needs_limits_sides) (tk := (takes_of rfl rfl rfl rfl)) (hp := rfl) (hmx := by decide) (hdd := fun _ => .nil) (ha := ea_cons (ee_var 3) (ea_nil)) (hkw := ek_cons (en_ee (en_callT (hc := call_list_of) (h := (o_list rfl)) (hm := (free_list hy)) (hv := by decide +kernel) (ha := ea_cons (ee_ix (ha := ee_var 1) (hb := ee_int)) (ea_nil)))) (ek_cons (en_ee (en_callT (hc := call_list_of) (h := (o_list rfl)) (hm := (free_list hy)) (hv := by decide +kernel) (ha := ea_cons (ee_ix (ha := ee_var 1) (hb := ee_int)) (ea_nil)))) (ek_cons (en_ee (en_callT (hc := call_list_of) (h := (o_list rfl)) (hm := (free_list hy)) (hv := by decide +kernel) (ha := ea_cons (ee_ix (ha := ee_var 1) (hb := ee_int)) (ea_nil)))) (ek_nil))))))))⟩
end LW
end

section
set_option maxHeartbeats 4000000
namespace LW
open PySem L2 EV
theorem sc_law_subsets : FnScope ["_law_numbers_here", "_law_upto", "_law_layer", "_law_subsets_here", "_law_size", "_law_grown", "_law_part", "_law_number"] ["_law_numbers_here", "_law_upto"] (defScope st_law_subsets) := ⟨rfl, rfl, rfl, by decide +kernel, rfl, by decide +kernel, by decide +kernel⟩
def g_law_subsets : FS := gSeq (gSet 2 (vL (lenOk (aCons (vTup (aNil)) (aNil))))) (gSeq (gSet 3 (vL (lenOk (aCons (vTup (aNil)) (aNil))))) (gSeq (gFor (iRange1 (vCall minD (aCons (vVar 1) (aCons (vCall lenD (aCons (vVar 0) (aNil))) (aNil))))) (nmG 4) (gSeq (gOwn 5 (lenOk (aNil))) (gSeq (gFor (iSeq (vVar 2)) (nmG 6) (gFor (iSeq (vVar 0)) (nmG 7) (gIf (vOr (v2 eqD (vCall lenD (aCons (vVar 6) (aNil))) (vC (.int 0))) (v2 gtD (vVar 7) (v2 ixD (vVar 6) (v1 negD (vC (.int 1)))))) (gAppO 5 (gApp 5 (v2 addD (vVar 6) (vTup (aCons (vVar 7) (aNil)))))) (gNext)))) (gSeq (gThenRel 2 (gOwnA 2 (nCall listD (aCons (vVar 5) (aNil))))) (gSet 3 (v2 addD (vVar 3) (vVar 2))))))) (gRet (vVar 3))))
def sem_law_subsets : List D → Option R := semF 8 g_law_subsets
theorem ok_law_subsets {P : Program} {w : World} {K : PySem.W.Frag} {mg : Str → Option Value} {base : Heap} (hy : Hyp K mg) : ∃ fd, FunD K d_law_subsets.name d_law_subsets.qual d_law_subsets.params d_law_subsets.body d_law_subsets.scope (d_law_subsets.dvs K) (d_law_subsets.kws K) (He.fAd K d_law_subsets.at_) fd ∧ FnOk P w K mg base (L2.CX P w) 1 (He.fAd K d_law_subsets.at_) fd ["_law_numbers_here", "_law_upto"] (spF (tab K) 2 (sem_law_subsets)) := by
  obtain ⟨fd, F⟩ := hy.says.fn (12) (d := d_law_subsets) rfl
  exact ⟨fd, F, fn_ev F sc_law_subsets fun cdv A outer s H E hr => (ss_cons (ss_set 2 (hN := sc_law_subsets.nd) (he := en_ee (en_lst (ea_cons (ee_tup (ea_nil)) (ea_nil))))) (ss_cons (ss_set 3 (hN := sc_law_subsets.nd) (he := en_ee (en_lst (ea_cons (ee_tup (ea_nil)) (ea_nil))))) (ss_cons (ss_for (hp := passes_of rfl) (hc := rfl) (hi := ei_range1 (hm := (free_range hy)) (ha := ee_callB (hc := (call_min2 rfl)) (h := o_min) (hm := (free_min hy)) (hv := by decide +kernel) (ha := ea_cons (ee_var 1) (ea_cons (ee_callB (hc := call_len_seq) (h := (o_len rfl)) (hm := (free_len hy)) (hv := by decide +kernel) (ha := ea_cons (ee_var 0) (ea_nil))) (ea_nil))))) (hg := eg_name 4 sc_law_subsets.nd) (hb := ss_cons (ss_own 5 (hN := sc_law_subsets.nd) (he := en_lst (ea_nil))) (ss_cons (ss_for (hp := passes_of rfl) (hc := rfl) (hi := ei_seq (he := ee_var 2)) (hg := eg_name 6 sc_law_subsets.nd) (hb := ss_one (ss_for (hp := passes_of rfl) (hc := rfl) (hi := ei_seq (he := ee_var 0)) (hg := eg_name 7 sc_law_subsets.nd) (hb := ss_one (ss_if (eb_w (ew_or (eb_eq (hr := hr) (ha := ee_callB (hc := call_len_seq) (h := (o_len rfl)) (hm := (free_len hy)) (hv := by decide +kernel) (ha := ea_cons (ee_var 6) (ea_nil))) (hb := ee_int)) (ew_or1 (eb_gt (ha := ee_var 7) (hb := ee_ix (ha := ee_var 6) (hb := ee_neg (ee_int))))))) (ss_one (ss_app 5 (he := ee_add (ha := ee_var 6) (hb := ee_tup (ea_cons (ee_var 7) (ea_nil)))))) (ss_nil)))))) (ss_cons (ss_thenRel 2 (ss_ownA 2 (hN := sc_law_subsets.nd) (he := en_callT (hc := call_list_of) (h := (o_list rfl)) (hm := (free_list hy)) (hv := by decide +kernel) (ha := ea_cons (ee_var 5) (ea_nil))))) (ss_one (ss_set 3 (hN := sc_law_subsets.nd) (he := ee_add (ha := ee_var 3) (hb := ee_var 2)))))))) (ss_one (ss_ret (ee_var 3))))))⟩
end LW
end

section
set_option maxHeartbeats 4000000
namespace LW
open PySem L2 EV
theorem sc_law_lots : FnScope ["_law_mills", "_law_row", "_law_everyone", "_law_lots_here", "_law_mill", "_law_k"] ["_law_mills", "_law_row"] (defScope st_law_lots) := ⟨rfl, rfl, rfl, by decide +kernel, rfl, by decide +kernel, by decide +kernel⟩
def g_law_lots : FS := gSeq (gSet 2 (vCall tupleD (aCons (vL (nLc (iRange1 (vVar 0)) (nmG 4) (vYes) (vVar 4) [4])) (aNil)))) (gSeq (gIf (v2 leD (vVar 0) (vC (.int 5))) (gRet (vCallP 2 0 [0, 1] sem_law_subsets [] (aCons (vL (nCall listD (aCons (vVar 2) (aNil)))) (aCons (vVar 0) (aNil))) (aNil))) (gNext)) (gSeq (gOwn 3 (lenOk (aCons (vTup (aNil)) (aCons (vVar 2) (aNil))))) (gSeq (gFor (iRange1 (vVar 0)) (nmG 4) (gSeq (gAppO 3 (gApp 3 (vTup (aCons (vVar 4) (aNil))))) (gAppO 3 (gApp 3 (v2 addD (vSlice (vVar 2) (oNone) (oSome (vVar 4))) (vSlice (vVar 2) (oSome (v2 addD (vVar 4) (vC (.int 1)))) (oNone))))))) (gSeq (gFor (iRange1 (vC (.int 6))) (nmG 5) (gAppO 3 (gApp 3 (vCall tupleD (aCons (vL (nLc (iRange1 (vVar 0)) (nmG 4) (v2 eqD (v2 ixD (vVar 1) (v2 addD (v2 mulD (vC (.int 24)) (vVar 5)) (vVar 4))) (vC (.int 1))) (vVar 4) [4])) (aNil)))))) (gRel 3 (gRet (vVar 3)))))))
def sem_law_lots : List D → Option R := semF 6 g_law_lots
theorem ok_law_lots {P : Program} {w : World} {K : PySem.W.Frag} {mg : Str → Option Value} {base : Heap} (hy : Hyp K mg) : ∃ fd, FunD K d_law_lots.name d_law_lots.qual d_law_lots.params d_law_lots.body d_law_lots.scope (d_law_lots.dvs K) (d_law_lots.kws K) (He.fAd K d_law_lots.at_) fd ∧ FnOk P w K mg base (L2.CX P w) 2 (He.fAd K d_law_lots.at_) fd ["_law_mills", "_law_row"] (spF (tab K) 2 (sem_law_lots)) := by
  obtain ⟨fd_law_subsets, F_law_subsets, G_law_subsets⟩ := ok_law_subsets (P := P) (w := w) (base := base) hy
  have ab_law_subsets_2_ : ArgB K fd_law_subsets ["_law_numbers_here", "_law_upto"] 2 [] [] [0, 1] := ArgB.given F_law_subsets (fun kV doc pm an cdv ct us ws l1 l2 => match us, l1, ws, l2 with | [_, _], _, [], _ => rfl)
  obtain ⟨fd, F⟩ := hy.says.fn (13) (d := d_law_lots) rfl
  exact ⟨fd, F, fn_ev F sc_law_lots fun cdv A outer s H E hr => (ss_cons (ss_set 2 (hN := sc_law_lots.nd) (he := ee_callT (hc := call_tuple_of) (h := (o_tuple rfl)) (hm := (free_tuple hy)) (hv := by decide +kernel) (ha := ea_cons (en_ee (en_lc (own := [("_law_mill", 4)]) (hc := rfl) (hN := sc_law_lots.nd) (ok := blkOk_by (show blkC ["_law_mills", "_law_row", "_law_everyone", "_law_lots_here", "_law_mill", "_law_k"] (defScope st_law_lots) _ [("_law_mill", 4)] = true by decide +kernel)) (hsub := by decide) (hi := ei_range1 (hm := (free_range hy)) (ha := ee_var 0)) (hg := fun _ _ _ _ _ => eg_name 4 sc_law_lots.nd) (ht := fun _ _ _ _ _ => et_nil) (he := fun _ _ _ _ _ => ee_var 4))) (ea_nil)))) (ss_cons (ss_if (eb_le (ha := ee_var 0) (hb := ee_int)) (ss_one (ss_ret (ee_callP (F := G_law_subsets) (hr := hr.mono (by decide)) (hm := glo__law_subsets hy) (hk := F_law_subsets.kp) (hb := ab_law_subsets_2_) (tk := (takes_of rfl rfl rfl rfl)) (hp := rfl) (hmx := by decide) (hdd := fun _ => .nil) (ha := ea_cons (en_ee (en_callT (hc := call_list_of) (h := (o_list rfl)) (hm := (free_list hy)) (hv := by decide +kernel) (ha := ea_cons (ee_var 2) (ea_nil)))) (ea_cons (ee_var 0) (ea_nil))) (hkw := ek_nil)))) (ss_nil)) (ss_cons (ss_own 3 (hN := sc_law_lots.nd) (he := en_lst (ea_cons (ee_tup (ea_nil)) (ea_cons (ee_var 2) (ea_nil))))) (ss_cons (ss_for (hp := passes_of rfl) (hc := rfl) (hi := ei_range1 (hm := (free_range hy)) (ha := ee_var 0)) (hg := eg_name 4 sc_law_lots.nd) (hb := ss_cons (ss_app 3 (he := ee_tup (ea_cons (ee_var 4) (ea_nil)))) (ss_one (ss_app 3 (he := ee_add (ha := ee_slice (ha := ee_var 2) (hl := eo_none) (hu := (eo_some (ee_var 4)))) (hb := ee_slice (ha := ee_var 2) (hl := (eo_some (ee_add (ha := ee_var 4) (hb := ee_int)))) (hu := eo_none))))))) (ss_cons (ss_for (hp := passes_of rfl) (hc := rfl) (hi := ei_range1 (hm := (free_range hy)) (ha := ee_int)) (hg := eg_name 5 sc_law_lots.nd) (hb := ss_one (ss_app 3 (he := ee_callT (hc := call_tuple_of) (h := (o_tuple rfl)) (hm := (free_tuple hy)) (hv := by decide +kernel) (ha := ea_cons (en_ee (en_lc (own := [("_law_mill", 4)]) (hc := rfl) (hN := sc_law_lots.nd) (ok := blkOk_by (show blkC ["_law_mills", "_law_row", "_law_everyone", "_law_lots_here", "_law_mill", "_law_k"] (defScope st_law_lots) _ [("_law_mill", 4)] = true by decide +kernel)) (hsub := by decide) (hi := ei_range1 (hm := (free_range hy)) (ha := ee_var 0)) (hg := fun _ _ _ _ _ => eg_name 4 sc_law_lots.nd) (ht := fun _ _ _ _ _ => et_one (eb_eq (hr := hr) (ha := ee_ix (ha := ee_var 1) (hb := ee_add (ha := ee_mul (ha := ee_int) (hb := ee_var 5)) (hb := ee_var 4))) (hb := ee_int))) (he := fun _ _ _ _ _ => ee_var 4))) (ea_nil)))))) (ss_one (ss_rel 3 (ss_ret (ee_var 3)))))))))⟩
end LW
end

section
set_option maxHeartbeats 4000000
namespace LW
open PySem L2 EV
theorem sc_law_cell : FnScope ["_law_script", "_law_k", "_law_seed", "_law_cell_here"] ["_law_script", "_law_k"] (defScope st_law_cell) := ⟨rfl, rfl, rfl, by decide +kernel, rfl, by decide +kernel, by decide +kernel⟩
def g_law_cell : FS := gSeq (gIf (v2 ltD (vVar 1) (vCall lenD (aCons (vVar 0) (aNil)))) (gRet (v2 ixD (vVar 0) (vVar 1))) (gNext)) (gSeq (gSet 2 (vC (.int 17))) (gSeq (gFor (iSeq (vVar 0)) (nmG 3) (gSet 2 (v2 modD (vCall intD (aCons (v2 addD (v2 mulD (vVar 2) (vC (.int 31))) (v2 modD (vCall intD (aCons (vVar 3) (aNil))) (vC (.int 1000003)))) (aNil))) (vC (.int 1000003))))) (gRet (v2 modD (vCall intD (aCons (v2 mulD (v2 mulD (v2 addD (vVar 2) (vC (.int 7))) (v2 addD (vVar 1) (vC (.int 3)))) (vC (.int 69621))) (aNil))) (vC (.int 2147483647))))))
def sem_law_cell : List D → Option R := semF 4 g_law_cell
theorem ok_law_cell {P : Program} {w : World} {K : PySem.W.Frag} {mg : Str → Option Value} {base : Heap} (hy : Hyp K mg) : ∃ fd, FunD K d_law_cell.name d_law_cell.qual d_law_cell.params d_law_cell.body d_law_cell.scope (d_law_cell.dvs K) (d_law_cell.kws K) (He.fAd K d_law_cell.at_) fd ∧ FnOk P w K mg base (L2.CX P w) 1 (He.fAd K d_law_cell.at_) fd ["_law_script", "_law_k"] (spF (tab K) 2 (sem_law_cell)) := by
  obtain ⟨fd, F⟩ := hy.says.fn (14) (d := d_law_cell) rfl
  exact ⟨fd, F, fn_ev F sc_law_cell fun cdv A outer s H E hr => (ss_cons (ss_if (eb_lt (ha := ee_var 1) (hb := ee_callB (hc := call_len_seq) (h := (o_len rfl)) (hm := (free_len hy)) (hv := by decide +kernel) (ha := ea_cons (ee_var 0) (ea_nil)))) (ss_one (ss_ret (ee_ix (ha := ee_var 0) (hb := ee_var 1)))) (ss_nil)) (ss_cons (ss_set 2 (hN := sc_law_cell.nd) (he := ee_int)) (ss_cons (ss_for (hp := passes_of rfl) (hc := rfl) (hi := ei_seq (he := ee_var 0)) (hg := eg_name 3 sc_law_cell.nd) (hb := ss_one (ss_set 2 (hN := sc_law_cell.nd) (he := ee_mod (ha := ee_callT (hc := call_int1) (h := o_int) (hm := (free_int hy)) (hv := by decide +kernel) (ha := ea_cons (ee_add (ha := ee_mul (ha := ee_var 2) (hb := ee_int)) (hb := ee_mod (ha := ee_callT (hc := call_int1) (h := o_int) (hm := (free_int hy)) (hv := by decide +kernel) (ha := ea_cons (ee_var 3) (ea_nil))) (hb := ee_int))) (ea_nil))) (hb := ee_int))))) (ss_one (ss_ret (ee_mod (ha := ee_callT (hc := call_int1) (h := o_int) (hm := (free_int hy)) (hv := by decide +kernel) (ha := ea_cons (ee_mul (ha := ee_mul (ha := ee_add (ha := ee_var 2) (hb := ee_int)) (hb := ee_add (ha := ee_var 1) (hb := ee_int))) (hb := ee_int)) (ea_nil))) (hb := ee_int)))))))⟩
end LW
end

section
set_option maxHeartbeats 4000000
namespace LW
open PySem L2 EV
theorem sc_law_fed : FnScope ["_law_mills", "_law_pairs", "_law_setting", "_law_count", "_law_k", "_law_mill"] ["_law_mills", "_law_pairs", "_law_setting"] (defScope st_law_fed) := ⟨rfl, rfl, rfl, by decide +kernel, rfl, by decide +kernel, by decide +kernel⟩
def g_law_fed : FS := gSeq (gOwn 3 (nLc (iRange1 (vVar 0)) (nmG 5) (vYes) (vC (.int 0)) [5])) (gSeq (gFor (iRange1 (vCall lenD (aCons (vVar 1) (aNil)))) (nmG 4) (gSeq (gSet 5 (v2 ixD (v2 ixD (vVar 1) (vVar 4)) (v2 ixD (vVar 2) (vVar 4)))) (gSetIxA 3 (vVar 5) (v2 addD (v2 ixD (vVar 3) (vVar 5)) (vC (.int 1)))))) (gRel 3 (gRet (vVar 3))))
def sem_law_fed : List D → Option R := semF 6 g_law_fed
theorem ok_law_fed {P : Program} {w : World} {K : PySem.W.Frag} {mg : Str → Option Value} {base : Heap} (hy : Hyp K mg) : ∃ fd, FunD K d_law_fed.name d_law_fed.qual d_law_fed.params d_law_fed.body d_law_fed.scope (d_law_fed.dvs K) (d_law_fed.kws K) (He.fAd K d_law_fed.at_) fd ∧ FnOk P w K mg base (L2.CX P w) 1 (He.fAd K d_law_fed.at_) fd ["_law_mills", "_law_pairs", "_law_setting"] (spF (tab K) 3 (sem_law_fed)) := by
  obtain ⟨fd, F⟩ := hy.says.fn (15) (d := d_law_fed) rfl
  exact ⟨fd, F, fn_ev F sc_law_fed fun cdv A outer s H E hr => (ss_cons (ss_lc_o (ps_lcs (i := 3) (hy := rfl) (hyl := rfl) (hsw := sw_true rfl rfl rfl (by decide +kernel)) (own := [("_law_mill", 5)]) (hc := rfl) (hN := sc_law_fed.nd) (ok := blkOk_by (show blkC ["_law_mills", "_law_pairs", "_law_setting", "_law_count", "_law_k", "_law_mill"] (defScope st_law_fed) _ [("_law_mill", 5)] = true by decide +kernel)) (hi := ei_range1 (hm := (free_range hy)) (ha := ee_var 0)) (hg := fun _ _ _ _ _ => eg_name 5 sc_law_fed.nd) (ht := fun _ _ _ _ _ => et_nil) (he := fun _ _ _ _ _ => ee_int)) (w_lc (by decide))) (ss_cons (ss_for (hp := passes_of rfl) (hc := rfl) (hi := ei_range1 (hm := (free_range hy)) (ha := ee_callB (hc := call_len_seq) (h := (o_len rfl)) (hm := (free_len hy)) (hv := by decide +kernel) (ha := ea_cons (ee_var 1) (ea_nil)))) (hg := eg_name 4 sc_law_fed.nd) (hb := ss_cons (ss_set 5 (hN := sc_law_fed.nd) (he := ee_ix (ha := ee_ix (ha := ee_var 1) (hb := ee_var 4)) (hb := ee_ix (ha := ee_var 2) (hb := ee_var 4)))) (ss_one (ss_setIxA 3 (hg := fun h => pg_sub (pv 3) h set_list) (hk := ee_var 5) (he := ee_add (ha := ee_ix (ha := ee_var 3) (hb := ee_var 5)) (hb := ee_int)))))) (ss_one (ss_rel 3 (ss_ret (ee_var 3))))))⟩
end LW
end

section
set_option maxHeartbeats 4000000
namespace LW
open PySem L2 EV
theorem sc_law_wide : FnScope ["_law_script", "_law_at", "_law_upto", "_law_row", "_law_mills", "_law_pairs", "_law_k", "_law_first", "_law_second", "_law_base", "_law_count", "_law_low", "_law_high", "_law_mill", "_law_slack", "_law_top", "_law_let"] ["_law_script", "_law_at", "_law_upto"] (defScope st_law_wide) := ⟨rfl, rfl, rfl, by decide +kernel, rfl, by decide +kernel, by decide +kernel⟩
def g_law_wide : FS := gSeq (gSet 3 (vCallP 2 0 [0, 1] sem_law_digits [] (aCons (vCallP 2 0 [0, 1] sem_law_cell [] (aCons (vVar 0) (aCons (vVar 1) (aNil))) (aNil)) (aCons (vL (nAdd (vL (lenOk (aCons (vC (.int 24)) (aCons (vC (.int 49)) (aCons (vC (.int 4)) (aNil)))))) (vL (nRep (vL (lenOk (aCons (vC (.int 24)) (aCons (vC (.int 23)) (aNil))))) (vC (.int 48)))))) (aNil))) (aNil))) (gSeq (gSet 4 (v2 ixD (vL (lenOk (aCons (vC (.int 12)) (aCons (vC (.int 9)) (aCons (vC (.int 24)) (aCons (vC (.int 16)) (aCons (vC (.int 7)) (aCons (vC (.int 20)) (aCons (vC (.int 10)) (aCons (vC (.int 24)) (aCons (vC (.int 14)) (aCons (vC (.int 8)) (aCons (vC (.int 18)) (aCons (vC (.int 11)) (aCons (vC (.int 22)) (aCons (vC (.int 13)) (aCons (vC (.int 6)) (aCons (vC (.int 15)) (aCons (vC (.int 24)) (aCons (vC (.int 17)) (aCons (vC (.int 19)) (aCons (vC (.int 21)) (aCons (vC (.int 23)) (aCons (vC (.int 5)) (aCons (vC (.int 2)) (aCons (vC (.int 1)) (aNil))))))))))))))))))))))))))) (v2 modD (vCall intD (aCons (v2 ixD (vVar 3) (vC (.int 0))) (aNil))) (vC (.int 24))))) (gSeq (gSet 4 (vCall minD (aCons (vVar 4) (aCons (v2 fdivD (vVar 2) (vC (.int 2))) (aNil))))) (gSeq (gOwn 5 (lenOk (aNil))) (gSeq (gIf (v2 gtD (vVar 4) (vC (.int 1))) (gFor (iRange1 (vCall minD (aCons (vVar 2) (aCons (v2 addD (v2 subD (vVar 4) (vC (.int 1))) (v2 modD (vCall intD (aCons (v2 ixD (vVar 3) (vC (.int 1))) (aNil))) (vC (.int 49)))) (aNil))))) (nmG 6) (gSeq (gSet 7 (v2 modD (vCall intD (aCons (v2 ixD (vVar 3) (v2 addD (vC (.int 3)) (v2 mulD (vC (.int 2)) (vVar 6)))) (aNil))) (vVar 4))) (gSeq (gSet 8 (v2 modD (vCall intD (aCons (v2 addD (v2 addD (vVar 7) (vC (.int 1))) (v2 modD (vCall intD (aCons (v2 ixD (vVar 3) (v2 addD (vC (.int 4)) (v2 mulD (vC (.int 2)) (vVar 6)))) (aNil))) (v2 subD (vVar 4) (vC (.int 1))))) (aNil))) (vVar 4))) (gSeq (gIf (v2 eqD (v2 ixD (vVar 3) (vC (.int 2))) (vC (.int 1))) (gSet 8 (v2 modD (vCall intD (aCons (v2 addD (v2 addD (vVar 7) (vC (.int 1))) (v2 modD (vCall intD (aCons (v2 ixD (vVar 3) (v2 addD (vC (.int 4)) (v2 mulD (vC (.int 2)) (vVar 6)))) (aNil))) (vCall minD (aCons (vC (.int 3)) (aCons (v2 subD (vVar 4) (vC (.int 1))) (aNil)))))) (aNil))) (vVar 4))) (gNext)) (gSeq (gIf (vAnd (v2 eqD (v2 ixD (vVar 3) (vC (.int 2))) (vC (.int 2))) (v2 ltD (vVar 6) (vVar 4))) (gSeq (gSet 7 (vVar 6)) (gSet 8 (v2 modD (vCall intD (aCons (v2 addD (vVar 6) (vC (.int 1))) (aNil))) (vVar 4)))) (gNext)) (gSeq (gIf (vAnd (v2 eqD (v2 ixD (vVar 3) (vC (.int 2))) (vC (.int 3))) (v2 eqD (v2 modD (vCall intD (aCons (vVar 6) (aNil))) (vC (.int 5))) (vC (.int 4)))) (gSeq (gSetA 7 (v2 ixD (v2 ixD (vVar 5) (v2 subD (vVar 6) (vC (.int 1)))) (vC (.int 1)))) (gSetA 8 (v2 ixD (v2 ixD (vVar 5) (v2 subD (vVar 6) (vC (.int 1)))) (vC (.int 0))))) (gNext)) (gAppO 5 (gApp 5 (vTup (aCons (vVar 7) (aCons (vVar 8) (aNil)))))))))))) (gNext)) (gSeq (gSet 3 (vCallP 2 0 [0, 1] sem_law_digits [] (aCons (vCallP 2 0 [0, 1] sem_law_cell [] (aCons (vVar 0) (aCons (v2 addD (vVar 1) (vC (.int 1))) (aNil))) (aNil)) (aCons (vL (nAdd (vL (nAdd (vL (nAdd (vL (lenOk (aCons (vC (.int 8)) (aNil)))) (vL (nRep (vL (lenOk (aCons (vC (.int 2)) (aNil)))) (vC (.int 48)))))) (vL (nRep (vL (lenOk (aCons (vC (.int 8)) (aCons (vC (.int 8)) (aNil))))) (vC (.int 24)))))) (vL (nRep (vL (lenOk (aCons (vC (.int 24)) (aNil)))) (vC (.int 48)))))) (aNil))) (aNil))) (gSeq (gRel 5 (gSet 9 (vCall tupleD (aCons (vL (nLc (iRange1 (vCall lenD (aCons (vVar 5) (aNil)))) (nmG 6) (vYes) (v2 modD (vCall intD (aCons (v2 ixD (vVar 3) (v2 addD (vC (.int 1)) (vVar 6))) (aNil))) (vC (.int 2))) [6])) (aNil))))) (gSeq (gRel 5 (gSet 10 (vCallP 3 0 [0, 1, 2] sem_law_fed [] (aCons (vVar 4) (aCons (vVar 5) (aCons (vVar 9) (aNil)))) (aNil)))) (gSeq (gOwn 11 (lenOk (aNil))) (gSeq (gOwn 12 (lenOk (aNil))) (gSeq (gFor (iRange1 (vVar 4)) (nmG 13) (gSeq (gSet 14 (v2 ixD (vL (lenOk (aCons (vC (.int 0)) (aCons (vC (.int 0)) (aCons (vC (.int 1)) (aCons (vC (.int 0)) (aCons (vC (.int 0)) (aCons (vC (.int 2)) (aCons (vC (.int 0)) (aCons (vC (.int 1)) (aNil))))))))))) (v2 modD (vCall intD (aCons (v2 ixD (vVar 3) (v2 addD (vC (.int 49)) (v2 mulD (vC (.int 2)) (vVar 13)))) (aNil))) (vC (.int 8))))) (gSeq (gSet 15 (v2 ixD (vL (lenOk (aCons (vC .non) (aCons (vC (.int 0)) (aCons (vC (.int 1)) (aCons (vC (.int 0)) (aCons (vC .non) (aCons (vC (.int 2)) (aCons (vC (.int 0)) (aCons (vC (.int 1)) (aNil))))))))))) (v2 modD (vCall intD (aCons (v2 ixD (vVar 3) (v2 addD (vC (.int 50)) (v2 mulD (vC (.int 2)) (vVar 13)))) (aNil))) (vC (.int 8))))) (gSeq (gIf (v2 leD (v2 ixD (vVar 3) (vC (.int 0))) (vC (.int 2))) (gSet 15 (vC .non)) (gNext)) (gSeq (gIf (v2 eqD (v2 ixD (vVar 3) (vC (.int 0))) (vC (.int 1))) (gSet 14 (vC (.int 0))) (gNext)) (gSeq (gIf (v2 eqD (v2 ixD (vVar 3) (vC (.int 0))) (vC (.int 4))) (gSet 15 (vC (.int 0))) (gNext)) (gSeq (gAppO 11 (gApp 11 (vCall maxD (aCons (vC (.int 0)) (aCons (v2 subD (v2 ixD (vVar 10) (vVar 13)) (vVar 14)) (aNil)))))) (gSeq (gIf (v2 eqD (v2 ixD (vVar 3) (vC (.int 0))) (vC (.int 3))) (gSetIx 11 (vVar 13) (vC (.int 0))) (gNext)) (gSeq (gIf (v2 notNonD (vVar 15) (vC .non)) (gSet 15 (v2 addD (v2 ixD (vVar 10) (vVar 13)) (vVar 15))) (gNext)) (gAppO 12 (gApp 12 (vVar 15)))))))))))) (gSeq (gRel 5 (gSet 16 (vL (nLc (iRange1 (vCall lenD (aCons (vVar 5) (aNil)))) (nmG 6) (vYes) (v2 ixD (vL (lenOk (aCons (vTup (aCons (vC (.int 0)) (aCons (vC (.int 1)) (aNil)))) (aCons (vTup (aCons (v2 ixD (vVar 9) (vVar 6)) (aNil))) (aNil))))) (vCall intD (aCons (v2 eqD (v2 ixD (vVar 3) (v2 addD (vC (.int 97)) (vVar 6))) (vC (.int 5))) (aNil)))) [6])))) (gRel 12 (gRel 11 (gRel 5 (gRet (vL (lenOk (aCons (vVar 4) (aCons (vVar 5) (aCons (vVar 11) (aCons (vVar 12) (aCons (vVar 16) (aCons (vVar 9) (aNil))))))))))))))))))))))))
def sem_law_wide : List D → Option R := semF 17 g_law_wide
theorem ok_law_wide {P : Program} {w : World} {K : PySem.W.Frag} {mg : Str → Option Value} {base : Heap} (hy : Hyp K mg) : ∃ fd, FunD K d_law_wide.name d_law_wide.qual d_law_wide.params d_law_wide.body d_law_wide.scope (d_law_wide.dvs K) (d_law_wide.kws K) (He.fAd K d_law_wide.at_) fd ∧ FnOk P w K mg base (L2.CX P w) 2 (He.fAd K d_law_wide.at_) fd ["_law_script", "_law_at", "_law_upto"] (spF (tab K) 3 (sem_law_wide)) := by
  obtain ⟨fd_law_digits, F_law_digits, G_law_digits⟩ := ok_law_digits (P := P) (w := w) (base := base) hy
  obtain ⟨fd_law_cell, F_law_cell, G_law_cell⟩ := ok_law_cell (P := P) (w := w) (base := base) hy
  obtain ⟨fd_law_fed, F_law_fed, G_law_fed⟩ := ok_law_fed (P := P) (w := w) (base := base) hy
  have ab_law_digits_2_ : ArgB K fd_law_digits ["_law_cell_here", "_law_sizes"] 2 [] [] [0, 1] := ArgB.given F_law_digits (fun kV doc pm an cdv ct us ws l1 l2 => match us, l1, ws, l2 with | [_, _], _, [], _ => rfl)
  have ab_law_cell_2_ : ArgB K fd_law_cell ["_law_script", "_law_k"] 2 [] [] [0, 1] := ArgB.given F_law_cell (fun kV doc pm an cdv ct us ws l1 l2 => match us, l1, ws, l2 with | [_, _], _, [], _ => rfl)
  have ab_law_fed_3_ : ArgB K fd_law_fed ["_law_mills", "_law_pairs", "_law_setting"] 3 [] [] [0, 1, 2] := ArgB.given F_law_fed (fun kV doc pm an cdv ct us ws l1 l2 => match us, l1, ws, l2 with | [_, _, _], _, [], _ => rfl)
  obtain ⟨fd, F⟩ := hy.says.fn (16) (d := d_law_wide) rfl
  exact ⟨fd, F, fn_ev F sc_law_wide fun cdv A outer s H E hr => (ss_cons (ss_set 3 (hN := sc_law_wide.nd) (he := ee_callP (F := G_law_digits) (hr := hr.mono (by decide)) (hm := glo__law_digits hy) (hk := F_law_digits.kp) (hb := ab_law_digits_2_) (tk := (takes_of rfl rfl rfl rfl)) (hp := rfl) (hmx := by decide) (hdd := fun _ => .nil) (ha := ea_cons (ee_callP (F := G_law_cell) (hr := hr.mono (by decide)) (hm := glo__law_cell hy) (hk := F_law_cell.kp) (hb := ab_law_cell_2_) (tk := (takes_of rfl rfl rfl rfl)) (hp := rfl) (hmx := by decide) (hdd := fun _ => .nil) (ha := ea_cons (ee_var 0) (ea_cons (ee_var 1) (ea_nil))) (hkw := ek_nil)) (ea_cons (en_ee (en_add (ha := en_ee (en_lst (ea_cons (ee_int) (ea_cons (ee_int) (ea_cons (ee_int) (ea_nil)))))) (hb := en_ee (en_rep (ha := en_ee (en_lst (ea_cons (ee_int) (ea_cons (ee_int) (ea_nil))))) (hb := ee_int))))) (ea_nil))) (hkw := ek_nil))) (ss_cons (ss_set 4 (hN := sc_law_wide.nd) (he := ee_ix (ha := en_ee (en_lst (ea_cons (ee_int) (ea_cons (ee_int) (ea_cons (ee_int) (ea_cons (ee_int) (ea_cons (ee_int) (ea_cons (ee_int) (ea_cons (ee_int) (ea_cons (ee_int) (ea_cons (ee_int) (ea_cons (ee_int) (ea_cons (ee_int) (ea_cons (ee_int) (ea_cons (ee_int) (ea_cons (ee_int) (ea_cons (ee_int) (ea_cons (ee_int) (ea_cons (ee_int) (ea_cons (ee_int) (ea_cons (ee_int) (ea_cons (ee_int) (ea_cons (ee_int) (ea_cons (ee_int) (ea_cons (ee_int) (ea_cons (ee_int) (ea_nil))))))))))))))))))))))))))) (hb := ee_mod (ha := ee_callT (hc := call_int1) (h := o_int) (hm := (free_int hy)) (hv := by decide +kernel) (ha := ea_cons (ee_ix (ha := ee_var 3) (hb := ee_int)) (ea_nil))) (hb := ee_int)))) (ss_cons (ss_set 4 (hN := sc_law_wide.nd) (he := ee_callB (hc := (call_min2 rfl)) (h := o_min) (hm := (free_min hy)) (hv := by decide +kernel) (ha := ea_cons (ee_var 4) (ea_cons (ee_fdiv (ha := ee_var 2) (hb := ee_int)) (ea_nil))))) (ss_cons (ss_own 5 (hN := sc_law_wide.nd) (he := en_lst (ea_nil))) (ss_cons (ss_if (eb_gt (ha := ee_var 4) (hb := ee_int)) (ss_one (ss_for (hp := passes_of rfl) (hc := rfl) (hi := ei_range1 (hm := (free_range hy)) (ha := ee_callB (hc := (call_min2 rfl)) (h := o_min) (hm := (free_min hy)) (hv := by decide +kernel) (ha := ea_cons (ee_var 2) (ea_cons (ee_add (ha := ee_sub (ha := ee_var 4) (hb := ee_int)) (hb := ee_mod (ha := ee_callT (hc := call_int1) (h := o_int) (hm := (free_int hy)) (hv := by decide +kernel) (ha := ea_cons (ee_ix (ha := ee_var 3) (hb := ee_int)) (ea_nil))) (hb := ee_int))) (ea_nil))))) (hg := eg_name 6 sc_law_wide.nd) (hb := ss_cons (ss_set 7 (hN := sc_law_wide.nd) (he := ee_mod (ha := ee_callT (hc := call_int1) (h := o_int) (hm := (free_int hy)) (hv := by decide +kernel) (ha := ea_cons (ee_ix (ha := ee_var 3) (hb := ee_add (ha := ee_int) (hb := ee_mul (ha := ee_int) (hb := ee_var 6)))) (ea_nil))) (hb := ee_var 4))) (ss_cons (ss_set 8 (hN := sc_law_wide.nd) (he := ee_mod (ha := ee_callT (hc := call_int1) (h := o_int) (hm := (free_int hy)) (hv := by decide +kernel) (ha := ea_cons (ee_add (ha := ee_add (ha := ee_var 7) (hb := ee_int)) (hb := ee_mod (ha := ee_callT (hc := call_int1) (h := o_int) (hm := (free_int hy)) (hv := by decide +kernel) (ha := ea_cons (ee_ix (ha := ee_var 3) (hb := ee_add (ha := ee_int) (hb := ee_mul (ha := ee_int) (hb := ee_var 6)))) (ea_nil))) (hb := ee_sub (ha := ee_var 4) (hb := ee_int)))) (ea_nil))) (hb := ee_var 4))) (ss_cons (ss_if (eb_eq (hr := hr) (ha := ee_ix (ha := ee_var 3) (hb := ee_int)) (hb := ee_int)) (ss_one (ss_set 8 (hN := sc_law_wide.nd) (he := ee_mod (ha := ee_callT (hc := call_int1) (h := o_int) (hm := (free_int hy)) (hv := by decide +kernel) (ha := ea_cons (ee_add (ha := ee_add (ha := ee_var 7) (hb := ee_int)) (hb := ee_mod (ha := ee_callT (hc := call_int1) (h := o_int) (hm := (free_int hy)) (hv := by decide +kernel) (ha := ea_cons (ee_ix (ha := ee_var 3) (hb := ee_add (ha := ee_int) (hb := ee_mul (ha := ee_int) (hb := ee_var 6)))) (ea_nil))) (hb := ee_callB (hc := (call_min2 rfl)) (h := o_min) (hm := (free_min hy)) (hv := by decide +kernel) (ha := ea_cons (ee_int) (ea_cons (ee_sub (ha := ee_var 4) (hb := ee_int)) (ea_nil)))))) (ea_nil))) (hb := ee_var 4)))) (ss_nil)) (ss_cons (ss_if (eb_w (ew_and (eb_eq (hr := hr) (ha := ee_ix (ha := ee_var 3) (hb := ee_int)) (hb := ee_int)) (ew_and1 (eb_lt (ha := ee_var 6) (hb := ee_var 4))))) (ss_cons (ss_set 7 (hN := sc_law_wide.nd) (he := ee_var 6)) (ss_one (ss_set 8 (hN := sc_law_wide.nd) (he := ee_mod (ha := ee_callT (hc := call_int1) (h := o_int) (hm := (free_int hy)) (hv := by decide +kernel) (ha := ea_cons (ee_add (ha := ee_var 6) (hb := ee_int)) (ea_nil))) (hb := ee_var 4))))) (ss_nil)) (ss_cons (ss_if (eb_w (ew_and (eb_eq (hr := hr) (ha := ee_ix (ha := ee_var 3) (hb := ee_int)) (hb := ee_int)) (ew_and1 (eb_eq (hr := hr) (ha := ee_mod (ha := ee_callT (hc := call_int1) (h := o_int) (hm := (free_int hy)) (hv := by decide +kernel) (ha := ea_cons (ee_var 6) (ea_nil))) (hb := ee_int)) (hb := ee_int))))) (ss_cons (ss_setA 7 (hN := sc_law_wide.nd) (he := ee_ix (ha := ee_ix (ha := ee_var 5) (hb := ee_sub (ha := ee_var 6) (hb := ee_int))) (hb := ee_int))) (ss_one (ss_setA 8 (hN := sc_law_wide.nd) (he := ee_ix (ha := ee_ix (ha := ee_var 5) (hb := ee_sub (ha := ee_var 6) (hb := ee_int))) (hb := ee_int))))) (ss_nil)) (ss_one (ss_app 5 (he := ee_tup (ea_cons (ee_var 7) (ea_cons (ee_var 8) (ea_nil))))))))))))) (ss_nil)) (ss_cons (ss_set 3 (hN := sc_law_wide.nd) (he := ee_callP (F := G_law_digits) (hr := hr.mono (by decide)) (hm := glo__law_digits hy) (hk := F_law_digits.kp) (hb := ab_law_digits_2_) (tk := (takes_of rfl rfl rfl rfl)) (hp := rfl) (hmx := by decide) (hdd := fun _ => .nil) (ha := ea_cons (ee_callP (F := G_law_cell) (hr := hr.mono (by decide)) (hm := glo__law_cell hy) (hk := F_law_cell.kp) (hb := ab_law_cell_2_) (tk := (takes_of rfl rfl rfl rfl)) (hp := rfl) (hmx := by decide) (hdd := fun _ => .nil) (ha := ea_cons (ee_var 0) (ea_cons (ee_add (ha := ee_var 1) (hb := ee_int)) (ea_nil))) (hkw := ek_nil)) (ea_cons (en_ee (en_add (ha := en_ee (en_add (ha := en_ee (en_add (ha := en_ee (en_lst (ea_cons (ee_int) (ea_nil)))) (hb := en_ee (en_rep (ha := en_ee (en_lst (ea_cons (ee_int) (ea_nil)))) (hb := ee_int))))) (hb := en_ee (en_rep (ha := en_ee (en_lst (ea_cons (ee_int) (ea_cons (ee_int) (ea_nil))))) (hb := ee_int))))) (hb := en_ee (en_rep (ha := en_ee (en_lst (ea_cons (ee_int) (ea_nil)))) (hb := ee_int))))) (ea_nil))) (hkw := ek_nil))) (ss_cons (ss_rel 5 (ss_set 9 (hN := sc_law_wide.nd) (he := ee_callT (hc := call_tuple_of) (h := (o_tuple rfl)) (hm := (free_tuple hy)) (hv := by decide +kernel) (ha := ea_cons (en_ee (en_lc (own := [("_law_k", 6)]) (hc := rfl) (hN := sc_law_wide.nd) (ok := blkOk_by (show blkC ["_law_script", "_law_at", "_law_upto", "_law_row", "_law_mills", "_law_pairs", "_law_k", "_law_first", "_law_second", "_law_base", "_law_count", "_law_low", "_law_high", "_law_mill", "_law_slack", "_law_top", "_law_let"] (defScope st_law_wide) _ [("_law_k", 6)] = true by decide +kernel)) (hsub := by decide) (hi := ei_range1 (hm := (free_range hy)) (ha := ee_callB (hc := call_len_seq) (h := (o_len rfl)) (hm := (free_len hy)) (hv := by decide +kernel) (ha := ea_cons (ee_var 5) (ea_nil)))) (hg := fun _ _ _ _ _ => eg_name 6 sc_law_wide.nd) (ht := fun _ _ _ _ _ => et_nil) (he := fun _ _ _ _ _ => ee_mod (ha := ee_callT (hc := call_int1) (h := o_int) (hm := (free_int hy)) (hv := by decide +kernel) (ha := ea_cons (ee_ix (ha := ee_var 3) (hb := ee_add (ha := ee_int) (hb := ee_var 6))) (ea_nil))) (hb := ee_int)))) (ea_nil))))) (ss_cons (ss_rel 5 (ss_set 10 (hN := sc_law_wide.nd) (he := ee_callP (F := G_law_fed) (hr := hr.mono (by decide)) (hm := glo__law_fed hy) (hk := F_law_fed.kp) (hb := ab_law_fed_3_) (tk := (takes_of rfl rfl rfl rfl)) (hp := rfl) (hmx := by decide) (hdd := fun _ => .nil) (ha := ea_cons (ee_var 4) (ea_cons (ee_var 5) (ea_cons (ee_var 9) (ea_nil)))) (hkw := ek_nil)))) (ss_cons (ss_own 11 (hN := sc_law_wide.nd) (he := en_lst (ea_nil))) (ss_cons (ss_own 12 (hN := sc_law_wide.nd) (he := en_lst (ea_nil))) (ss_cons (ss_for (hp := passes_of rfl) (hc := rfl) (hi := ei_range1 (hm := (free_range hy)) (ha := ee_var 4)) (hg := eg_name 13 sc_law_wide.nd) (hb := ss_cons (ss_set 14 (hN := sc_law_wide.nd) (he := ee_ix (ha := en_ee (en_lst (ea_cons (ee_int) (ea_cons (ee_int) (ea_cons (ee_int) (ea_cons (ee_int) (ea_cons (ee_int) (ea_cons (ee_int) (ea_cons (ee_int) (ea_cons (ee_int) (ea_nil))))))))))) (hb := ee_mod (ha := ee_callT (hc := call_int1) (h := o_int) (hm := (free_int hy)) (hv := by decide +kernel) (ha := ea_cons (ee_ix (ha := ee_var 3) (hb := ee_add (ha := ee_int) (hb := ee_mul (ha := ee_int) (hb := ee_var 13)))) (ea_nil))) (hb := ee_int)))) (ss_cons (ss_set 15 (hN := sc_law_wide.nd) (he := ee_ix (ha := en_ee (en_lst (ea_cons (ee_non) (ea_cons (ee_int) (ea_cons (ee_int) (ea_cons (ee_int) (ea_cons (ee_non) (ea_cons (ee_int) (ea_cons (ee_int) (ea_cons (ee_int) (ea_nil))))))))))) (hb := ee_mod (ha := ee_callT (hc := call_int1) (h := o_int) (hm := (free_int hy)) (hv := by decide +kernel) (ha := ea_cons (ee_ix (ha := ee_var 3) (hb := ee_add (ha := ee_int) (hb := ee_mul (ha := ee_int) (hb := ee_var 13)))) (ea_nil))) (hb := ee_int)))) (ss_cons (ss_if (eb_le (ha := ee_ix (ha := ee_var 3) (hb := ee_int)) (hb := ee_int)) (ss_one (ss_set 15 (hN := sc_law_wide.nd) (he := ee_non))) (ss_nil)) (ss_cons (ss_if (eb_eq (hr := hr) (ha := ee_ix (ha := ee_var 3) (hb := ee_int)) (hb := ee_int)) (ss_one (ss_set 14 (hN := sc_law_wide.nd) (he := ee_int))) (ss_nil)) (ss_cons (ss_if (eb_eq (hr := hr) (ha := ee_ix (ha := ee_var 3) (hb := ee_int)) (hb := ee_int)) (ss_one (ss_set 15 (hN := sc_law_wide.nd) (he := ee_int))) (ss_nil)) (ss_cons (ss_app 11 (he := ee_callB (hc := (call_max2 rfl)) (h := o_max) (hm := (free_max hy)) (hv := by decide +kernel) (ha := ea_cons (ee_int) (ea_cons (ee_sub (ha := ee_ix (ha := ee_var 10) (hb := ee_var 13)) (hb := ee_var 14)) (ea_nil))))) (ss_cons (ss_if (eb_eq (hr := hr) (ha := ee_ix (ha := ee_var 3) (hb := ee_int)) (hb := ee_int)) (ss_one (ss_setIx 11 (hg := fun h => pg_sub (pv 11) h set_list) (hk := ee_var 13) (he := ee_int))) (ss_nil)) (ss_cons (ss_if (eb_notN (ha := ee_var 15) (hb := ee_non)) (ss_one (ss_set 15 (hN := sc_law_wide.nd) (he := ee_add (ha := ee_ix (ha := ee_var 10) (hb := ee_var 13)) (hb := ee_var 15)))) (ss_nil)) (ss_one (ss_app 12 (he := ee_var 15)))))))))))) (ss_cons (ss_rel 5 (ss_lc_v (ps_lcs (i := 16) (hy := rfl) (hyl := rfl) (hsw := sw_true rfl rfl rfl (by decide +kernel)) (own := [("_law_k", 6)]) (hc := rfl) (hN := sc_law_wide.nd) (ok := blkOk_by (show blkC ["_law_script", "_law_at", "_law_upto", "_law_row", "_law_mills", "_law_pairs", "_law_k", "_law_first", "_law_second", "_law_base", "_law_count", "_law_low", "_law_high", "_law_mill", "_law_slack", "_law_top", "_law_let"] (defScope st_law_wide) _ [("_law_k", 6)] = true by decide +kernel)) (hi := ei_range1 (hm := (free_range hy)) (ha := ee_callB (hc := call_len_seq) (h := (o_len rfl)) (hm := (free_len hy)) (hv := by decide +kernel) (ha := ea_cons (ee_var 5) (ea_nil)))) (hg := fun _ _ _ _ _ => eg_name 6 sc_law_wide.nd) (ht := fun _ _ _ _ _ => et_nil) (he := fun _ _ _ _ _ => ee_ix (ha := en_ee (en_lst (ea_cons (ee_tup (ea_cons (ee_int) (ea_cons (ee_int) (ea_nil)))) (ea_cons (ee_tup (ea_cons (ee_ix (ha := ee_var 9) (hb := ee_var 6)) (ea_nil))) (ea_nil))))) (hb := ee_callT (hc := call_int1) (h := o_int) (hm := (free_int hy)) (hv := by decide +kernel) (ha := ea_cons (ee_eq (hr := hr) (ha := ee_ix (ha := ee_var 3) (hb := ee_add (ha := ee_int) (hb := ee_var 6))) (hb := ee_int)) (ea_nil))))) (w_lc (by decide)))) (ss_one (ss_rel 12 (ss_rel 11 (ss_rel 5 (ss_ret (en_ee (en_lst (ea_cons (ee_var 4) (ea_cons (ee_var 5) (ea_cons (ee_var 11) (ea_cons (ee_var 12) (ea_cons (ee_var 16) (ea_cons (ee_var 9) (ea_nil))))))))))))))))))))))))))⟩
end LW
end

section
set_option maxHeartbeats 4000000
namespace LW
open PySem L2 EV
theorem sc_law_valley : FnScope ["_law_row", "_law_upto", "_law_mills", "_law_many", "_law_pairs", "_law_k", "_law_first", "_law_second"] ["_law_row", "_law_upto"] (defScope st_law_valley) := ⟨rfl, rfl, rfl, by decide +kernel, rfl, by decide +kernel, by decide +kernel⟩
def g_law_valley : FS := gSeq (gSet 2 (v2 ixD (vL (nRep (vL (lenOk (aCons (vC (.int 3)) (aCons (vC (.int 3)) (aCons (vC (.int 4)) (aCons (vC (.int 2)) (aCons (vC (.int 4)) (aCons (vC (.int 3)) (aCons (vC (.int 5)) (aCons (vC (.int 3)) (aCons (vC (.int 4)) (aCons (vC (.int 3)) (aCons (vC (.int 2)) (aCons (vC (.int 4)) (aNil))))))))))))))) (vC (.int 2)))) (v2 modD (vCall intD (aCons (v2 ixD (vVar 0) (vC (.int 0))) (aNil))) (vC (.int 24))))) (gSeq (gIf (v2 eqD (v2 ixD (vVar 0) (vC (.int 0))) (vC (.int 23))) (gSet 2 (vC (.int 1))) (gNext)) (gSeq (gSet 3 (v2 ixD (vL (nRep (vL (lenOk (aCons (vC (.int 4)) (aCons (vC (.int 5)) (aCons (vC (.int 3)) (aCons (vC (.int 6)) (aCons (vC (.int 5)) (aCons (vC (.int 4)) (aCons (vC (.int 7)) (aCons (vC (.int 5)) (aCons (vC (.int 4)) (aCons (vC (.int 6)) (aCons (vC (.int 5)) (aCons (vC (.int 2)) (aNil))))))))))))))) (vC (.int 2)))) (v2 modD (vCall intD (aCons (v2 ixD (vVar 0) (vC (.int 1))) (aNil))) (vC (.int 24))))) (gSeq (gIf (v2 geD (v2 ixD (vVar 0) (vC (.int 1))) (vC (.int 22))) (gSet 3 (v2 subD (vC (.int 23)) (v2 ixD (vVar 0) (vC (.int 1))))) (gNext)) (gSeq (gOwn 4 (lenOk (aNil))) (gSeq (gIf (v2 gtD (vVar 2) (vC (.int 1))) (gFor (iRange1 (vCall minD (aCons (vVar 3) (aCons (vVar 1) (aNil))))) (nmG 5) (gSeq (gSet 6 (v2 modD (vCall intD (aCons (v2 ixD (vVar 0) (v2 addD (vC (.int 3)) (v2 mulD (vC (.int 2)) (vVar 5)))) (aNil))) (vVar 2))) (gSeq (gSet 7 (v2 modD (vCall intD (aCons (v2 addD (v2 addD (vVar 6) (vC (.int 1))) (v2 modD (vCall intD (aCons (v2 ixD (vVar 0) (v2 addD (vC (.int 4)) (v2 mulD (vC (.int 2)) (vVar 5)))) (aNil))) (v2 subD (vVar 2) (vC (.int 1))))) (aNil))) (vVar 2))) (gSeq (gIf (vAnd (vOr (v2 eqD (v2 ixD (vVar 0) (vC (.int 2))) (vC (.int 2))) (v2 eqD (v2 ixD (vVar 0) (vC (.int 2))) (vC (.int 3)))) (v2 ltD (vVar 5) (vVar 2))) (gSeq (gSet 6 (vVar 5)) (gSet 7 (v2 modD (vCall intD (aCons (v2 addD (vVar 5) (vC (.int 1))) (aNil))) (vVar 2)))) (gNext)) (gSeq (gIf (vOr (vAnd (v2 geD (v2 ixD (vVar 0) (vC (.int 2))) (vC (.int 4))) (v2 eqD (vVar 5) (vC (.int 1)))) (vAnd (v2 eqD (v2 ixD (vVar 0) (vC (.int 2))) (vC (.int 5))) (v2 eqD (vVar 5) (vC (.int 3))))) (gSeq (gSetA 6 (v2 ixD (v2 ixD (vVar 4) (v2 subD (vVar 5) (vC (.int 1)))) (vC (.int 1)))) (gSetA 7 (v2 ixD (v2 ixD (vVar 4) (v2 subD (vVar 5) (vC (.int 1)))) (vC (.int 0))))) (gNext)) (gAppO 4 (gApp 4 (vTup (aCons (vVar 6) (aCons (vVar 7) (aNil))))))))))) (gNext)) (gRel 4 (gRet (vL (lenOk (aCons (vVar 2) (aCons (vVar 4) (aCons (v2 ixD (vVar 0) (vC (.int 2))) (aNil)))))))))))))
def sem_law_valley : List D → Option R := semF 8 g_law_valley
theorem ok_law_valley {P : Program} {w : World} {K : PySem.W.Frag} {mg : Str → Option Value} {base : Heap} (hy : Hyp K mg) : ∃ fd, FunD K d_law_valley.name d_law_valley.qual d_law_valley.params d_law_valley.body d_law_valley.scope (d_law_valley.dvs K) (d_law_valley.kws K) (He.fAd K d_law_valley.at_) fd ∧ FnOk P w K mg base (L2.CX P w) 1 (He.fAd K d_law_valley.at_) fd ["_law_row", "_law_upto"] (spF (tab K) 2 (sem_law_valley)) := by
  obtain ⟨fd, F⟩ := hy.says.fn (17) (d := d_law_valley) rfl
  exact ⟨fd, F, fn_ev F sc_law_valley fun cdv A outer s H E hr => (ss_cons (ss_set 2 (hN := sc_law_valley.nd) (he := ee_ix (ha := en_ee (en_rep (ha := en_ee (en_lst (ea_cons (ee_int) (ea_cons (ee_int) (ea_cons (ee_int) (ea_cons (ee_int) (ea_cons (ee_int) (ea_cons (ee_int) (ea_cons (ee_int) (ea_cons (ee_int) (ea_cons (ee_int) (ea_cons (ee_int) (ea_cons (ee_int) (ea_cons (ee_int) (ea_nil))))))))))))))) (hb := ee_int))) (hb := ee_mod (ha := ee_callT (hc := call_int1) (h := o_int) (hm := (free_int hy)) (hv := by decide +kernel) (ha := ea_cons (ee_ix (ha := ee_var 0) (hb := ee_int)) (ea_nil))) (hb := ee_int)))) (ss_cons (ss_if (eb_eq (hr := hr) (ha := ee_ix (ha := ee_var 0) (hb := ee_int)) (hb := ee_int)) (ss_one (ss_set 2 (hN := sc_law_valley.nd) (he := ee_int))) (ss_nil)) (ss_cons (ss_set 3 (hN := sc_law_valley.nd) (he := ee_ix (ha := en_ee (en_rep (ha := en_ee (en_lst (ea_cons (ee_int) (ea_cons (ee_int) (ea_cons (ee_int) (ea_cons (ee_int) (ea_cons (ee_int) (ea_cons (ee_int) (ea_cons (ee_int) (ea_cons (ee_int) (ea_cons (ee_int) (ea_cons (ee_int) (ea_cons (ee_int) (ea_cons (ee_int) (ea_nil))))))))))))))) (hb := ee_int))) (hb := ee_mod (ha := ee_callT (hc := call_int1) (h := o_int) (hm := (free_int hy)) (hv := by decide +kernel) (ha := ea_cons (ee_ix (ha := ee_var 0) (hb := ee_int)) (ea_nil))) (hb := ee_int)))) (ss_cons (ss_if (eb_ge (ha := ee_ix (ha := ee_var 0) (hb := ee_int)) (hb := ee_int)) (ss_one (ss_set 3 (hN := sc_law_valley.nd) (he := ee_sub (ha := ee_int) (hb := ee_ix (ha := ee_var 0) (hb := ee_int))))) (ss_nil)) (ss_cons (ss_own 4 (hN := sc_law_valley.nd) (he := en_lst (ea_nil))) (ss_cons (ss_if (eb_gt (ha := ee_var 2) (hb := ee_int)) (ss_one (ss_for (hp := passes_of rfl) (hc := rfl) (hi := ei_range1 (hm := (free_range hy)) (ha := ee_callB (hc := (call_min2 rfl)) (h := o_min) (hm := (free_min hy)) (hv := by decide +kernel) (ha := ea_cons (ee_var 3) (ea_cons (ee_var 1) (ea_nil))))) (hg := eg_name 5 sc_law_valley.nd) (hb := ss_cons (ss_set 6 (hN := sc_law_valley.nd) (he := ee_mod (ha := ee_callT (hc := call_int1) (h := o_int) (hm := (free_int hy)) (hv := by decide +kernel) (ha := ea_cons (ee_ix (ha := ee_var 0) (hb := ee_add (ha := ee_int) (hb := ee_mul (ha := ee_int) (hb := ee_var 5)))) (ea_nil))) (hb := ee_var 2))) (ss_cons (ss_set 7 (hN := sc_law_valley.nd) (he := ee_mod (ha := ee_callT (hc := call_int1) (h := o_int) (hm := (free_int hy)) (hv := by decide +kernel) (ha := ea_cons (ee_add (ha := ee_add (ha := ee_var 6) (hb := ee_int)) (hb := ee_mod (ha := ee_callT (hc := call_int1) (h := o_int) (hm := (free_int hy)) (hv := by decide +kernel) (ha := ea_cons (ee_ix (ha := ee_var 0) (hb := ee_add (ha := ee_int) (hb := ee_mul (ha := ee_int) (hb := ee_var 5)))) (ea_nil))) (hb := ee_sub (ha := ee_var 2) (hb := ee_int)))) (ea_nil))) (hb := ee_var 2))) (ss_cons (ss_if (eb_w (ew_and (eb_w (ew_or (eb_eq (hr := hr) (ha := ee_ix (ha := ee_var 0) (hb := ee_int)) (hb := ee_int)) (ew_or1 (eb_eq (hr := hr) (ha := ee_ix (ha := ee_var 0) (hb := ee_int)) (hb := ee_int))))) (ew_and1 (eb_lt (ha := ee_var 5) (hb := ee_var 2))))) (ss_cons (ss_set 6 (hN := sc_law_valley.nd) (he := ee_var 5)) (ss_one (ss_set 7 (hN := sc_law_valley.nd) (he := ee_mod (ha := ee_callT (hc := call_int1) (h := o_int) (hm := (free_int hy)) (hv := by decide +kernel) (ha := ea_cons (ee_add (ha := ee_var 5) (hb := ee_int)) (ea_nil))) (hb := ee_var 2))))) (ss_nil)) (ss_cons (ss_if (eb_w (ew_or (eb_w (ew_and (eb_ge (ha := ee_ix (ha := ee_var 0) (hb := ee_int)) (hb := ee_int)) (ew_and1 (eb_eq (hr := hr) (ha := ee_var 5) (hb := ee_int))))) (ew_or1 (eb_w (ew_and (eb_eq (hr := hr) (ha := ee_ix (ha := ee_var 0) (hb := ee_int)) (hb := ee_int)) (ew_and1 (eb_eq (hr := hr) (ha := ee_var 5) (hb := ee_int)))))))) (ss_cons (ss_setA 6 (hN := sc_law_valley.nd) (he := ee_ix (ha := ee_ix (ha := ee_var 4) (hb := ee_sub (ha := ee_var 5) (hb := ee_int))) (hb := ee_int))) (ss_one (ss_setA 7 (hN := sc_law_valley.nd) (he := ee_ix (ha := ee_ix (ha := ee_var 4) (hb := ee_sub (ha := ee_var 5) (hb := ee_int))) (hb := ee_int))))) (ss_nil)) (ss_one (ss_app 4 (he := ee_tup (ea_cons (ee_var 6) (ea_cons (ee_var 7) (ea_nil)))))))))))) (ss_nil)) (ss_one (ss_rel 4 (ss_ret (en_ee (en_lst (ea_cons (ee_var 2) (ea_cons (ee_var 4) (ea_cons (ee_ix (ha := ee_var 0) (hb := ee_int)) (ea_nil)))))))))))))))⟩
end LW
end

section
set_option maxHeartbeats 4000000
namespace LW
open PySem L2 EV
theorem sc_law_world : FnScope ["_law_valley_here", "_law_row", "_law_mills", "_law_pairs", "_law_base", "_law_k", "_law_count", "_law_low", "_law_high", "_law_mill", "_law_slack", "_law_top", "_law_let"] ["_law_valley_here", "_law_row"] (defScope st_law_world) := ⟨rfl, rfl, rfl, by decide +kernel, rfl, by decide +kernel, by decide +kernel⟩
def g_law_world : FS := gSeq (gSet 2 (v2 ixD (vVar 0) (vC (.int 0)))) (gSeq (gSet 3 (v2 ixD (vVar 0) (vC (.int 1)))) (gSeq (gOwn 4 (nLc (iRange1 (vCall lenD (aCons (vVar 3) (aNil)))) (nmG 5) (vYes) (v2 modD (vCall intD (aCons (v2 ixD (vVar 1) (v2 addD (vC (.int 18)) (vVar 5))) (aNil))) (vC (.int 2))) [5])) (gSeq (gFor (iRange1 (vCall lenD (aCons (vVar 3) (aNil)))) (nmG 5) (gSeq (gIf (vAnd (vOr (v2 eqD (v2 ixD (vVar 0) (vC (.int 2))) (vC (.int 2))) (v2 eqD (v2 ixD (vVar 0) (vC (.int 2))) (vC (.int 3)))) (v2 ltD (vVar 5) (vVar 2))) (gSetIxA 4 (vVar 5) (v2 ixD (vVar 4) (vC (.int 0)))) (gNext)) (gIf (vOr (vAnd (v2 geD (v2 ixD (vVar 0) (vC (.int 2))) (vC (.int 4))) (v2 eqD (vVar 5) (vC (.int 1)))) (vAnd (v2 eqD (v2 ixD (vVar 0) (vC (.int 2))) (vC (.int 5))) (v2 eqD (vVar 5) (vC (.int 3))))) (gSetIxA 4 (vVar 5) (v2 ixD (vVar 4) (v2 subD (vVar 5) (vC (.int 1))))) (gNext)))) (gSeq (gRel 4 (gSet 6 (vCallP 3 0 [0, 1, 2] sem_law_fed [] (aCons (vVar 2) (aCons (vVar 3) (aCons (vVar 4) (aNil)))) (aNil)))) (gSeq (gOwn 7 (lenOk (aNil))) (gSeq (gOwn 8 (lenOk (aNil))) (gSeq (gFor (iRange1 (vVar 2)) (nmG 9) (gSeq (gSet 10 (v2 ixD (vL (lenOk (aCons (vC (.int 0)) (aCons (vC (.int 0)) (aCons (vC (.int 1)) (aCons (vC (.int 0)) (aCons (vC (.int 1)) (aCons (vC (.int 2)) (aCons (vC (.int 0)) (aCons (vC (.int 1)) (aNil))))))))))) (v2 modD (vCall intD (aCons (v2 ixD (vVar 1) (v2 addD (vC (.int 1)) (v2 mulD (vC (.int 2)) (vVar 9)))) (aNil))) (vC (.int 8))))) (gSeq (gSet 11 (v2 ixD (vL (lenOk (aCons (vC .non) (aCons (vC (.int 1)) (aCons (vC .non) (aCons (vC (.int 0)) (aCons (vC (.int 1)) (aCons (vC (.int 2)) (aCons (vC (.int 1)) (aCons (vC .non) (aNil))))))))))) (v2 modD (vCall intD (aCons (v2 ixD (vVar 1) (v2 addD (vC (.int 2)) (v2 mulD (vC (.int 2)) (vVar 9)))) (aNil))) (vC (.int 8))))) (gSeq (gIf (vOr (v2 eqD (v2 ixD (vVar 1) (vC (.int 0))) (vC (.int 1))) (vOr (v2 eqD (v2 ixD (vVar 1) (vC (.int 0))) (vC (.int 5))) (vAnd (v2 eqD (v2 ixD (vVar 1) (vC (.int 0))) (vC (.int 2))) (v2 gtD (vVar 9) (vC (.int 0)))))) (gSet 10 (vC (.int 0))) (gNext)) (gSeq (gIf (v2 eqD (v2 ixD (vVar 1) (vC (.int 0))) (vC (.int 5))) (gSet 11 (vC (.int 1))) (gNext)) (gSeq (gIf (vOr (v2 leD (v2 ixD (vVar 1) (vC (.int 0))) (vC (.int 2))) (v2 eqD (v2 ixD (vVar 1) (vC (.int 0))) (vC (.int 7)))) (gSet 11 (vC .non)) (gNext)) (gSeq (gAppO 7 (gApp 7 (vCall maxD (aCons (vC (.int 0)) (aCons (v2 subD (v2 ixD (vVar 6) (vVar 9)) (vVar 10)) (aNil)))))) (gSeq (gIf (v2 eqD (v2 ixD (vVar 1) (vC (.int 0))) (vC (.int 3))) (gSeq (gSetIx 7 (vVar 9) (vC (.int 0))) (gSet 11 (v2 ixD (vL (lenOk (aCons (vC (.int 0)) (aCons (vC (.int 0)) (aCons (vC (.int 0)) (aCons (vC (.int 1)) (aNil))))))) (v2 modD (vCall intD (aCons (v2 ixD (vVar 1) (v2 addD (vC (.int 2)) (v2 mulD (vC (.int 2)) (vVar 9)))) (aNil))) (vC (.int 4)))))) (gNext)) (gSeq (gIf (v2 notNonD (vVar 11) (vC .non)) (gSet 11 (v2 addD (v2 ixD (vVar 6) (vVar 9)) (vVar 11))) (gNext)) (gAppO 8 (gApp 8 (vVar 11)))))))))))) (gSeq (gOwn 12 (lenOk (aNil))) (gSeq (gFor (iRange1 (vCall lenD (aCons (vVar 3) (aNil)))) (nmG 5) (gRel 4 (gAppO 12 (gApp 12 (v2 ixD (vL (lenOk (aCons (vTup (aCons (vC (.int 0)) (aCons (vC (.int 1)) (aNil)))) (aCons (vTup (aCons (v2 ixD (vVar 4) (vVar 5)) (aNil))) (aNil))))) (vCall intD (aCons (v2 eqD (v2 ixD (vVar 1) (v2 addD (vC (.int 11)) (vVar 5))) (vC (.int 5))) (aNil)))))))) (gRel 12 (gRel 8 (gRel 7 (gRet (vL (lenOk (aCons (vVar 2) (aCons (vVar 3) (aCons (vVar 7) (aCons (vVar 8) (aCons (vVar 12) (aNil)))))))))))))))))))))
def sem_law_world : List D → Option R := semF 13 g_law_world
theorem ok_law_world {P : Program} {w : World} {K : PySem.W.Frag} {mg : Str → Option Value} {base : Heap} (hy : Hyp K mg) : ∃ fd, FunD K d_law_world.name d_law_world.qual d_law_world.params d_law_world.body d_law_world.scope (d_law_world.dvs K) (d_law_world.kws K) (He.fAd K d_law_world.at_) fd ∧ FnOk P w K mg base (L2.CX P w) 2 (He.fAd K d_law_world.at_) fd ["_law_valley_here", "_law_row"] (spF (tab K) 2 (sem_law_world)) := by
  obtain ⟨fd_law_fed, F_law_fed, G_law_fed⟩ := ok_law_fed (P := P) (w := w) (base := base) hy
  have ab_law_fed_3_ : ArgB K fd_law_fed ["_law_mills", "_law_pairs", "_law_setting"] 3 [] [] [0, 1, 2] := ArgB.given F_law_fed (fun kV doc pm an cdv ct us ws l1 l2 => match us, l1, ws, l2 with | [_, _, _], _, [], _ => rfl)
  obtain ⟨fd, F⟩ := hy.says.fn (18) (d := d_law_world) rfl
  exact ⟨fd, F, fn_ev F sc_law_world fun cdv A outer s H E hr => (ss_cons (ss_set 2 (hN := sc_law_world.nd) (he := ee_ix (ha := ee_var 0) (hb := ee_int))) (ss_cons (ss_set 3 (hN := sc_law_world.nd) (he := ee_ix (ha := ee_var 0) (hb := ee_int))) (ss_cons (ss_lc_o (ps_lcs (i := 4) (hy := rfl) (hyl := rfl) (hsw := sw_true rfl rfl rfl (by decide +kernel)) (own := [("_law_k", 5)]) (hc := rfl) (hN := sc_law_world.nd) (ok := blkOk_by (show blkC ["_law_valley_here", "_law_row", "_law_mills", "_law_pairs", "_law_base", "_law_k", "_law_count", "_law_low", "_law_high", "_law_mill", "_law_slack", "_law_top", "_law_let"] (defScope st_law_world) _ [("_law_k", 5)] = true by decide +kernel)) (hi := ei_range1 (hm := (free_range hy)) (ha := ee_callB (hc := call_len_seq) (h := (o_len rfl)) (hm := (free_len hy)) (hv := by decide +kernel) (ha := ea_cons (ee_var 3) (ea_nil)))) (hg := fun _ _ _ _ _ => eg_name 5 sc_law_world.nd) (ht := fun _ _ _ _ _ => et_nil) (he := fun _ _ _ _ _ => ee_mod (ha := ee_callT (hc := call_int1) (h := o_int) (hm := (free_int hy)) (hv := by decide +kernel) (ha := ea_cons (ee_ix (ha := ee_var 1) (hb := ee_add (ha := ee_int) (hb := ee_var 5))) (ea_nil))) (hb := ee_int))) (w_lc (by decide))) (ss_cons (ss_for (hp := passes_of rfl) (hc := rfl) (hi := ei_range1 (hm := (free_range hy)) (ha := ee_callB (hc := call_len_seq) (h := (o_len rfl)) (hm := (free_len hy)) (hv := by decide +kernel) (ha := ea_cons (ee_var 3) (ea_nil)))) (hg := eg_name 5 sc_law_world.nd) (hb := ss_cons (ss_if (eb_w (ew_and (eb_w (ew_or (eb_eq (hr := hr) (ha := ee_ix (ha := ee_var 0) (hb := ee_int)) (hb := ee_int)) (ew_or1 (eb_eq (hr := hr) (ha := ee_ix (ha := ee_var 0) (hb := ee_int)) (hb := ee_int))))) (ew_and1 (eb_lt (ha := ee_var 5) (hb := ee_var 2))))) (ss_one (ss_setIxA 4 (hg := fun h => pg_sub (pv 4) h set_list) (hk := ee_var 5) (he := ee_ix (ha := ee_var 4) (hb := ee_int)))) (ss_nil)) (ss_one (ss_if (eb_w (ew_or (eb_w (ew_and (eb_ge (ha := ee_ix (ha := ee_var 0) (hb := ee_int)) (hb := ee_int)) (ew_and1 (eb_eq (hr := hr) (ha := ee_var 5) (hb := ee_int))))) (ew_or1 (eb_w (ew_and (eb_eq (hr := hr) (ha := ee_ix (ha := ee_var 0) (hb := ee_int)) (hb := ee_int)) (ew_and1 (eb_eq (hr := hr) (ha := ee_var 5) (hb := ee_int)))))))) (ss_one (ss_setIxA 4 (hg := fun h => pg_sub (pv 4) h set_list) (hk := ee_var 5) (he := ee_ix (ha := ee_var 4) (hb := ee_sub (ha := ee_var 5) (hb := ee_int))))) (ss_nil))))) (ss_cons (ss_rel 4 (ss_set 6 (hN := sc_law_world.nd) (he := ee_callP (F := G_law_fed) (hr := hr.mono (by decide)) (hm := glo__law_fed hy) (hk := F_law_fed.kp) (hb := ab_law_fed_3_) (tk := (takes_of rfl rfl rfl rfl)) (hp := rfl) (hmx := by decide) (hdd := fun _ => .nil) (ha := ea_cons (ee_var 2) (ea_cons (ee_var 3) (ea_cons (ee_var 4) (ea_nil)))) (hkw := ek_nil)))) (ss_cons (ss_own 7 (hN := sc_law_world.nd) (he := en_lst (ea_nil))) (ss_cons (ss_own 8 (hN := sc_law_world.nd) (he := en_lst (ea_nil))) (ss_cons (ss_for (hp := passes_of rfl) (hc := rfl) (hi := ei_range1 (hm := (free_range hy)) (ha := ee_var 2)) (hg := eg_name 9 sc_law_world.nd) (hb := ss_cons (ss_set 10 (hN := sc_law_world.nd) (he := ee_ix (ha := en_ee (en_lst (ea_cons (ee_int) (ea_cons (ee_int) (ea_cons (ee_int) (ea_cons (ee_int) (ea_cons (ee_int) (ea_cons (ee_int) (ea_cons (ee_int) (ea_cons (ee_int) (ea_nil))))))))))) (hb := ee_mod (ha := ee_callT (hc := call_int1) (h := o_int) (hm := (free_int hy)) (hv := by decide +kernel) (ha := ea_cons (ee_ix (ha := ee_var 1) (hb := ee_add (ha := ee_int) (hb := ee_mul (ha := ee_int) (hb := ee_var 9)))) (ea_nil))) (hb := ee_int)))) (ss_cons (ss_set 11 (hN := sc_law_world.nd) (he := ee_ix (ha := en_ee (en_lst (ea_cons (ee_non) (ea_cons (ee_int) (ea_cons (ee_non) (ea_cons (ee_int) (ea_cons (ee_int) (ea_cons (ee_int) (ea_cons (ee_int) (ea_cons (ee_non) (ea_nil))))))))))) (hb := ee_mod (ha := ee_callT (hc := call_int1) (h := o_int) (hm := (free_int hy)) (hv := by decide +kernel) (ha := ea_cons (ee_ix (ha := ee_var 1) (hb := ee_add (ha := ee_int) (hb := ee_mul (ha := ee_int) (hb := ee_var 9)))) (ea_nil))) (hb := ee_int)))) (ss_cons (ss_if (eb_w (ew_or (eb_eq (hr := hr) (ha := ee_ix (ha := ee_var 1) (hb := ee_int)) (hb := ee_int)) (ew_or (eb_eq (hr := hr) (ha := ee_ix (ha := ee_var 1) (hb := ee_int)) (hb := ee_int)) (ew_or1 (eb_w (ew_and (eb_eq (hr := hr) (ha := ee_ix (ha := ee_var 1) (hb := ee_int)) (hb := ee_int)) (ew_and1 (eb_gt (ha := ee_var 9) (hb := ee_int))))))))) (ss_one (ss_set 10 (hN := sc_law_world.nd) (he := ee_int))) (ss_nil)) (ss_cons (ss_if (eb_eq (hr := hr) (ha := ee_ix (ha := ee_var 1) (hb := ee_int)) (hb := ee_int)) (ss_one (ss_set 11 (hN := sc_law_world.nd) (he := ee_int))) (ss_nil)) (ss_cons (ss_if (eb_w (ew_or (eb_le (ha := ee_ix (ha := ee_var 1) (hb := ee_int)) (hb := ee_int)) (ew_or1 (eb_eq (hr := hr) (ha := ee_ix (ha := ee_var 1) (hb := ee_int)) (hb := ee_int))))) (ss_one (ss_set 11 (hN := sc_law_world.nd) (he := ee_non))) (ss_nil)) (ss_cons (ss_app 7 (he := ee_callB (hc := (call_max2 rfl)) (h := o_max) (hm := (free_max hy)) (hv := by decide +kernel) (ha := ea_cons (ee_int) (ea_cons (ee_sub (ha := ee_ix (ha := ee_var 6) (hb := ee_var 9)) (hb := ee_var 10)) (ea_nil))))) (ss_cons (ss_if (eb_eq (hr := hr) (ha := ee_ix (ha := ee_var 1) (hb := ee_int)) (hb := ee_int)) (ss_cons (ss_setIx 7 (hg := fun h => pg_sub (pv 7) h set_list) (hk := ee_var 9) (he := ee_int)) (ss_one (ss_set 11 (hN := sc_law_world.nd) (he := ee_ix (ha := en_ee (en_lst (ea_cons (ee_int) (ea_cons (ee_int) (ea_cons (ee_int) (ea_cons (ee_int) (ea_nil))))))) (hb := ee_mod (ha := ee_callT (hc := call_int1) (h := o_int) (hm := (free_int hy)) (hv := by decide +kernel) (ha := ea_cons (ee_ix (ha := ee_var 1) (hb := ee_add (ha := ee_int) (hb := ee_mul (ha := ee_int) (hb := ee_var 9)))) (ea_nil))) (hb := ee_int)))))) (ss_nil)) (ss_cons (ss_if (eb_notN (ha := ee_var 11) (hb := ee_non)) (ss_one (ss_set 11 (hN := sc_law_world.nd) (he := ee_add (ha := ee_ix (ha := ee_var 6) (hb := ee_var 9)) (hb := ee_var 11)))) (ss_nil)) (ss_one (ss_app 8 (he := ee_var 11)))))))))))) (ss_cons (ss_own 12 (hN := sc_law_world.nd) (he := en_lst (ea_nil))) (ss_cons (ss_for (hp := passes_of rfl) (hc := rfl) (hi := ei_range1 (hm := (free_range hy)) (ha := ee_callB (hc := call_len_seq) (h := (o_len rfl)) (hm := (free_len hy)) (hv := by decide +kernel) (ha := ea_cons (ee_var 3) (ea_nil)))) (hg := eg_name 5 sc_law_world.nd) (hb := ss_one (ss_rel 4 (ss_app 12 (he := ee_ix (ha := en_ee (en_lst (ea_cons (ee_tup (ea_cons (ee_int) (ea_cons (ee_int) (ea_nil)))) (ea_cons (ee_tup (ea_cons (ee_ix (ha := ee_var 4) (hb := ee_var 5)) (ea_nil))) (ea_nil))))) (hb := ee_callT (hc := call_int1) (h := o_int) (hm := (free_int hy)) (hv := by decide +kernel) (ha := ea_cons (ee_eq (hr := hr) (ha := ee_ix (ha := ee_var 1) (hb := ee_add (ha := ee_int) (hb := ee_var 5))) (hb := ee_int)) (ea_nil)))))))) (ss_one (ss_rel 12 (ss_rel 8 (ss_rel 7 (ss_ret (en_ee (en_lst (ea_cons (ee_var 2) (ea_cons (ee_var 3) (ea_cons (ee_var 7) (ea_cons (ee_var 8) (ea_cons (ee_var 12) (ea_nil)))))))))))))))))))))))⟩
end LW
end

section
set_option maxHeartbeats 4000000
namespace LW
open PySem L2 EV
theorem sc_law_drawn : FnScope ["_law_script", "_law_at", "_law_upto", "_law_valley_here"] ["_law_script", "_law_at", "_law_upto"] (defScope st_law_drawn) := ⟨rfl, rfl, rfl, by decide +kernel, rfl, by decide +kernel, by decide +kernel⟩
def g_law_drawn : FS := gSeq (gSet 3 (vCallP 2 0 [0, 1] sem_law_valley [] (aCons (vCallP 2 0 [0, 1] sem_law_digits [] (aCons (vCallP 2 0 [0, 1] sem_law_cell [] (aCons (vVar 0) (aCons (vVar 1) (aNil))) (aNil)) (aCons (vL (nAdd (vL (lenOk (aCons (vC (.int 24)) (aCons (vC (.int 24)) (aCons (vC (.int 6)) (aNil)))))) (vL (nRep (vL (lenOk (aCons (vC (.int 12)) (aCons (vC (.int 12)) (aNil))))) (vC (.int 7)))))) (aNil))) (aNil)) (aCons (vVar 2) (aNil))) (aNil))) (gRet (vCallP 2 0 [0, 1] sem_law_world [] (aCons (vVar 3) (aCons (vCallP 2 0 [0, 1] sem_law_digits [] (aCons (vCallP 2 0 [0, 1] sem_law_cell [] (aCons (vVar 0) (aCons (v2 addD (vVar 1) (vC (.int 1))) (aNil))) (aNil)) (aCons (vL (nAdd (vL (nAdd (vL (nAdd (vL (lenOk (aCons (vC (.int 8)) (aNil)))) (vL (nRep (vL (lenOk (aCons (vC (.int 8)) (aCons (vC (.int 8)) (aNil))))) (vC (.int 5)))))) (vL (nRep (vL (lenOk (aCons (vC (.int 24)) (aNil)))) (vC (.int 7)))))) (vL (nRep (vL (lenOk (aCons (vC (.int 2)) (aNil)))) (vC (.int 7)))))) (aNil))) (aNil)) (aNil))) (aNil)))
def sem_law_drawn : List D → Option R := semF 4 g_law_drawn
theorem ok_law_drawn {P : Program} {w : World} {K : PySem.W.Frag} {mg : Str → Option Value} {base : Heap} (hy : Hyp K mg) : ∃ fd, FunD K d_law_drawn.name d_law_drawn.qual d_law_drawn.params d_law_drawn.body d_law_drawn.scope (d_law_drawn.dvs K) (d_law_drawn.kws K) (He.fAd K d_law_drawn.at_) fd ∧ FnOk P w K mg base (L2.CX P w) 3 (He.fAd K d_law_drawn.at_) fd ["_law_script", "_law_at", "_law_upto"] (spF (tab K) 3 (sem_law_drawn)) := by
  obtain ⟨fd_law_valley, F_law_valley, G_law_valley⟩ := ok_law_valley (P := P) (w := w) (base := base) hy
  obtain ⟨fd_law_digits, F_law_digits, G_law_digits⟩ := ok_law_digits (P := P) (w := w) (base := base) hy
  obtain ⟨fd_law_cell, F_law_cell, G_law_cell⟩ := ok_law_cell (P := P) (w := w) (base := base) hy
  obtain ⟨fd_law_world, F_law_world, G_law_world⟩ := ok_law_world (P := P) (w := w) (base := base) hy
  have ab_law_valley_2_ : ArgB K fd_law_valley ["_law_row", "_law_upto"] 2 [] [] [0, 1] := ArgB.given F_law_valley (fun kV doc pm an cdv ct us ws l1 l2 => match us, l1, ws, l2 with | [_, _], _, [], _ => rfl)
  have ab_law_digits_2_ : ArgB K fd_law_digits ["_law_cell_here", "_law_sizes"] 2 [] [] [0, 1] := ArgB.given F_law_digits (fun kV doc pm an cdv ct us ws l1 l2 => match us, l1, ws, l2 with | [_, _], _, [], _ => rfl)
  have ab_law_cell_2_ : ArgB K fd_law_cell ["_law_script", "_law_k"] 2 [] [] [0, 1] := ArgB.given F_law_cell (fun kV doc pm an cdv ct us ws l1 l2 => match us, l1, ws, l2 with | [_, _], _, [], _ => rfl)
  have ab_law_world_2_ : ArgB K fd_law_world ["_law_valley_here", "_law_row"] 2 [] [] [0, 1] := ArgB.given F_law_world (fun kV doc pm an cdv ct us ws l1 l2 => match us, l1, ws, l2 with | [_, _], _, [], _ => rfl)
  obtain ⟨fd, F⟩ := hy.says.fn (19) (d := d_law_drawn) rfl
  exact ⟨fd, F, fn_ev F sc_law_drawn fun cdv A outer s H E hr => (ss_cons (ss_set 3 (hN := sc_law_drawn.nd) (he := ee_callP (F := G_law_valley) (hr := hr.mono (by decide)) (hm := glo__law_valley hy) (hk := F_law_valley.kp) (hb := ab_law_valley_2_) (tk := (takes_of rfl rfl rfl rfl)) (hp := rfl) (hmx := by decide) (hdd := fun _ => .nil) (ha := ea_cons (ee_callP (F := G_law_digits) (hr := hr.mono (by decide)) (hm := glo__law_digits hy) (hk := F_law_digits.kp) (hb := ab_law_digits_2_) (tk := (takes_of rfl rfl rfl rfl)) (hp := rfl) (hmx := by decide) (hdd := fun _ => .nil) (ha := ea_cons (ee_callP (F := G_law_cell) (hr := hr.mono (by decide)) (hm := glo__law_cell hy) (hk := F_law_cell.kp) (hb := ab_law_cell_2_) (tk := (takes_of rfl rfl rfl rfl)) (hp := rfl) (hmx := by decide) (hdd := fun _ => .nil) (ha := ea_cons (ee_var 0) (ea_cons (ee_var 1) (ea_nil))) (hkw := ek_nil)) (ea_cons (en_ee (en_add (ha := en_ee (en_lst (ea_cons (ee_int) (ea_cons (ee_int) (ea_cons (ee_int) (ea_nil)))))) (hb := en_ee (en_rep (ha := en_ee (en_lst (ea_cons (ee_int) (ea_cons (ee_int) (ea_nil))))) (hb := ee_int))))) (ea_nil))) (hkw := ek_nil)) (ea_cons (ee_var 2) (ea_nil))) (hkw := ek_nil))) (ss_one (ss_ret (ee_callP (F := G_law_world) (hr := hr.mono (by decide)) (hm := glo__law_world hy) (hk := F_law_world.kp) (hb := ab_law_world_2_) (tk := (takes_of rfl rfl rfl rfl)) (hp := rfl) (hmx := by decide) (hdd := fun _ => .nil) (ha := ea_cons (ee_var 3) (ea_cons (ee_callP (F := G_law_digits) (hr := hr.mono (by decide)) (hm := glo__law_digits hy) (hk := F_law_digits.kp) (hb := ab_law_digits_2_) (tk := (takes_of rfl rfl rfl rfl)) (hp := rfl) (hmx := by decide) (hdd := fun _ => .nil) (ha := ea_cons (ee_callP (F := G_law_cell) (hr := hr.mono (by decide)) (hm := glo__law_cell hy) (hk := F_law_cell.kp) (hb := ab_law_cell_2_) (tk := (takes_of rfl rfl rfl rfl)) (hp := rfl) (hmx := by decide) (hdd := fun _ => .nil) (ha := ea_cons (ee_var 0) (ea_cons (ee_add (ha := ee_var 1) (hb := ee_int)) (ea_nil))) (hkw := ek_nil)) (ea_cons (en_ee (en_add (ha := en_ee (en_add (ha := en_ee (en_add (ha := en_ee (en_lst (ea_cons (ee_int) (ea_nil)))) (hb := en_ee (en_rep (ha := en_ee (en_lst (ea_cons (ee_int) (ea_cons (ee_int) (ea_nil))))) (hb := ee_int))))) (hb := en_ee (en_rep (ha := en_ee (en_lst (ea_cons (ee_int) (ea_nil)))) (hb := ee_int))))) (hb := en_ee (en_rep (ha := en_ee (en_lst (ea_cons (ee_int) (ea_nil)))) (hb := ee_int))))) (ea_nil))) (hkw := ek_nil)) (ea_nil))) (hkw := ek_nil)))))⟩
end LW
end

section
set_option maxHeartbeats 4000000
namespace LW
open PySem L2 EV
theorem sc_law_free : FnScope ["_law_script", "_law_valley_here", "_law_row", "_law_low", "_law_high", "_law_mill", "_law_need", "_law_top", "_law_let", "_law_k", "_law_side"] ["_law_script"] (defScope st_law_free) := ⟨rfl, rfl, rfl, by decide +kernel, rfl, by decide +kernel, by decide +kernel⟩
def g_law_free : FS := gSeq (gSet 1 (vCallP 2 0 [0, 1] sem_law_valley [] (aCons (vCallP 2 0 [0, 1] sem_law_digits [] (aCons (vCallP 2 0 [0, 1] sem_law_cell [] (aCons (vVar 0) (aCons (vC (.int 0)) (aNil))) (aNil)) (aCons (vL (nAdd (vL (lenOk (aCons (vC (.int 24)) (aCons (vC (.int 24)) (aCons (vC (.int 6)) (aNil)))))) (vL (nRep (vL (lenOk (aCons (vC (.int 12)) (aCons (vC (.int 12)) (aNil))))) (vC (.int 7)))))) (aNil))) (aNil)) (aCons (vC (.int 7)) (aNil))) (aNil))) (gSeq (gSet 2 (vCallP 2 0 [0, 1] sem_law_digits [] (aCons (vCallP 2 0 [0, 1] sem_law_cell [] (aCons (vVar 0) (aCons (vC (.int 1)) (aNil))) (aNil)) (aCons (vL (nAdd (vL (nAdd (vL (lenOk (aCons (vC (.int 4)) (aNil)))) (vL (nRep (vL (lenOk (aCons (vC (.int 24)) (aCons (vC (.int 24)) (aNil))))) (vC (.int 5)))))) (vL (nRep (vL (lenOk (aCons (vC (.int 24)) (aNil)))) (vC (.int 7)))))) (aNil))) (aNil))) (gSeq (gOwn 3 (lenOk (aNil))) (gSeq (gOwn 4 (lenOk (aNil))) (gSeq (gFor (iRange1 (v2 ixD (vVar 1) (vC (.int 0)))) (nmG 5) (gSeq (gSet 6 (vCall intD (aCons (v2 ixD (vVar 2) (v2 addD (vC (.int 1)) (v2 mulD (vC (.int 2)) (vVar 5)))) (aNil)))) (gSeq (gAppO 3 (gApp 3 (v2 ixD (vL (lenOk (aCons (vC (.int 0)) (aCons (vC (.int 1)) (aCons (vC (.int 0)) (aCons (vC (.int 2)) (aCons (vC (.int 0)) (aCons (vC (.int 0)) (aCons (vC (.int 1)) (aCons (vC (.int 0)) (aCons (vC (.int 3)) (aCons (vC (.int 0)) (aCons (vC (.int 1)) (aCons (vC (.int 0)) (aCons (vC (.int 0)) (aCons (vC (.int 1)) (aCons (vC (.int 0)) (aCons (vC (.int 1)) (aCons (vC (.int 2)) (aCons (vC (.int 0)) (aCons (vC (.int 4)) (aCons (vC (.int 5)) (aCons (vC (.int 6)) (aCons (vC (.int 7)) (aCons (vC (.int 8)) (aCons (vC (.int 1)) (aNil))))))))))))))))))))))))))) (vVar 6)))) (gSeq (gSet 7 (vCall intD (aCons (v2 ixD (vVar 2) (v2 addD (vC (.int 2)) (v2 mulD (vC (.int 2)) (vVar 5)))) (aNil)))) (gSeq (gAppO 4 (gApp 4 (v2 ixD (vL (lenOk (aCons (vC .non) (aCons (vC (.int 2)) (aCons (vC (.int 3)) (aCons (vC .non) (aCons (vC (.int 4)) (aCons (vC (.int 2)) (aCons (vC .non) (aCons (vC (.int 5)) (aCons (vC (.int 3)) (aCons (vC (.int 4)) (aCons (vC .non) (aCons (vC (.int 1)) (aCons (vC (.int 3)) (aCons (vC (.int 6)) (aCons (vC (.int 0)) (aCons (vC (.int 7)) (aCons (vC (.int 8)) (aCons (vC .non) (aCons (vC (.int 1)) (aCons (vC (.int 2)) (aCons (vC (.int 3)) (aCons (vC .non) (aCons (vC (.int 2)) (aCons (vC .non) (aNil))))))))))))))))))))))))))) (vVar 7)))) (gSeq (gIf (v2 leD (v2 ixD (vVar 2) (vC (.int 0))) (vC (.int 1))) (gSetIxA 3 (vVar 5) (vCall minD (aCons (v2 ixD (vVar 3) (vVar 5)) (aCons (v2 addD (vC (.int 1)) (v2 modD (vCall intD (aCons (vVar 5) (aNil))) (vC (.int 2)))) (aNil))))) (gNext)) (gIf (vOr (v2 eqD (v2 ixD (vVar 2) (vC (.int 0))) (vC (.int 1))) (vAnd (v2 eqD (v2 ixD (vVar 2) (vC (.int 0))) (vC (.int 2))) (v2 gtD (vVar 5) (vC (.int 1))))) (gSetIx 4 (vVar 5) (vC .non)) (gNext)))))))) (gSeq (gOwn 8 (lenOk (aNil))) (gSeq (gFor (iRange1 (vCall lenD (aCons (v2 ixD (vVar 1) (vC (.int 1))) (aNil)))) (nmG 9) (gSeq (gSet 10 (vCall intD (aCons (v2 ixD (vVar 2) (v2 addD (vC (.int 11)) (vVar 9))) (aNil)))) (gAppO 8 (gApp 8 (v2 ixD (vL (lenOk (aCons (vTup (aCons (vC (.int 0)) (aCons (vC (.int 1)) (aNil)))) (aCons (vTup (aCons (vC (.int 0)) (aNil))) (aCons (vTup (aCons (vC (.int 1)) (aNil))) (aCons (vTup (aNil)) (aNil))))))) (vIf (v2 gtD (vVar 10) (vC (.int 4))) (vC (.int 0)) (v2 ixD (vL (lenOk (aCons (vC (.int 1)) (aCons (vC (.int 2)) (aCons (vC (.int 1)) (aCons (vC (.int 2)) (aCons (vC (.int 3)) (aNil)))))))) (vVar 10)))))))) (gRel 8 (gRel 4 (gRel 3 (gRet (vL (lenOk (aCons (v2 ixD (vVar 1) (vC (.int 0))) (aCons (v2 ixD (vVar 1) (vC (.int 1))) (aCons (vVar 3) (aCons (vVar 4) (aCons (vVar 8) (aNil))))))))))))))))))
def sem_law_free : List D → Option R := semF 11 g_law_free
theorem ok_law_free {P : Program} {w : World} {K : PySem.W.Frag} {mg : Str → Option Value} {base : Heap} (hy : Hyp K mg) : ∃ fd, FunD K d_law_free.name d_law_free.qual d_law_free.params d_law_free.body d_law_free.scope (d_law_free.dvs K) (d_law_free.kws K) (He.fAd K d_law_free.at_) fd ∧ FnOk P w K mg base (L2.CX P w) 2 (He.fAd K d_law_free.at_) fd ["_law_script"] (spF (tab K) 1 (sem_law_free)) := by
  obtain ⟨fd_law_valley, F_law_valley, G_law_valley⟩ := ok_law_valley (P := P) (w := w) (base := base) hy
  obtain ⟨fd_law_digits, F_law_digits, G_law_digits⟩ := ok_law_digits (P := P) (w := w) (base := base) hy
  obtain ⟨fd_law_cell, F_law_cell, G_law_cell⟩ := ok_law_cell (P := P) (w := w) (base := base) hy
  have ab_law_valley_2_ : ArgB K fd_law_valley ["_law_row", "_law_upto"] 2 [] [] [0, 1] := ArgB.given F_law_valley (fun kV doc pm an cdv ct us ws l1 l2 => match us, l1, ws, l2 with | [_, _], _, [], _ => rfl)
  have ab_law_digits_2_ : ArgB K fd_law_digits ["_law_cell_here", "_law_sizes"] 2 [] [] [0, 1] := ArgB.given F_law_digits (fun kV doc pm an cdv ct us ws l1 l2 => match us, l1, ws, l2 with | [_, _], _, [], _ => rfl)
  have ab_law_cell_2_ : ArgB K fd_law_cell ["_law_script", "_law_k"] 2 [] [] [0, 1] := ArgB.given F_law_cell (fun kV doc pm an cdv ct us ws l1 l2 => match us, l1, ws, l2 with | [_, _], _, [], _ => rfl)
  obtain ⟨fd, F⟩ := hy.says.fn (20) (d := d_law_free) rfl
  exact ⟨fd, F, fn_ev F sc_law_free fun cdv A outer s H E hr => (ss_cons (ss_set 1 (hN := sc_law_free.nd) (he := ee_callP (F := G_law_valley) (hr := hr.mono (by decide)) (hm := glo__law_valley hy) (hk := F_law_valley.kp) (hb := ab_law_valley_2_) (tk := (takes_of rfl rfl rfl rfl)) (hp := rfl) (hmx := by decide) (hdd := fun _ => .nil) (ha := ea_cons (ee_callP (F := G_law_digits) (hr := hr.mono (by decide)) (hm := glo__law_digits hy) (hk := F_law_digits.kp) (hb := ab_law_digits_2_) (tk := (takes_of rfl rfl rfl rfl)) (hp := rfl) (hmx := by decide) (hdd := fun _ => .nil) (ha := ea_cons (ee_callP (F := G_law_cell) (hr := hr.mono (by decide)) (hm := glo__law_cell hy) (hk := F_law_cell.kp) (hb := ab_law_cell_2_) (tk := (takes_of rfl rfl rfl rfl)) (hp := rfl) (hmx := by decide) (hdd := fun _ => .nil) (ha := ea_cons (ee_var 0) (ea_cons (ee_int) (ea_nil))) (hkw := ek_nil)) (ea_cons (en_ee (en_add (ha := en_ee (en_lst (ea_cons (ee_int) (ea_cons (ee_int) (ea_cons (ee_int) (ea_nil)))))) (hb := en_ee (en_rep (ha := en_ee (en_lst (ea_cons (ee_int) (ea_cons (ee_int) (ea_nil))))) (hb := ee_int))))) (ea_nil))) (hkw := ek_nil)) (ea_cons (ee_int) (ea_nil))) (hkw := ek_nil))) (ss_cons (ss_set 2 (hN := sc_law_free.nd) (he := ee_callP (F := G_law_digits) (hr := hr.mono (by decide)) (hm := glo__law_digits hy) (hk := F_law_digits.kp) (hb := ab_law_digits_2_) (tk := (takes_of rfl rfl rfl rfl)) (hp := rfl) (hmx := by decide) (hdd := fun _ => .nil) (ha := ea_cons (ee_callP (F := G_law_cell) (hr := hr.mono (by decide)) (hm := glo__law_cell hy) (hk := F_law_cell.kp) (hb := ab_law_cell_2_) (tk := (takes_of rfl rfl rfl rfl)) (hp := rfl) (hmx := by decide) (hdd := fun _ => .nil) (ha := ea_cons (ee_var 0) (ea_cons (ee_int) (ea_nil))) (hkw := ek_nil)) (ea_cons (en_ee (en_add (ha := en_ee (en_add (ha := en_ee (en_lst (ea_cons (ee_int) (ea_nil)))) (hb := en_ee (en_rep (ha := en_ee (en_lst (ea_cons (ee_int) (ea_cons (ee_int) (ea_nil))))) (hb := ee_int))))) (hb := en_ee (en_rep (ha := en_ee (en_lst (ea_cons (ee_int) (ea_nil)))) (hb := ee_int))))) (ea_nil))) (hkw := ek_nil))) (ss_cons (ss_own 3 (hN := sc_law_free.nd) (he := en_lst (ea_nil))) (ss_cons (ss_own 4 (hN := sc_law_free.nd) (he := en_lst (ea_nil))) (ss_cons (ss_for (hp := passes_of rfl) (hc := rfl) (hi := ei_range1 (hm := (free_range hy)) (ha := ee_ix (ha := ee_var 1) (hb := ee_int))) (hg := eg_name 5 sc_law_free.nd) (hb := ss_cons (ss_set 6 (hN := sc_law_free.nd) (he := ee_callT (hc := call_int1) (h := o_int) (hm := (free_int hy)) (hv := by decide +kernel) (ha := ea_cons (ee_ix (ha := ee_var 2) (hb := ee_add (ha := ee_int) (hb := ee_mul (ha := ee_int) (hb := ee_var 5)))) (ea_nil)))) (ss_cons (ss_app 3 (he := ee_ix (ha := en_ee (en_lst (ea_cons (ee_int) (ea_cons (ee_int) (ea_cons (ee_int) (ea_cons (ee_int) (ea_cons (ee_int) (ea_cons (ee_int) (ea_cons (ee_int) (ea_cons (ee_int) (ea_cons (ee_int) (ea_cons (ee_int) (ea_cons (ee_int) (ea_cons (ee_int) (ea_cons (ee_int) (ea_cons (ee_int) (ea_cons (ee_int) (ea_cons (ee_int) (ea_cons (ee_int) (ea_cons (ee_int) (ea_cons (ee_int) (ea_cons (ee_int) (ea_cons (ee_int) (ea_cons (ee_int) (ea_cons (ee_int) (ea_cons (ee_int) (ea_nil))))))))))))))))))))))))))) (hb := ee_var 6))) (ss_cons (ss_set 7 (hN := sc_law_free.nd) (he := ee_callT (hc := call_int1) (h := o_int) (hm := (free_int hy)) (hv := by decide +kernel) (ha := ea_cons (ee_ix (ha := ee_var 2) (hb := ee_add (ha := ee_int) (hb := ee_mul (ha := ee_int) (hb := ee_var 5)))) (ea_nil)))) (ss_cons (ss_app 4 (he := ee_ix (ha := en_ee (en_lst (ea_cons (ee_non) (ea_cons (ee_int) (ea_cons (ee_int) (ea_cons (ee_non) (ea_cons (ee_int) (ea_cons (ee_int) (ea_cons (ee_non) (ea_cons (ee_int) (ea_cons (ee_int) (ea_cons (ee_int) (ea_cons (ee_non) (ea_cons (ee_int) (ea_cons (ee_int) (ea_cons (ee_int) (ea_cons (ee_int) (ea_cons (ee_int) (ea_cons (ee_int) (ea_cons (ee_non) (ea_cons (ee_int) (ea_cons (ee_int) (ea_cons (ee_int) (ea_cons (ee_non) (ea_cons (ee_int) (ea_cons (ee_non) (ea_nil))))))))))))))))))))))))))) (hb := ee_var 7))) (ss_cons (ss_if (eb_le (ha := ee_ix (ha := ee_var 2) (hb := ee_int)) (hb := ee_int)) (ss_one (ss_setIxA 3 (hg := fun h => pg_sub (pv 3) h set_list) (hk := ee_var 5) (he := ee_callB (hc := (call_min2 rfl)) (h := o_min) (hm := (free_min hy)) (hv := by decide +kernel) (ha := ea_cons (ee_ix (ha := ee_var 3) (hb := ee_var 5)) (ea_cons (ee_add (ha := ee_int) (hb := ee_mod (ha := ee_callT (hc := call_int1) (h := o_int) (hm := (free_int hy)) (hv := by decide +kernel) (ha := ea_cons (ee_var 5) (ea_nil))) (hb := ee_int))) (ea_nil)))))) (ss_nil)) (ss_one (ss_if (eb_w (ew_or (eb_eq (hr := hr) (ha := ee_ix (ha := ee_var 2) (hb := ee_int)) (hb := ee_int)) (ew_or1 (eb_w (ew_and (eb_eq (hr := hr) (ha := ee_ix (ha := ee_var 2) (hb := ee_int)) (hb := ee_int)) (ew_and1 (eb_gt (ha := ee_var 5) (hb := ee_int)))))))) (ss_one (ss_setIx 4 (hg := fun h => pg_sub (pv 4) h set_list) (hk := ee_var 5) (he := ee_non))) (ss_nil))))))))) (ss_cons (ss_own 8 (hN := sc_law_free.nd) (he := en_lst (ea_nil))) (ss_cons (ss_for (hp := passes_of rfl) (hc := rfl) (hi := ei_range1 (hm := (free_range hy)) (ha := ee_callB (hc := call_len_seq) (h := (o_len rfl)) (hm := (free_len hy)) (hv := by decide +kernel) (ha := ea_cons (ee_ix (ha := ee_var 1) (hb := ee_int)) (ea_nil)))) (hg := eg_name 9 sc_law_free.nd) (hb := ss_cons (ss_set 10 (hN := sc_law_free.nd) (he := ee_callT (hc := call_int1) (h := o_int) (hm := (free_int hy)) (hv := by decide +kernel) (ha := ea_cons (ee_ix (ha := ee_var 2) (hb := ee_add (ha := ee_int) (hb := ee_var 9))) (ea_nil)))) (ss_one (ss_app 8 (he := ee_ix (ha := en_ee (en_lst (ea_cons (ee_tup (ea_cons (ee_int) (ea_cons (ee_int) (ea_nil)))) (ea_cons (ee_tup (ea_cons (ee_int) (ea_nil))) (ea_cons (ee_tup (ea_cons (ee_int) (ea_nil))) (ea_cons (ee_tup (ea_nil)) (ea_nil))))))) (hb := ee_if (eb_gt (ha := ee_var 10) (hb := ee_int)) (ee_int) (ee_ix (ha := en_ee (en_lst (ea_cons (ee_int) (ea_cons (ee_int) (ea_cons (ee_int) (ea_cons (ee_int) (ea_cons (ee_int) (ea_nil)))))))) (hb := ee_var 10)))))))) (ss_one (ss_rel 8 (ss_rel 4 (ss_rel 3 (ss_ret (en_ee (en_lst (ea_cons (ee_ix (ha := ee_var 1) (hb := ee_int)) (ea_cons (ee_ix (ha := ee_var 1) (hb := ee_int)) (ea_cons (ee_var 3) (ea_cons (ee_var 4) (ea_cons (ee_var 8) (ea_nil))))))))))))))))))))⟩
end LW
end

section
set_option maxHeartbeats 4000000
namespace LW
open PySem L2 EV
theorem sc_law_small_world : FnScope ["_law_script", "_law_choice"] ["_law_script", "_law_choice"] (defScope st_law_small_world) := ⟨rfl, rfl, rfl, by decide +kernel, rfl, by decide +kernel, by decide +kernel⟩
def g_law_small_world : FS := gSeq (gIf (v2 eqD (v2 modD (vCall intD (aCons (vVar 1) (aNil))) (vC (.int 8))) (vC (.int 3))) (gRet (vCallP 1 0 [0] sem_law_free [] (aCons (vVar 0) (aNil)) (aNil))) (gNext)) (gRet (vCallP 3 0 [0, 1, 2] sem_law_drawn [] (aCons (vVar 0) (aCons (vC (.int 0)) (aCons (v2 ixD (vL (lenOk (aCons (vC (.int 7)) (aCons (vC (.int 1)) (aNil))))) (vCall intD (aCons (v2 eqD (v2 modD (vCall intD (aCons (vVar 1) (aNil))) (vC (.int 16))) (vC (.int 15))) (aNil)))) (aNil)))) (aNil)))
def sem_law_small_world : List D → Option R := semF 2 g_law_small_world
theorem ok_law_small_world {P : Program} {w : World} {K : PySem.W.Frag} {mg : Str → Option Value} {base : Heap} (hy : Hyp K mg) : ∃ fd, FunD K d_law_small_world.name d_law_small_world.qual d_law_small_world.params d_law_small_world.body d_law_small_world.scope (d_law_small_world.dvs K) (d_law_small_world.kws K) (He.fAd K d_law_small_world.at_) fd ∧ FnOk P w K mg base (L2.CX P w) 4 (He.fAd K d_law_small_world.at_) fd ["_law_script", "_law_choice"] (spF (tab K) 2 (sem_law_small_world)) := by
  obtain ⟨fd_law_free, F_law_free, G_law_free⟩ := ok_law_free (P := P) (w := w) (base := base) hy
  obtain ⟨fd_law_drawn, F_law_drawn, G_law_drawn⟩ := ok_law_drawn (P := P) (w := w) (base := base) hy
  have ab_law_free_1_ : ArgB K fd_law_free ["_law_script"] 1 [] [] [0] := ArgB.given F_law_free (fun kV doc pm an cdv ct us ws l1 l2 => match us, l1, ws, l2 with | [_], _, [], _ => rfl)
  have ab_law_drawn_3_ : ArgB K fd_law_drawn ["_law_script", "_law_at", "_law_upto"] 3 [] [] [0, 1, 2] := ArgB.given F_law_drawn (fun kV doc pm an cdv ct us ws l1 l2 => match us, l1, ws, l2 with | [_, _, _], _, [], _ => rfl)
  obtain ⟨fd, F⟩ := hy.says.fn (21) (d := d_law_small_world) rfl
  exact ⟨fd, F, fn_ev F sc_law_small_world fun cdv A outer s H E hr => (ss_cons (ss_if (eb_eq (hr := hr) (ha := ee_mod (ha := ee_callT (hc := call_int1) (h := o_int) (hm := (free_int hy)) (hv := by decide +kernel) (ha := ea_cons (ee_var 1) (ea_nil))) (hb := ee_int)) (hb := ee_int)) (ss_one (ss_ret (ee_callP (F := G_law_free) (hr := hr.mono (by decide)) (hm := glo__law_free hy) (hk := F_law_free.kp) (hb := ab_law_free_1_) (tk := (takes_of rfl rfl rfl rfl)) (hp := rfl) (hmx := by decide) (hdd := fun _ => .nil) (ha := ea_cons (ee_var 0) (ea_nil)) (hkw := ek_nil)))) (ss_nil)) (ss_one (ss_ret (ee_callP (F := G_law_drawn) (hr := hr.mono (by decide)) (hm := glo__law_drawn hy) (hk := F_law_drawn.kp) (hb := ab_law_drawn_3_) (tk := (takes_of rfl rfl rfl rfl)) (hp := rfl) (hmx := by decide) (hdd := fun _ => .nil) (ha := ea_cons (ee_var 0) (ea_cons (ee_int) (ea_cons (ee_ix (ha := en_ee (en_lst (ea_cons (ee_int) (ea_cons (ee_int) (ea_nil))))) (hb := ee_callT (hc := call_int1) (h := o_int) (hm := (free_int hy)) (hv := by decide +kernel) (ha := ea_cons (ee_eq (hr := hr) (ha := ee_mod (ha := ee_callT (hc := call_int1) (h := o_int) (hm := (free_int hy)) (hv := by decide +kernel) (ha := ea_cons (ee_var 1) (ea_nil))) (hb := ee_int)) (hb := ee_int)) (ea_nil)))) (ea_nil)))) (hkw := ek_nil)))))⟩
end LW
end

section
set_option maxHeartbeats 4000000
namespace LW
open PySem L2 EV
theorem sc_law_numbers : FnScope ["_law_world_here", "_law_group", "_law_can", "_law_must", "_law_k", "_law_ends", "_law_inside", "_law_wanted", "_law_borne", "_law_mill", "_law_side"] ["_law_world_here", "_law_group"] (defScope st_law_numbers) := ⟨rfl, rfl, rfl, by decide +kernel, rfl, by decide +kernel, by decide +kernel⟩
def g_law_numbers : FS := gSeq (gSet 2 (vC (.int 0))) (gSeq (gSet 3 (vC (.int 0))) (gSeq (gFor (iRange1 (vCall lenD (aCons (v2 ixD (vVar 0) (vC (.int 1))) (aNil)))) (nmG 4) (gSeq (gSet 5 (vL (nLc (iSeq (v2 ixD (v2 ixD (vVar 0) (vC (.int 4))) (vVar 4))) (nmG 10) (vYes) (v2 ixD (v2 ixD (v2 ixD (vVar 0) (vC (.int 1))) (vVar 4)) (vVar 10)) [10]))) (gSeq (gSet 6 (vCall lenD (aCons (vL (nLc (iSeq (vVar 5)) (nmG 9) (v2 inD (vVar 9) (vVar 1)) (vVar 9) [9])) (aNil)))) (gSeq (gIf (v2 gtD (vVar 6) (vC (.int 0))) (gSet 2 (v2 addD (vVar 2) (vC (.int 1)))) (gNext)) (gIf (vAnd (v2 gtD (vVar 6) (vC (.int 0))) (v2 eqD (vVar 6) (vCall lenD (aCons (vVar 5) (aNil))))) (gSet 3 (v2 addD (vVar 3) (vC (.int 1)))) (gNext)))))) (gSeq (gSet 7 (vC (.int 0))) (gSeq (gSet 8 (vC (.int 0))) (gSeq (gFor (iRange1 (v2 ixD (vVar 0) (vC (.int 0)))) (nmG 9) (gIf (v2 inD (vVar 9) (vVar 1)) (gSeq (gSet 7 (v2 addD (vVar 7) (v2 ixD (v2 ixD (vVar 0) (vC (.int 2))) (vVar 9)))) (gIf (v2 notNonD (vVar 8) (vC .non)) (gSet 8 (vIf (v2 isNonD (v2 ixD (v2 ixD (vVar 0) (vC (.int 3))) (vVar 9)) (vC .non)) (vC .non) (v2 addD (vVar 8) (v2 ixD (v2 ixD (vVar 0) (vC (.int 3))) (vVar 9))))) (gNext))) (gNext))) (gRetL (lenOk (aCons (vVar 2) (aCons (vVar 3) (aCons (vVar 7) (aCons (vVar 8) (aNil))))))))))))
def sem_law_numbers : List D → Option R := semF 11 g_law_numbers
def semL_law_numbers : List D → Option RL := semL 11 g_law_numbers
theorem ok_law_numbers {P : Program} {w : World} {K : PySem.W.Frag} {mg : Str → Option Value} {base : Heap} (hy : Hyp K mg) : ∃ fd, FunD K d_law_numbers.name d_law_numbers.qual d_law_numbers.params d_law_numbers.body d_law_numbers.scope (d_law_numbers.dvs K) (d_law_numbers.kws K) (He.fAd K d_law_numbers.at_) fd ∧ FnOk P w K mg base (L2.CX P w) 1 (He.fAd K d_law_numbers.at_) fd ["_law_world_here", "_law_group"] (spF (tab K) 2 (sem_law_numbers)) := by
  obtain ⟨fd, F⟩ := hy.says.fn (22) (d := d_law_numbers) rfl
  exact ⟨fd, F, fn_ev F sc_law_numbers fun cdv A outer s H E hr => (ss_cons (ss_set 2 (hN := sc_law_numbers.nd) (he := ee_int)) (ss_cons (ss_set 3 (hN := sc_law_numbers.nd) (he := ee_int)) (ss_cons (ss_for (hp := passes_of rfl) (hc := rfl) (hi := ei_range1 (hm := (free_range hy)) (ha := ee_callB (hc := call_len_seq) (h := (o_len rfl)) (hm := (free_len hy)) (hv := by decide +kernel) (ha := ea_cons (ee_ix (ha := ee_var 0) (hb := ee_int)) (ea_nil)))) (hg := eg_name 4 sc_law_numbers.nd) (hb := ss_cons (ss_lc_v (ps_lcs (i := 5) (hy := rfl) (hyl := rfl) (hsw := sw_true rfl rfl rfl (by decide +kernel)) (own := [("_law_side", 10)]) (hc := rfl) (hN := sc_law_numbers.nd) (ok := blkOk_by (show blkC ["_law_world_here", "_law_group", "_law_can", "_law_must", "_law_k", "_law_ends", "_law_inside", "_law_wanted", "_law_borne", "_law_mill", "_law_side"] (defScope st_law_numbers) _ [("_law_side", 10)] = true by decide +kernel)) (hi := ei_seq (he := ee_ix (ha := ee_ix (ha := ee_var 0) (hb := ee_int)) (hb := ee_var 4))) (hg := fun _ _ _ _ _ => eg_name 10 sc_law_numbers.nd) (ht := fun _ _ _ _ _ => et_nil) (he := fun _ _ _ _ _ => ee_ix (ha := ee_ix (ha := ee_ix (ha := ee_var 0) (hb := ee_int)) (hb := ee_var 4)) (hb := ee_var 10))) (w_lc (by decide))) (ss_cons (ss_set 6 (hN := sc_law_numbers.nd) (he := ee_callB (hc := call_len_seq) (h := (o_len rfl)) (hm := (free_len hy)) (hv := by decide +kernel) (ha := ea_cons (en_ee (en_lc (own := [("_law_mill", 9)]) (hc := rfl) (hN := sc_law_numbers.nd) (ok := blkOk_by (show blkC ["_law_world_here", "_law_group", "_law_can", "_law_must", "_law_k", "_law_ends", "_law_inside", "_law_wanted", "_law_borne", "_law_mill", "_law_side"] (defScope st_law_numbers) _ [("_law_mill", 9)] = true by decide +kernel)) (hsub := by decide) (hi := ei_seq (he := ee_var 5)) (hg := fun _ _ _ _ _ => eg_name 9 sc_law_numbers.nd) (ht := fun _ _ _ _ _ => et_one (eb_in (hr := hr) (hm := by rfl) (ha := ee_var 9) (hb := ee_var 1))) (he := fun _ _ _ _ _ => ee_var 9))) (ea_nil)))) (ss_cons (ss_if (eb_gt (ha := ee_var 6) (hb := ee_int)) (ss_one (ss_set 2 (hN := sc_law_numbers.nd) (he := ee_add (ha := ee_var 2) (hb := ee_int)))) (ss_nil)) (ss_one (ss_if (eb_w (ew_and (eb_gt (ha := ee_var 6) (hb := ee_int)) (ew_and1 (eb_eq (hr := hr) (ha := ee_var 6) (hb := ee_callB (hc := call_len_seq) (h := (o_len rfl)) (hm := (free_len hy)) (hv := by decide +kernel) (ha := ea_cons (ee_var 5) (ea_nil))))))) (ss_one (ss_set 3 (hN := sc_law_numbers.nd) (he := ee_add (ha := ee_var 3) (hb := ee_int)))) (ss_nil))))))) (ss_cons (ss_set 7 (hN := sc_law_numbers.nd) (he := ee_int)) (ss_cons (ss_set 8 (hN := sc_law_numbers.nd) (he := ee_int)) (ss_cons (ss_for (hp := passes_of rfl) (hc := rfl) (hi := ei_range1 (hm := (free_range hy)) (ha := ee_ix (ha := ee_var 0) (hb := ee_int))) (hg := eg_name 9 sc_law_numbers.nd) (hb := ss_one (ss_if (eb_in (hr := hr) (hm := by rfl) (ha := ee_var 9) (hb := ee_var 1)) (ss_cons (ss_set 7 (hN := sc_law_numbers.nd) (he := ee_add (ha := ee_var 7) (hb := ee_ix (ha := ee_ix (ha := ee_var 0) (hb := ee_int)) (hb := ee_var 9)))) (ss_one (ss_if (eb_notN (ha := ee_var 8) (hb := ee_non)) (ss_one (ss_set 8 (hN := sc_law_numbers.nd) (he := ee_if (eb_isN (ha := ee_ix (ha := ee_ix (ha := ee_var 0) (hb := ee_int)) (hb := ee_var 9)) (hb := ee_non)) (ee_non) (ee_add (ha := ee_var 8) (hb := ee_ix (ha := ee_ix (ha := ee_var 0) (hb := ee_int)) (hb := ee_var 9)))))) (ss_nil)))) (ss_nil)))) (ss_one (ss_retL (en_lst (ea_cons (ee_var 2) (ea_cons (ee_var 3) (ea_cons (ee_var 7) (ea_cons (ee_var 8) (ea_nil))))))))))))))⟩
theorem okL_law_numbers {P : Program} {w : World} {K : PySem.W.Frag} {mg : Str → Option Value} {base : Heap} (hy : Hyp K mg) : ∃ fd, FunD K d_law_numbers.name d_law_numbers.qual d_law_numbers.params d_law_numbers.body d_law_numbers.scope (d_law_numbers.dvs K) (d_law_numbers.kws K) (He.fAd K d_law_numbers.at_) fd ∧ FnOk P w K mg base (L2.CX P w) 1 (He.fAd K d_law_numbers.at_) fd ["_law_world_here", "_law_group"] (spL (tab K) 2 (semL_law_numbers)) := by
  obtain ⟨fd, F⟩ := hy.says.fn (22) (d := d_law_numbers) rfl
  exact ⟨fd, F, fn_evL F sc_law_numbers fun cdv A outer s H E hr => (ss_cons (ss_set 2 (hN := sc_law_numbers.nd) (he := ee_int)) (ss_cons (ss_set 3 (hN := sc_law_numbers.nd) (he := ee_int)) (ss_cons (ss_for (hp := passes_of rfl) (hc := rfl) (hi := ei_range1 (hm := (free_range hy)) (ha := ee_callB (hc := call_len_seq) (h := (o_len rfl)) (hm := (free_len hy)) (hv := by decide +kernel) (ha := ea_cons (ee_ix (ha := ee_var 0) (hb := ee_int)) (ea_nil)))) (hg := eg_name 4 sc_law_numbers.nd) (hb := ss_cons (ss_lc_v (ps_lcs (i := 5) (hy := rfl) (hyl := rfl) (hsw := sw_true rfl rfl rfl (by decide +kernel)) (own := [("_law_side", 10)]) (hc := rfl) (hN := sc_law_numbers.nd) (ok := blkOk_by (show blkC ["_law_world_here", "_law_group", "_law_can", "_law_must", "_law_k", "_law_ends", "_law_inside", "_law_wanted", "_law_borne", "_law_mill", "_law_side"] (defScope st_law_numbers) _ [("_law_side", 10)] = true by decide +kernel)) (hi := ei_seq (he := ee_ix (ha := ee_ix (ha := ee_var 0) (hb := ee_int)) (hb := ee_var 4))) (hg := fun _ _ _ _ _ => eg_name 10 sc_law_numbers.nd) (ht := fun _ _ _ _ _ => et_nil) (he := fun _ _ _ _ _ => ee_ix (ha := ee_ix (ha := ee_ix (ha := ee_var 0) (hb := ee_int)) (hb := ee_var 4)) (hb := ee_var 10))) (w_lc (by decide))) (ss_cons (ss_set 6 (hN := sc_law_numbers.nd) (he := ee_callB (hc := call_len_seq) (h := (o_len rfl)) (hm := (free_len hy)) (hv := by decide +kernel) (ha := ea_cons (en_ee (en_lc (own := [("_law_mill", 9)]) (hc := rfl) (hN := sc_law_numbers.nd) (ok := blkOk_by (show blkC ["_law_world_here", "_law_group", "_law_can", "_law_must", "_law_k", "_law_ends", "_law_inside", "_law_wanted", "_law_borne", "_law_mill", "_law_side"] (defScope st_law_numbers) _ [("_law_mill", 9)] = true by decide +kernel)) (hsub := by decide) (hi := ei_seq (he := ee_var 5)) (hg := fun _ _ _ _ _ => eg_name 9 sc_law_numbers.nd) (ht := fun _ _ _ _ _ => et_one (eb_in (hr := hr) (hm := by rfl) (ha := ee_var 9) (hb := ee_var 1))) (he := fun _ _ _ _ _ => ee_var 9))) (ea_nil)))) (ss_cons (ss_if (eb_gt (ha := ee_var 6) (hb := ee_int)) (ss_one (ss_set 2 (hN := sc_law_numbers.nd) (he := ee_add (ha := ee_var 2) (hb := ee_int)))) (ss_nil)) (ss_one (ss_if (eb_w (ew_and (eb_gt (ha := ee_var 6) (hb := ee_int)) (ew_and1 (eb_eq (hr := hr) (ha := ee_var 6) (hb := ee_callB (hc := call_len_seq) (h := (o_len rfl)) (hm := (free_len hy)) (hv := by decide +kernel) (ha := ea_cons (ee_var 5) (ea_nil))))))) (ss_one (ss_set 3 (hN := sc_law_numbers.nd) (he := ee_add (ha := ee_var 3) (hb := ee_int)))) (ss_nil))))))) (ss_cons (ss_set 7 (hN := sc_law_numbers.nd) (he := ee_int)) (ss_cons (ss_set 8 (hN := sc_law_numbers.nd) (he := ee_int)) (ss_cons (ss_for (hp := passes_of rfl) (hc := rfl) (hi := ei_range1 (hm := (free_range hy)) (ha := ee_ix (ha := ee_var 0) (hb := ee_int))) (hg := eg_name 9 sc_law_numbers.nd) (hb := ss_one (ss_if (eb_in (hr := hr) (hm := by rfl) (ha := ee_var 9) (hb := ee_var 1)) (ss_cons (ss_set 7 (hN := sc_law_numbers.nd) (he := ee_add (ha := ee_var 7) (hb := ee_ix (ha := ee_ix (ha := ee_var 0) (hb := ee_int)) (hb := ee_var 9)))) (ss_one (ss_if (eb_notN (ha := ee_var 8) (hb := ee_non)) (ss_one (ss_set 8 (hN := sc_law_numbers.nd) (he := ee_if (eb_isN (ha := ee_ix (ha := ee_ix (ha := ee_var 0) (hb := ee_int)) (hb := ee_var 9)) (hb := ee_non)) (ee_non) (ee_add (ha := ee_var 8) (hb := ee_ix (ha := ee_ix (ha := ee_var 0) (hb := ee_int)) (hb := ee_var 9)))))) (ss_nil)))) (ss_nil)))) (ss_one (ss_retL (en_lst (ea_cons (ee_var 2) (ea_cons (ee_var 3) (ea_cons (ee_var 7) (ea_cons (ee_var 8) (ea_nil))))))))))))))⟩
end LW
end

section
set_option maxHeartbeats 4000000
namespace LW
open PySem L2 EV
theorem sc_law_levelled : FnScope ["_law_world_here", "_law_one", "_law_two", "_law_above", "_law_below", "_law_low", "_law_high", "_law_counts", "_law_mill"] ["_law_world_here", "_law_one", "_law_two", "_law_above", "_law_below"] (defScope st_law_levelled) := ⟨rfl, rfl, rfl, by decide +kernel, rfl, by decide +kernel, by decide +kernel⟩
def g_law_levelled : FS := gSeq (gOwn 5 (nCall listD (aCons (v2 ixD (vVar 0) (vC (.int 2))) (aNil)))) (gSeq (gOwn 6 (nCall listD (aCons (v2 ixD (vVar 0) (vC (.int 3))) (aNil)))) (gSeq (gIf (v2 gtD (vCall lenD (aCons (vVar 1) (aNil))) (vC (.int 0))) (gSeq (gSet 7 (vL (nCallP 2 0 [0, 1] semL_law_numbers [] (aCons (vVar 0) (aCons (vVar 1) (aNil))) (aNil)))) (gSetIxA 5 (v2 ixD (vVar 1) (vC (.int 0))) (vCall maxD (aCons (vC (.int 0)) (aCons (v2 subD (v2 addD (v2 addD (v2 ixD (vVar 5) (v2 ixD (vVar 1) (vC (.int 0)))) (v2 ixD (vVar 7) (vC (.int 0)))) (vVar 3)) (v2 ixD (vVar 7) (vC (.int 2)))) (aNil)))))) (gNext)) (gSeq (gIf (v2 gtD (vCall lenD (aCons (vVar 2) (aNil))) (vC (.int 0))) (gSeq (gOwnA 6 (nLc (iRange1 (v2 ixD (vVar 0) (vC (.int 0)))) (nmG 8) (vYes) (vIf (vAnd (v2 inD (vVar 8) (vVar 2)) (v2 isNonD (v2 ixD (vVar 6) (vVar 8)) (vC .non))) (vCall lenD (aCons (v2 ixD (vVar 0) (vC (.int 1))) (aNil))) (v2 ixD (vVar 6) (vVar 8))) [8])) (gSeq (gThenRel 7 (gOwnA 7 (nCallP 2 0 [0, 1] semL_law_numbers [] (aCons (vL (lenOk (aCons (v2 ixD (vVar 0) (vC (.int 0))) (aCons (v2 ixD (vVar 0) (vC (.int 1))) (aCons (vVar 5) (aCons (vVar 6) (aCons (v2 ixD (vVar 0) (vC (.int 4))) (aNil)))))))) (aCons (vVar 2) (aNil))) (aNil)))) (gSetIxA 6 (v2 ixD (vVar 2) (v1 negD (vC (.int 1)))) (vCall maxD (aCons (vC (.int 0)) (aCons (v2 subD (v2 subD (v2 addD (v2 ixD (vVar 6) (v2 ixD (vVar 2) (v1 negD (vC (.int 1))))) (v2 ixD (vVar 7) (vC (.int 1)))) (vVar 4)) (v2 ixD (vVar 7) (vC (.int 3)))) (aNil))))))) (gNext)) (gRel 6 (gRel 5 (gRet (vL (lenOk (aCons (v2 ixD (vVar 0) (vC (.int 0))) (aCons (v2 ixD (vVar 0) (vC (.int 1))) (aCons (vVar 5) (aCons (vVar 6) (aCons (v2 ixD (vVar 0) (vC (.int 4))) (aNil))))))))))))))
def sem_law_levelled : List D → Option R := semF 9 g_law_levelled
theorem ok_law_levelled {P : Program} {w : World} {K : PySem.W.Frag} {mg : Str → Option Value} {base : Heap} (hy : Hyp K mg) : ∃ fd, FunD K d_law_levelled.name d_law_levelled.qual d_law_levelled.params d_law_levelled.body d_law_levelled.scope (d_law_levelled.dvs K) (d_law_levelled.kws K) (He.fAd K d_law_levelled.at_) fd ∧ FnOk P w K mg base (L2.CX P w) 2 (He.fAd K d_law_levelled.at_) fd ["_law_world_here", "_law_one", "_law_two", "_law_above", "_law_below"] (spF (tab K) 5 (sem_law_levelled)) := by
  obtain ⟨fd_law_numbers, F_law_numbers, GL_law_numbers⟩ := okL_law_numbers (P := P) (w := w) (base := base) hy
  have ab_law_numbers_2_ : ArgB K fd_law_numbers ["_law_world_here", "_law_group"] 2 [] [] [0, 1] := ArgB.given F_law_numbers (fun kV doc pm an cdv ct us ws l1 l2 => match us, l1, ws, l2 with | [_, _], _, [], _ => rfl)
  obtain ⟨fd, F⟩ := hy.says.fn (23) (d := d_law_levelled) rfl
  exact ⟨fd, F, fn_ev F sc_law_levelled fun cdv A outer s H E hr => (ss_cons (ss_own 5 (hN := sc_law_levelled.nd) (he := en_callT (hc := call_list_of) (h := (o_list rfl)) (hm := (free_list hy)) (hv := by decide +kernel) (ha := ea_cons (ee_ix (ha := ee_var 0) (hb := ee_int)) (ea_nil)))) (ss_cons (ss_own 6 (hN := sc_law_levelled.nd) (he := en_callT (hc := call_list_of) (h := (o_list rfl)) (hm := (free_list hy)) (hv := by decide +kernel) (ha := ea_cons (ee_ix (ha := ee_var 0) (hb := ee_int)) (ea_nil)))) (ss_cons (ss_if (eb_gt (ha := ee_callB (hc := call_len_seq) (h := (o_len rfl)) (hm := (free_len hy)) (hv := by decide +kernel) (ha := ea_cons (ee_var 1) (ea_nil))) (hb := ee_int)) (ss_cons (ss_set 7 (hN := sc_law_levelled.nd) (he := en_ee (en_callP (F := GL_law_numbers) (hr := hr.mono (by decide)) (hm := glo__law_numbers hy) (hk := F_law_numbers.kp) (hb := ab_law_numbers_2_) (tk := (takes_of rfl rfl rfl rfl)) (hp := rfl) (hmx := by decide) (hdd := fun _ => .nil) (ha := ea_cons (ee_var 0) (ea_cons (ee_var 1) (ea_nil))) (hkw := ek_nil)))) (ss_one (ss_setIxA 5 (hg := fun h => pg_sub (pv 5) h set_list) (hk := ee_ix (ha := ee_var 1) (hb := ee_int)) (he := ee_callB (hc := (call_max2 rfl)) (h := o_max) (hm := (free_max hy)) (hv := by decide +kernel) (ha := ea_cons (ee_int) (ea_cons (ee_sub (ha := ee_add (ha := ee_add (ha := ee_ix (ha := ee_var 5) (hb := ee_ix (ha := ee_var 1) (hb := ee_int))) (hb := ee_ix (ha := ee_var 7) (hb := ee_int))) (hb := ee_var 3)) (hb := ee_ix (ha := ee_var 7) (hb := ee_int))) (ea_nil))))))) (ss_nil)) (ss_cons (ss_if (eb_gt (ha := ee_callB (hc := call_len_seq) (h := (o_len rfl)) (hm := (free_len hy)) (hv := by decide +kernel) (ha := ea_cons (ee_var 2) (ea_nil))) (hb := ee_int)) (ss_cons (ss_ownA 6 (hN := sc_law_levelled.nd) (he := en_lc (own := [("_law_mill", 8)]) (hc := rfl) (hN := sc_law_levelled.nd) (ok := blkOk_by (show blkC ["_law_world_here", "_law_one", "_law_two", "_law_above", "_law_below", "_law_low", "_law_high", "_law_counts", "_law_mill"] (defScope st_law_levelled) _ [("_law_mill", 8)] = true by decide +kernel)) (hsub := by decide) (hi := ei_range1 (hm := (free_range hy)) (ha := ee_ix (ha := ee_var 0) (hb := ee_int))) (hg := fun _ _ _ _ _ => eg_name 8 sc_law_levelled.nd) (ht := fun _ _ _ _ _ => et_nil) (he := fun _ _ _ _ _ => ee_if (eb_w (ew_and (eb_in (hr := hr) (hm := by rfl) (ha := ee_var 8) (hb := ee_var 2)) (ew_and1 (eb_isN (ha := ee_ix (ha := ee_var 6) (hb := ee_var 8)) (hb := ee_non))))) (ee_callB (hc := call_len_seq) (h := (o_len rfl)) (hm := (free_len hy)) (hv := by decide +kernel) (ha := ea_cons (ee_ix (ha := ee_var 0) (hb := ee_int)) (ea_nil))) (ee_ix (ha := ee_var 6) (hb := ee_var 8))))) (ss_cons (ss_thenRel 7 (ss_ownA 7 (hN := sc_law_levelled.nd) (he := en_callP (F := GL_law_numbers) (hr := hr.mono (by decide)) (hm := glo__law_numbers hy) (hk := F_law_numbers.kp) (hb := ab_law_numbers_2_) (tk := (takes_of rfl rfl rfl rfl)) (hp := rfl) (hmx := by decide) (hdd := fun _ => .nil) (ha := ea_cons (en_ee (en_lst (ea_cons (ee_ix (ha := ee_var 0) (hb := ee_int)) (ea_cons (ee_ix (ha := ee_var 0) (hb := ee_int)) (ea_cons (ee_var 5) (ea_cons (ee_var 6) (ea_cons (ee_ix (ha := ee_var 0) (hb := ee_int)) (ea_nil)))))))) (ea_cons (ee_var 2) (ea_nil))) (hkw := ek_nil)))) (ss_one (ss_setIxA 6 (hg := fun h => pg_sub (pv 6) h set_list) (hk := ee_ix (ha := ee_var 2) (hb := ee_neg (ee_int))) (he := ee_callB (hc := (call_max2 rfl)) (h := o_max) (hm := (free_max hy)) (hv := by decide +kernel) (ha := ea_cons (ee_int) (ea_cons (ee_sub (ha := ee_sub (ha := ee_add (ha := ee_ix (ha := ee_var 6) (hb := ee_ix (ha := ee_var 2) (hb := ee_neg (ee_int)))) (hb := ee_ix (ha := ee_var 7) (hb := ee_int))) (hb := ee_var 4)) (hb := ee_ix (ha := ee_var 7) (hb := ee_int))) (ea_nil)))))))) (ss_nil)) (ss_one (ss_rel 6 (ss_rel 5 (ss_ret (en_ee (en_lst (ea_cons (ee_ix (ha := ee_var 0) (hb := ee_int)) (ea_cons (ee_ix (ha := ee_var 0) (hb := ee_int)) (ea_cons (ee_var 5) (ea_cons (ee_var 6) (ea_cons (ee_ix (ha := ee_var 0) (hb := ee_int)) (ea_nil))))))))))))))))⟩
end LW
end

section
set_option maxHeartbeats 4000000
namespace LW
open PySem L2 EV
theorem sc_ascending : FnScope ["numbers"] ["numbers"] (defScope st_ascending) := ⟨rfl, rfl, rfl, by decide +kernel, rfl, by decide +kernel, by decide +kernel⟩
def g_ascending : FS := gRet (vCall tupleD (aCons (vL (nAsc (vVar 0))) (aNil)))
def sem_ascending : List D → Option R := semF 1 g_ascending
theorem ok_ascending {P : Program} {w : World} {K : PySem.W.Frag} {mg : Str → Option Value} {base : Heap} (hy : Hyp K mg) : ∃ fd, FunD K d_ascending.name d_ascending.qual d_ascending.params d_ascending.body d_ascending.scope (d_ascending.dvs K) (d_ascending.kws K) (He.fAd K d_ascending.at_) fd ∧ FnOk P w K mg base (L2.CX P w) 1 (He.fAd K d_ascending.at_) fd ["numbers"] (spF (tab K) 1 (sem_ascending)) := by
  obtain ⟨fd, F⟩ := hy.says.fn (24) (d := d_ascending) rfl
  exact ⟨fd, F, fn_ev F sc_ascending fun cdv A outer s H E hr => (ss_one (ss_ret (ee_callT (hc := call_tuple_of) (h := (o_tuple rfl)) (hm := (free_tuple hy)) (hv := by decide +kernel) (ha := ea_cons (en_ee (en_asc (hm := (free_sorted hy)) (hm2 := (free_set hy)) (ha := ee_var 0))) (ea_nil)))))⟩
end LW
end

section
set_option maxHeartbeats 4000000
namespace LW
open PySem L2 EV
theorem sc_bear : FnScope ["season", "lot", "limits", "mill"] ["season", "lot"] (defScope st_bear) := ⟨rfl, rfl, rfl, by decide +kernel, rfl, by decide +kernel, by decide +kernel⟩
def g_bear : FS := gSeq (gSet 2 (vL (nLc (iSeq (vCallP 1 0 [0] sem_ascending [] (aCons (vVar 1) (aNil)) (aNil))) (nmG 3) (vYes) (v2 ixD (v1 (fldD 6 2) (vVar 0)) (vVar 3)) [3]))) (gSeq (gIf (v2 inD (vC .non) (vVar 2)) (gRet (vC .non)) (gNext)) (gRet (vCall sumD (aCons (vVar 2) (aNil)))))
def sem_bear : List D → Option R := semF 4 g_bear
theorem ok_bear {P : Program} {w : World} {K : PySem.W.Frag} {mg : Str → Option Value} {base : Heap} (hy : Hyp K mg) : ∃ fd, FunD K d_bear.name d_bear.qual d_bear.params d_bear.body d_bear.scope (d_bear.dvs K) (d_bear.kws K) (He.fAd K d_bear.at_) fd ∧ FnOk P w K mg base (L2.CX P w) 2 (He.fAd K d_bear.at_) fd ["season", "lot"] (spF (tab K) 2 (sem_bear)) := by
  obtain ⟨fd_ascending, F_ascending, G_ascending⟩ := ok_ascending (P := P) (w := w) (base := base) hy
  have ab_ascending_1_ : ArgB K fd_ascending ["numbers"] 1 [] [] [0] := ArgB.given F_ascending (fun kV doc pm an cdv ct us ws l1 l2 => match us, l1, ws, l2 with | [_], _, [], _ => rfl)
  obtain ⟨fd, F⟩ := hy.says.fn (25) (d := d_bear) rfl
  exact ⟨fd, F, fn_ev F sc_bear fun cdv A outer s H E hr => (ss_cons (ss_lc_v (ps_lcs (i := 2) (hy := rfl) (hyl := rfl) (hsw := sw_true rfl rfl rfl (by decide +kernel)) (own := [("mill", 3)]) (hc := rfl) (hN := sc_bear.nd) (ok := blkOk_by (show blkC ["season", "lot", "limits", "mill"] (defScope st_bear) _ [("mill", 3)] = true by decide +kernel)) (hi := ei_seq (he := ee_callP (F := G_ascending) (hr := hr.mono (by decide)) (hm := glo_ascending hy) (hk := F_ascending.kp) (hb := ab_ascending_1_) (tk := (takes_of rfl rfl rfl rfl)) (hp := rfl) (hmx := by decide) (hdd := fun _ => .nil) (ha := ea_cons (ee_var 1) (ea_nil)) (hkw := ek_nil))) (hg := fun _ _ _ _ _ => eg_name 3 sc_bear.nd) (ht := fun _ _ _ _ _ => et_nil) (he := fun _ _ _ _ _ => ee_ix (ha := ee_fld (F := fld_Season_limits hy) (ha := ee_var 0)) (hb := ee_var 3))) (w_lc (by decide))) (ss_cons (ss_if (eb_in (hr := hr) (hm := by rfl) (ha := ee_non) (hb := ee_var 2)) (ss_one (ss_ret (ee_non))) (ss_nil)) (ss_one (ss_ret (ee_callB (hc := (cr_sum rfl)) (h := (o_sum rfl)) (hm := (free_sum hy)) (hv := by decide +kernel) (ha := ea_cons (ee_var 2) (ea_nil)))))))⟩
end LW
end

section
set_option maxHeartbeats 4000000
namespace LW
open PySem L2 EV
theorem sc_want : FnScope ["season", "lot", "mill"] ["season", "lot"] (defScope st_want) := ⟨rfl, rfl, rfl, by decide +kernel, rfl, by decide +kernel, by decide +kernel⟩
def g_want : FS := gRet (vCall sumD (aCons (vL (nLc (iSeq (vCallP 1 0 [0] sem_ascending [] (aCons (vVar 1) (aNil)) (aNil))) (nmG 2) (vYes) (v2 ixD (v1 (fldD 6 1) (vVar 0)) (vVar 2)) [2])) (aNil)))
def sem_want : List D → Option R := semF 3 g_want
theorem ok_want {P : Program} {w : World} {K : PySem.W.Frag} {mg : Str → Option Value} {base : Heap} (hy : Hyp K mg) : ∃ fd, FunD K d_want.name d_want.qual d_want.params d_want.body d_want.scope (d_want.dvs K) (d_want.kws K) (He.fAd K d_want.at_) fd ∧ FnOk P w K mg base (L2.CX P w) 2 (He.fAd K d_want.at_) fd ["season", "lot"] (spF (tab K) 2 (sem_want)) := by
  obtain ⟨fd_ascending, F_ascending, G_ascending⟩ := ok_ascending (P := P) (w := w) (base := base) hy
  have ab_ascending_1_ : ArgB K fd_ascending ["numbers"] 1 [] [] [0] := ArgB.given F_ascending (fun kV doc pm an cdv ct us ws l1 l2 => match us, l1, ws, l2 with | [_], _, [], _ => rfl)
  obtain ⟨fd, F⟩ := hy.says.fn (26) (d := d_want) rfl
  exact ⟨fd, F, fn_ev F sc_want fun cdv A outer s H E hr => (ss_one (ss_ret (ee_callB (hc := (cr_sum rfl)) (h := (o_sum rfl)) (hm := (free_sum hy)) (hv := by decide +kernel) (ha := ea_cons (en_ee (en_lc (own := [("mill", 2)]) (hc := rfl) (hN := sc_want.nd) (ok := blkOk_by (show blkC ["season", "lot", "mill"] (defScope st_want) _ [("mill", 2)] = true by decide +kernel)) (hsub := by decide) (hi := ei_seq (he := ee_callP (F := G_ascending) (hr := hr.mono (by decide)) (hm := glo_ascending hy) (hk := F_ascending.kp) (hb := ab_ascending_1_) (tk := (takes_of rfl rfl rfl rfl)) (hp := rfl) (hmx := by decide) (hdd := fun _ => .nil) (ha := ea_cons (ee_var 1) (ea_nil)) (hkw := ek_nil))) (hg := fun _ _ _ _ _ => eg_name 2 sc_want.nd) (ht := fun _ _ _ _ _ => et_nil) (he := fun _ _ _ _ _ => ee_ix (ha := ee_fld (F := fld_Season_needs hy) (ha := ee_var 0)) (hb := ee_var 2)))) (ea_nil)))))⟩
end LW
end

section
set_option maxHeartbeats 4000000
namespace LW
open PySem L2 EV
theorem sc_sides_to : FnScope ["season", "sluice", "mills", "pair", "side"] ["season", "sluice", "mills"] (defScope st_sides_to) := ⟨rfl, rfl, rfl, by decide +kernel, rfl, by decide +kernel, by decide +kernel⟩
def g_sides_to : FS := gSeq (gSet 3 (v2 ixD (v1 (fldD 7 1) (v1 (fldD 6 0) (vVar 0))) (vVar 1))) (gRet (vL (nLc (iSeq (v2 ixD (v1 (fldD 6 3) (vVar 0)) (vVar 1))) (nmG 4) (v2 inD (v2 ixD (vVar 3) (vVar 4)) (vVar 2)) (vVar 4) [4])))
def sem_sides_to : List D → Option R := semF 5 g_sides_to
theorem ok_sides_to {P : Program} {w : World} {K : PySem.W.Frag} {mg : Str → Option Value} {base : Heap} (hy : Hyp K mg) : ∃ fd, FunD K d_sides_to.name d_sides_to.qual d_sides_to.params d_sides_to.body d_sides_to.scope (d_sides_to.dvs K) (d_sides_to.kws K) (He.fAd K d_sides_to.at_) fd ∧ FnOk P w K mg base (L2.CX P w) 1 (He.fAd K d_sides_to.at_) fd ["season", "sluice", "mills"] (spF (tab K) 3 (sem_sides_to)) := by
  obtain ⟨fd, F⟩ := hy.says.fn (27) (d := d_sides_to) rfl
  exact ⟨fd, F, fn_ev F sc_sides_to fun cdv A outer s H E hr => (ss_cons (ss_set 3 (hN := sc_sides_to.nd) (he := ee_ix (ha := ee_fld (F := fld_Valley_sluices hy) (ha := ee_fld (F := fld_Season_valley hy) (ha := ee_var 0))) (hb := ee_var 1))) (ss_one (ss_ret (en_ee (en_lc (own := [("side", 4)]) (hc := rfl) (hN := sc_sides_to.nd) (ok := blkOk_by (show blkC ["season", "sluice", "mills", "pair", "side"] (defScope st_sides_to) _ [("side", 4)] = true by decide +kernel)) (hsub := by decide) (hi := ei_seq (he := ee_ix (ha := ee_fld (F := fld_Season_sides hy) (ha := ee_var 0)) (hb := ee_var 1))) (hg := fun _ _ _ _ _ => eg_name 4 sc_sides_to.nd) (ht := fun _ _ _ _ _ => et_one (eb_in (hr := hr) (hm := by rfl) (ha := ee_ix (ha := ee_var 3) (hb := ee_var 4)) (hb := ee_var 2))) (he := fun _ _ _ _ _ => ee_var 4))))))⟩
end LW
end

section
set_option maxHeartbeats 4000000
namespace LW
open PySem L2 EV
theorem sc_gain : FnScope ["season", "lot", "mills", "sluice"] ["season", "lot"] (defScope st_gain) := ⟨rfl, rfl, rfl, by decide +kernel, rfl, by decide +kernel, by decide +kernel⟩
def g_gain : FS := gSeq (gSet 2 (vCallP 1 0 [0] sem_ascending [] (aCons (vVar 1) (aNil)) (aNil))) (gRet (vCall lenD (aCons (vL (nLc (iRange1 (vCall lenD (aCons (v1 (fldD 6 3) (vVar 0)) (aNil)))) (nmG 3) (v2 gtD (vCall lenD (aCons (vCallP 3 0 [0, 1, 2] sem_sides_to [] (aCons (vVar 0) (aCons (vVar 3) (aCons (vVar 2) (aNil)))) (aNil)) (aNil))) (vC (.int 0))) (vVar 3) [3])) (aNil))))
def sem_gain : List D → Option R := semF 4 g_gain
theorem ok_gain {P : Program} {w : World} {K : PySem.W.Frag} {mg : Str → Option Value} {base : Heap} (hy : Hyp K mg) : ∃ fd, FunD K d_gain.name d_gain.qual d_gain.params d_gain.body d_gain.scope (d_gain.dvs K) (d_gain.kws K) (He.fAd K d_gain.at_) fd ∧ FnOk P w K mg base (L2.CX P w) 2 (He.fAd K d_gain.at_) fd ["season", "lot"] (spF (tab K) 2 (sem_gain)) := by
  obtain ⟨fd_ascending, F_ascending, G_ascending⟩ := ok_ascending (P := P) (w := w) (base := base) hy
  obtain ⟨fd_sides_to, F_sides_to, G_sides_to⟩ := ok_sides_to (P := P) (w := w) (base := base) hy
  have ab_ascending_1_ : ArgB K fd_ascending ["numbers"] 1 [] [] [0] := ArgB.given F_ascending (fun kV doc pm an cdv ct us ws l1 l2 => match us, l1, ws, l2 with | [_], _, [], _ => rfl)
  have ab_sides_to_3_ : ArgB K fd_sides_to ["season", "sluice", "mills"] 3 [] [] [0, 1, 2] := ArgB.given F_sides_to (fun kV doc pm an cdv ct us ws l1 l2 => match us, l1, ws, l2 with | [_, _, _], _, [], _ => rfl)
  obtain ⟨fd, F⟩ := hy.says.fn (28) (d := d_gain) rfl
  exact ⟨fd, F, fn_ev F sc_gain fun cdv A outer s H E hr => (ss_cons (ss_set 2 (hN := sc_gain.nd) (he := ee_callP (F := G_ascending) (hr := hr.mono (by decide)) (hm := glo_ascending hy) (hk := F_ascending.kp) (hb := ab_ascending_1_) (tk := (takes_of rfl rfl rfl rfl)) (hp := rfl) (hmx := by decide) (hdd := fun _ => .nil) (ha := ea_cons (ee_var 1) (ea_nil)) (hkw := ek_nil))) (ss_one (ss_ret (ee_callB (hc := call_len_seq) (h := (o_len rfl)) (hm := (free_len hy)) (hv := by decide +kernel) (ha := ea_cons (en_ee (en_lc (own := [("sluice", 3)]) (hc := rfl) (hN := sc_gain.nd) (ok := blkOk_by (show blkC ["season", "lot", "mills", "sluice"] (defScope st_gain) _ [("sluice", 3)] = true by decide +kernel)) (hsub := by decide) (hi := ei_range1 (hm := (free_range hy)) (ha := ee_callB (hc := call_len_seq) (h := (o_len rfl)) (hm := (free_len hy)) (hv := by decide +kernel) (ha := ea_cons (ee_fld (F := fld_Season_sides hy) (ha := ee_var 0)) (ea_nil)))) (hg := fun _ _ _ _ _ => eg_name 3 sc_gain.nd) (ht := fun _ _ _ _ _ => et_one (eb_gt (ha := ee_callB (hc := call_len_seq) (h := (o_len rfl)) (hm := (free_len hy)) (hv := by decide +kernel) (ha := ea_cons (ee_callP (F := G_sides_to) (hr := hr.mono (by decide)) (hm := glo_sides_to hy) (hk := F_sides_to.kp) (hb := ab_sides_to_3_) (tk := takes0) (hp := rfl) (hmx := by decide) (hdd := fun _ => .nil) (ha := ea_cons (ee_var 0) (ea_cons (ee_var 3) (ea_cons (ee_var 2) (ea_nil)))) (hkw := ek_nil)) (ea_nil))) (hb := ee_int))) (he := fun _ _ _ _ _ => ee_var 3))) (ea_nil))))))⟩
end LW
end

section
set_option maxHeartbeats 4000000
namespace LW
open PySem L2 EV
theorem sc_load : FnScope ["season", "lot", "mills", "number", "sluice", "let"] ["season", "lot"] (defScope st_load) := ⟨rfl, rfl, rfl, by decide +kernel, rfl, by decide +kernel, by decide +kernel⟩
def g_load : FS := gSeq (gSet 2 (vCallP 1 0 [0] sem_ascending [] (aCons (vVar 1) (aNil)) (aNil))) (gSeq (gSet 3 (vC (.int 0))) (gSeq (gFor (iRange1 (vCall lenD (aCons (v1 (fldD 6 3) (vVar 0)) (aNil)))) (nmG 4) (gSeq (gSet 5 (v2 ixD (v1 (fldD 6 3) (vVar 0)) (vVar 4))) (gIf (vAnd (v2 gtD (vCall lenD (aCons (vVar 5) (aNil))) (vC (.int 0))) (v2 eqD (vCall lenD (aCons (vCallP 3 0 [0, 1, 2] sem_sides_to [] (aCons (vVar 0) (aCons (vVar 4) (aCons (vVar 2) (aNil)))) (aNil)) (aNil))) (vCall lenD (aCons (vVar 5) (aNil))))) (gAug 3 (vC (.int 1))) (gNext)))) (gRet (vVar 3))))
def sem_load : List D → Option R := semF 6 g_load
theorem ok_load {P : Program} {w : World} {K : PySem.W.Frag} {mg : Str → Option Value} {base : Heap} (hy : Hyp K mg) : ∃ fd, FunD K d_load.name d_load.qual d_load.params d_load.body d_load.scope (d_load.dvs K) (d_load.kws K) (He.fAd K d_load.at_) fd ∧ FnOk P w K mg base (L2.CX P w) 2 (He.fAd K d_load.at_) fd ["season", "lot"] (spF (tab K) 2 (sem_load)) := by
  obtain ⟨fd_ascending, F_ascending, G_ascending⟩ := ok_ascending (P := P) (w := w) (base := base) hy
  obtain ⟨fd_sides_to, F_sides_to, G_sides_to⟩ := ok_sides_to (P := P) (w := w) (base := base) hy
  have ab_ascending_1_ : ArgB K fd_ascending ["numbers"] 1 [] [] [0] := ArgB.given F_ascending (fun kV doc pm an cdv ct us ws l1 l2 => match us, l1, ws, l2 with | [_], _, [], _ => rfl)
  have ab_sides_to_3_ : ArgB K fd_sides_to ["season", "sluice", "mills"] 3 [] [] [0, 1, 2] := ArgB.given F_sides_to (fun kV doc pm an cdv ct us ws l1 l2 => match us, l1, ws, l2 with | [_, _, _], _, [], _ => rfl)
  obtain ⟨fd, F⟩ := hy.says.fn (29) (d := d_load) rfl
  exact ⟨fd, F, fn_ev F sc_load fun cdv A outer s H E hr => (ss_cons (ss_set 2 (hN := sc_load.nd) (he := ee_callP (F := G_ascending) (hr := hr.mono (by decide)) (hm := glo_ascending hy) (hk := F_ascending.kp) (hb := ab_ascending_1_) (tk := (takes_of rfl rfl rfl rfl)) (hp := rfl) (hmx := by decide) (hdd := fun _ => .nil) (ha := ea_cons (ee_var 1) (ea_nil)) (hkw := ek_nil))) (ss_cons (ss_set 3 (hN := sc_load.nd) (he := ee_int)) (ss_cons (ss_for (hp := passes_of rfl) (hc := rfl) (hi := ei_range1 (hm := (free_range hy)) (ha := ee_callB (hc := call_len_seq) (h := (o_len rfl)) (hm := (free_len hy)) (hv := by decide +kernel) (ha := ea_cons (ee_fld (F := fld_Season_sides hy) (ha := ee_var 0)) (ea_nil)))) (hg := eg_name 4 sc_load.nd) (hb := ss_cons (ss_set 5 (hN := sc_load.nd) (he := ee_ix (ha := ee_fld (F := fld_Season_sides hy) (ha := ee_var 0)) (hb := ee_var 4))) (ss_one (ss_if (eb_w (ew_and (eb_gt (ha := ee_callB (hc := call_len_seq) (h := (o_len rfl)) (hm := (free_len hy)) (hv := by decide +kernel) (ha := ea_cons (ee_var 5) (ea_nil))) (hb := ee_int)) (ew_and1 (eb_eq (hr := hr) (ha := ee_callB (hc := call_len_seq) (h := (o_len rfl)) (hm := (free_len hy)) (hv := by decide +kernel) (ha := ea_cons (ee_callP (F := G_sides_to) (hr := hr.mono (by decide)) (hm := glo_sides_to hy) (hk := F_sides_to.kp) (hb := ab_sides_to_3_) (tk := (takes_of rfl rfl rfl rfl)) (hp := rfl) (hmx := by decide) (hdd := fun _ => .nil) (ha := ea_cons (ee_var 0) (ea_cons (ee_var 4) (ea_cons (ee_var 2) (ea_nil)))) (hkw := ek_nil)) (ea_nil))) (hb := ee_callB (hc := call_len_seq) (h := (o_len rfl)) (hm := (free_len hy)) (hv := by decide +kernel) (ha := ea_cons (ee_var 5) (ea_nil))))))) (ss_one (ss_aug 3 sc_load.nd (he := ee_int))) (ss_nil))))) (ss_one (ss_ret (ee_var 3))))))⟩
end LW
end

section
set_option maxHeartbeats 4000000
namespace LW
open PySem L2 EV
theorem sc_is_obstacle : FnScope ["season", "value", "kind", "subject", "limit", "most"] ["season", "value"] (defScope st_is_obstacle) := ⟨rfl, rfl, rfl, by decide +kernel, rfl, by decide +kernel, by decide +kernel⟩
def g_is_obstacle : FS := gSeq (gAsg (tupG (lenG 2 (consG (nmG 2) (consG (nmG 3) (nilG))))) (vVar 1)) (gSeq (gIf (v2 eqD (vVar 2) (vC (.str "sluice"))) (gRet (v2 eqD (vCall lenD (aCons (v2 ixD (v1 (fldD 6 3) (vVar 0)) (vVar 3)) (aNil))) (vC (.int 0)))) (gNext)) (gSeq (gIf (v2 eqD (vVar 2) (vC (.str "mill"))) (gSeq (gSet 4 (v2 ixD (v1 (fldD 6 2) (vVar 0)) (vVar 3))) (gRet (vAnd (v2 notNonD (vVar 4) (vC .non)) (v2 ltD (vVar 4) (v2 ixD (v1 (fldD 6 1) (vVar 0)) (vVar 3)))))) (gNext)) (gSeq (gIf (v2 eqD (vVar 2) (vC (.str "wants"))) (gRet (v2 gtD (vCallP 2 0 [0, 1] sem_want [] (aCons (vVar 0) (aCons (vVar 3) (aNil))) (aNil)) (vCallP 2 0 [0, 1] sem_gain [] (aCons (vVar 0) (aCons (vVar 3) (aNil))) (aNil)))) (gNext)) (gSeq (gSet 5 (vCallP 2 0 [0, 1] sem_bear [] (aCons (vVar 0) (aCons (vVar 3) (aNil))) (aNil))) (gRet (vAnd (v2 notNonD (vVar 5) (vC .non)) (v2 gtD (vCallP 2 0 [0, 1] sem_load [] (aCons (vVar 0) (aCons (vVar 3) (aNil))) (aNil)) (vVar 5))))))))
def sem_is_obstacle : List D → Option R := semF 6 g_is_obstacle
theorem ok_is_obstacle {P : Program} {w : World} {K : PySem.W.Frag} {mg : Str → Option Value} {base : Heap} (hy : Hyp K mg) : ∃ fd, FunD K d_is_obstacle.name d_is_obstacle.qual d_is_obstacle.params d_is_obstacle.body d_is_obstacle.scope (d_is_obstacle.dvs K) (d_is_obstacle.kws K) (He.fAd K d_is_obstacle.at_) fd ∧ FnOk P w K mg base (L2.CX P w) 3 (He.fAd K d_is_obstacle.at_) fd ["season", "value"] (spF (tab K) 2 (sem_is_obstacle)) := by
  obtain ⟨fd_want, F_want, G_want⟩ := ok_want (P := P) (w := w) (base := base) hy
  obtain ⟨fd_gain, F_gain, G_gain⟩ := ok_gain (P := P) (w := w) (base := base) hy
  obtain ⟨fd_bear, F_bear, G_bear⟩ := ok_bear (P := P) (w := w) (base := base) hy
  obtain ⟨fd_load, F_load, G_load⟩ := ok_load (P := P) (w := w) (base := base) hy
  have ab_want_2_ : ArgB K fd_want ["season", "lot"] 2 [] [] [0, 1] := ArgB.given F_want (fun kV doc pm an cdv ct us ws l1 l2 => match us, l1, ws, l2 with | [_, _], _, [], _ => rfl)
  have ab_gain_2_ : ArgB K fd_gain ["season", "lot"] 2 [] [] [0, 1] := ArgB.given F_gain (fun kV doc pm an cdv ct us ws l1 l2 => match us, l1, ws, l2 with | [_, _], _, [], _ => rfl)
  have ab_bear_2_ : ArgB K fd_bear ["season", "lot"] 2 [] [] [0, 1] := ArgB.given F_bear (fun kV doc pm an cdv ct us ws l1 l2 => match us, l1, ws, l2 with | [_, _], _, [], _ => rfl)
  have ab_load_2_ : ArgB K fd_load ["season", "lot"] 2 [] [] [0, 1] := ArgB.given F_load (fun kV doc pm an cdv ct us ws l1 l2 => match us, l1, ws, l2 with | [_, _], _, [], _ => rfl)
  obtain ⟨fd, F⟩ := hy.says.fn (30) (d := d_is_obstacle) rfl
  exact ⟨fd, F, fn_ev F sc_is_obstacle fun cdv A outer s H E hr => (ss_cons (ss_asg (hg := eg_tup (hc := rfl) (h := egs_cons (eg_name 2 sc_is_obstacle.nd) (egs_cons (eg_name 3 sc_is_obstacle.nd) (egs_nil)))) (he := ee_var 1)) (ss_cons (ss_if (eb_eq (hr := hr) (ha := ee_var 2) (hb := ee_str)) (ss_one (ss_ret (ee_eq (hr := hr) (ha := ee_callB (hc := call_len_seq) (h := (o_len rfl)) (hm := (free_len hy)) (hv := by decide +kernel) (ha := ea_cons (ee_ix (ha := ee_fld (F := fld_Season_sides hy) (ha := ee_var 0)) (hb := ee_var 3)) (ea_nil))) (hb := ee_int)))) (ss_nil)) (ss_cons (ss_if (eb_eq (hr := hr) (ha := ee_var 2) (hb := ee_str)) (ss_cons (ss_set 4 (hN := sc_is_obstacle.nd) (he := ee_ix (ha := ee_fld (F := fld_Season_limits hy) (ha := ee_var 0)) (hb := ee_var 3))) (ss_one (ss_ret (ee_and (ee_notN (ha := ee_var 4) (hb := ee_non)) (ee_one (ee_lt (ha := ee_var 4) (hb := ee_ix (ha := ee_fld (F := fld_Season_needs hy) (ha := ee_var 0)) (hb := ee_var 3)))))))) (ss_nil)) (ss_cons (ss_if (eb_eq (hr := hr) (ha := ee_var 2) (hb := ee_str)) (ss_one (ss_ret (ee_gt (ha := ee_callP (F := G_want) (hr := hr.mono (by decide)) (hm := glo_want hy) (hk := F_want.kp) (hb := ab_want_2_) (tk := (takes_of rfl rfl rfl rfl)) (hp := rfl) (hmx := by decide) (hdd := fun _ => .nil) (ha := ea_cons (ee_var 0) (ea_cons (ee_var 3) (ea_nil))) (hkw := ek_nil)) (hb := ee_callP (F := G_gain) (hr := hr.mono (by decide)) (hm := glo_gain hy) (hk := F_gain.kp) (hb := ab_gain_2_) (tk := (takes_of rfl rfl rfl rfl)) (hp := rfl) (hmx := by decide) (hdd := fun _ => .nil) (ha := ea_cons (ee_var 0) (ea_cons (ee_var 3) (ea_nil))) (hkw := ek_nil))))) (ss_nil)) (ss_cons (ss_set 5 (hN := sc_is_obstacle.nd) (he := ee_callP (F := G_bear) (hr := hr.mono (by decide)) (hm := glo_bear hy) (hk := F_bear.kp) (hb := ab_bear_2_) (tk := (takes_of rfl rfl rfl rfl)) (hp := rfl) (hmx := by decide) (hdd := fun _ => .nil) (ha := ea_cons (ee_var 0) (ea_cons (ee_var 3) (ea_nil))) (hkw := ek_nil))) (ss_one (ss_ret (ee_and (ee_notN (ha := ee_var 5) (hb := ee_non)) (ee_one (ee_gt (ha := ee_callP (F := G_load) (hr := hr.mono (by decide)) (hm := glo_load hy) (hk := F_load.kp) (hb := ab_load_2_) (tk := (takes_of rfl rfl rfl rfl)) (hp := rfl) (hmx := by decide) (hdd := fun _ => .nil) (ha := ea_cons (ee_var 0) (ea_cons (ee_var 3) (ea_nil))) (hkw := ek_nil)) (hb := ee_var 5)))))))))))⟩
end LW
end

section
set_option maxHeartbeats 4000000
namespace LW
open PySem L2 EV
theorem sc_law_single : FnScope ["_law_rule", "_law_word", "_law_number", "_law_due", "_law_pair", "_law_told", "_law_again"] ["_law_rule", "_law_word", "_law_number", "_law_due"] (defScope st_law_single) := ⟨rfl, rfl, rfl, by decide +kernel, rfl, by decide +kernel, by decide +kernel⟩
def g_law_single : FS := gSeq (gSet 4 (vL (lenOk (aCons (vVar 1) (aCons (vVar 2) (aNil)))))) (gSeq (gSet 5 (vCallP 2 0 [0, 1] sem_is_obstacle [] (aCons (vVar 0) (aCons (vVar 4) (aNil))) (aNil))) (gSeq (gSet 6 (vCallP 0 2 [1, 0] sem_is_obstacle [] aNil (aCons (vTup (aCons (vVar 1) (aCons (vVar 2) (aNil)))) (aCons (vVar 0) (aNil))))) (gSeq (gIf (vOr (v1 notD (v1 (isD [.bl]) (vVar 5))) (vOr (v1 notD (v1 (isD [.bl]) (vVar 6))) (v2 neD (vVar 4) (vL (lenOk (aCons (vVar 1) (aCons (vVar 2) (aNil)))))))) (gRet (vC (.bl false))) (gNext)) (gRet (vAnd (v2 eqD (vVar 5) (vVar 3)) (v2 eqD (vVar 6) (vVar 3)))))))
def sem_law_single : List D → Option R := semF 7 g_law_single
theorem ok_law_single {P : Program} {w : World} {K : PySem.W.Frag} {mg : Str → Option Value} {base : Heap} (hy : Hyp K mg) : ∃ fd, FunD K d_law_single.name d_law_single.qual d_law_single.params d_law_single.body d_law_single.scope (d_law_single.dvs K) (d_law_single.kws K) (He.fAd K d_law_single.at_) fd ∧ FnOk P w K mg base (L2.CX P w) 4 (He.fAd K d_law_single.at_) fd ["_law_rule", "_law_word", "_law_number", "_law_due"] (spF (tab K) 4 (sem_law_single)) := by
  obtain ⟨fd_is_obstacle, F_is_obstacle, G_is_obstacle⟩ := ok_is_obstacle (P := P) (w := w) (base := base) hy
  have ab_is_obstacle_2_ : ArgB K fd_is_obstacle ["season", "value"] 2 [] [] [0, 1] := ArgB.given F_is_obstacle (fun kV doc pm an cdv ct us ws l1 l2 => match us, l1, ws, l2 with | [_, _], _, [], _ => rfl)
  have ab_is_obstacle_0_value_season : ArgB K fd_is_obstacle ["season", "value"] 0 ["value", "season"] [] [1, 0] := ArgB.given F_is_obstacle (fun kV doc pm an cdv ct us ws l1 l2 => match us, l1, ws, l2 with | [], _, [_, _], _ => rfl)
  obtain ⟨fd, F⟩ := hy.says.fn (31) (d := d_law_single) rfl
  exact ⟨fd, F, fn_ev F sc_law_single fun cdv A outer s H E hr => (ss_cons (ss_set 4 (hN := sc_law_single.nd) (he := en_ee (en_lst (ea_cons (ee_var 1) (ea_cons (ee_var 2) (ea_nil)))))) (ss_cons (ss_set 5 (hN := sc_law_single.nd) (he := ee_callP (F := G_is_obstacle) (hr := hr.mono (by decide)) (hm := glo_is_obstacle hy) (hk := F_is_obstacle.kp) (hb := ab_is_obstacle_2_) (tk := (takes_of rfl rfl rfl rfl)) (hp := rfl) (hmx := by decide) (hdd := fun _ => .nil) (ha := ea_cons (ee_var 0) (ea_cons (ee_var 4) (ea_nil))) (hkw := ek_nil))) (ss_cons (ss_set 6 (hN := sc_law_single.nd) (he := ee_callP0 (F := G_is_obstacle) (hr := hr.mono (by decide)) (hm := glo_is_obstacle hy) (hk := F_is_obstacle.kp) (hb := ab_is_obstacle_0_value_season) (tk := (takes_of rfl rfl rfl rfl)) (hp := rfl) (hmx := by decide) (hdd := fun _ => .nil) (hkw := ek_cons (ee_tup (ea_cons (ee_var 1) (ea_cons (ee_var 2) (ea_nil)))) (ek_cons (ee_var 0) (ek_nil))))) (ss_cons (ss_if (eb_w (ew_or (eb_not (eb_val (ee_isi .bl (hm := (free_isinstance hy)) (hmy := (free_bool hy)) (hvy := by decide +kernel) (ha := ee_var 5)))) (ew_or (eb_not (eb_val (ee_isi .bl (hm := (free_isinstance hy)) (hmy := (free_bool hy)) (hvy := by decide +kernel) (ha := ee_var 6)))) (ew_or1 (eb_ne (hr := hr) (ha := ee_var 4) (hb := en_ee (en_lst (ea_cons (ee_var 1) (ea_cons (ee_var 2) (ea_nil)))))))))) (ss_one (ss_ret (ee_bl))) (ss_nil)) (ss_one (ss_ret (ee_and (ee_eq (hr := hr) (ha := ee_var 5) (hb := ee_var 3)) (ee_one (ee_eq (hr := hr) (ha := ee_var 6) (hb := ee_var 3))))))))))⟩
end LW
end

section
set_option maxHeartbeats 4000000
namespace LW
open PySem L2 EV
theorem sc_law_singles : FnScope ["_law_rule", "_law_world_here", "_law_k", "_law_mill", "_law_due"] ["_law_rule", "_law_world_here"] (defScope st_law_singles) := ⟨rfl, rfl, rfl, by decide +kernel, rfl, by decide +kernel, by decide +kernel⟩
def g_law_singles : FS := gSeq (gFor (iRange1 (vCall lenD (aCons (v2 ixD (vVar 1) (vC (.int 1))) (aNil)))) (nmG 2) (gIf (v1 notD (vCallP 4 0 [0, 1, 2, 3] sem_law_single [] (aCons (vVar 0) (aCons (vC (.str "sluice")) (aCons (vVar 2) (aCons (v2 eqD (vCall lenD (aCons (v2 ixD (v2 ixD (vVar 1) (vC (.int 4))) (vVar 2)) (aNil))) (vC (.int 0))) (aNil))))) (aNil))) (gRet (vC (.bl false))) (gNext))) (gSeq (gFor (iRange1 (v2 ixD (vVar 1) (vC (.int 0)))) (nmG 3) (gSeq (gSet 4 (vAnd (v2 notNonD (v2 ixD (v2 ixD (vVar 1) (vC (.int 3))) (vVar 3)) (vC .non)) (v2 ltD (v2 ixD (v2 ixD (vVar 1) (vC (.int 3))) (vVar 3)) (v2 ixD (v2 ixD (vVar 1) (vC (.int 2))) (vVar 3))))) (gIf (v1 notD (vCallP 4 0 [0, 1, 2, 3] sem_law_single [] (aCons (vVar 0) (aCons (vC (.str "mill")) (aCons (vVar 3) (aCons (vVar 4) (aNil))))) (aNil))) (gRet (vC (.bl false))) (gNext)))) (gRet (vC (.bl true))))
def sem_law_singles : List D → Option R := semF 5 g_law_singles
theorem ok_law_singles {P : Program} {w : World} {K : PySem.W.Frag} {mg : Str → Option Value} {base : Heap} (hy : Hyp K mg) : ∃ fd, FunD K d_law_singles.name d_law_singles.qual d_law_singles.params d_law_singles.body d_law_singles.scope (d_law_singles.dvs K) (d_law_singles.kws K) (He.fAd K d_law_singles.at_) fd ∧ FnOk P w K mg base (L2.CX P w) 5 (He.fAd K d_law_singles.at_) fd ["_law_rule", "_law_world_here"] (spF (tab K) 2 (sem_law_singles)) := by
  obtain ⟨fd_law_single, F_law_single, G_law_single⟩ := ok_law_single (P := P) (w := w) (base := base) hy
  have ab_law_single_4_ : ArgB K fd_law_single ["_law_rule", "_law_word", "_law_number", "_law_due"] 4 [] [] [0, 1, 2, 3] := ArgB.given F_law_single (fun kV doc pm an cdv ct us ws l1 l2 => match us, l1, ws, l2 with | [_, _, _, _], _, [], _ => rfl)
  obtain ⟨fd, F⟩ := hy.says.fn (32) (d := d_law_singles) rfl
  exact ⟨fd, F, fn_ev F sc_law_singles fun cdv A outer s H E hr => (ss_cons (ss_for (hp := passes_of rfl) (hc := rfl) (hi := ei_range1 (hm := (free_range hy)) (ha := ee_callB (hc := call_len_seq) (h := (o_len rfl)) (hm := (free_len hy)) (hv := by decide +kernel) (ha := ea_cons (ee_ix (ha := ee_var 1) (hb := ee_int)) (ea_nil)))) (hg := eg_name 2 sc_law_singles.nd) (hb := ss_one (ss_if (eb_not (eb_val (ee_callP (F := G_law_single) (hr := hr.mono (by decide)) (hm := glo__law_single hy) (hk := F_law_single.kp) (hb := ab_law_single_4_) (tk := (takes_of rfl rfl rfl rfl)) (hp := rfl) (hmx := by decide) (hdd := fun _ => .nil) (ha := ea_cons (ee_var 0) (ea_cons (ee_str) (ea_cons (ee_var 2) (ea_cons (ee_eq (hr := hr) (ha := ee_callB (hc := call_len_seq) (h := (o_len rfl)) (hm := (free_len hy)) (hv := by decide +kernel) (ha := ea_cons (ee_ix (ha := ee_ix (ha := ee_var 1) (hb := ee_int)) (hb := ee_var 2)) (ea_nil))) (hb := ee_int)) (ea_nil))))) (hkw := ek_nil)))) (ss_one (ss_ret (ee_bl))) (ss_nil)))) (ss_cons (ss_for (hp := passes_of rfl) (hc := rfl) (hi := ei_range1 (hm := (free_range hy)) (ha := ee_ix (ha := ee_var 1) (hb := ee_int))) (hg := eg_name 3 sc_law_singles.nd) (hb := ss_cons (ss_set 4 (hN := sc_law_singles.nd) (he := ee_and (ee_notN (ha := ee_ix (ha := ee_ix (ha := ee_var 1) (hb := ee_int)) (hb := ee_var 3)) (hb := ee_non)) (ee_one (ee_lt (ha := ee_ix (ha := ee_ix (ha := ee_var 1) (hb := ee_int)) (hb := ee_var 3)) (hb := ee_ix (ha := ee_ix (ha := ee_var 1) (hb := ee_int)) (hb := ee_var 3)))))) (ss_one (ss_if (eb_not (eb_val (ee_callP (F := G_law_single) (hr := hr.mono (by decide)) (hm := glo__law_single hy) (hk := F_law_single.kp) (hb := ab_law_single_4_) (tk := (takes_of rfl rfl rfl rfl)) (hp := rfl) (hmx := by decide) (hdd := fun _ => .nil) (ha := ea_cons (ee_var 0) (ea_cons (ee_str) (ea_cons (ee_var 3) (ea_cons (ee_var 4) (ea_nil))))) (hkw := ek_nil)))) (ss_one (ss_ret (ee_bl))) (ss_nil))))) (ss_one (ss_ret (ee_bl)))))⟩
end LW
end

section
set_option maxHeartbeats 4000000
namespace LW
open PySem L2 EV
theorem sc_law_kept : FnScope ["_law_rule", "_law_world_here"] ["_law_rule", "_law_world_here"] (defScope st_law_kept) := ⟨rfl, rfl, rfl, by decide +kernel, rfl, by decide +kernel, by decide +kernel⟩
def g_law_kept : FS := gSeq (gIf (vOr (v2 neD (v1 (fldD 7 0) (v1 (fldD 6 0) (vVar 0))) (v2 ixD (vVar 1) (vC (.int 0)))) (v2 neD (v1 (fldD 7 1) (v1 (fldD 6 0) (vVar 0))) (vCall tupleD (aCons (v2 ixD (vVar 1) (vC (.int 1))) (aNil))))) (gRet (vC (.bl false))) (gNext)) (gRet (vAnd (v2 eqD (v1 (fldD 6 1) (vVar 0)) (vCall tupleD (aCons (v2 ixD (vVar 1) (vC (.int 2))) (aNil)))) (vAnd (v2 eqD (v1 (fldD 6 2) (vVar 0)) (vCall tupleD (aCons (v2 ixD (vVar 1) (vC (.int 3))) (aNil)))) (v2 eqD (v1 (fldD 6 3) (vVar 0)) (vCall tupleD (aCons (v2 ixD (vVar 1) (vC (.int 4))) (aNil)))))))
def sem_law_kept : List D → Option R := semF 2 g_law_kept
theorem ok_law_kept {P : Program} {w : World} {K : PySem.W.Frag} {mg : Str → Option Value} {base : Heap} (hy : Hyp K mg) : ∃ fd, FunD K d_law_kept.name d_law_kept.qual d_law_kept.params d_law_kept.body d_law_kept.scope (d_law_kept.dvs K) (d_law_kept.kws K) (He.fAd K d_law_kept.at_) fd ∧ FnOk P w K mg base (L2.CX P w) 1 (He.fAd K d_law_kept.at_) fd ["_law_rule", "_law_world_here"] (spF (tab K) 2 (sem_law_kept)) := by
  obtain ⟨fd, F⟩ := hy.says.fn (33) (d := d_law_kept) rfl
  exact ⟨fd, F, fn_ev F sc_law_kept fun cdv A outer s H E hr => (ss_cons (ss_if (eb_w (ew_or (eb_ne (hr := hr) (ha := ee_fld (F := fld_Valley_mills hy) (ha := ee_fld (F := fld_Season_valley hy) (ha := ee_var 0))) (hb := ee_ix (ha := ee_var 1) (hb := ee_int))) (ew_or1 (eb_ne (hr := hr) (ha := ee_fld (F := fld_Valley_sluices hy) (ha := ee_fld (F := fld_Season_valley hy) (ha := ee_var 0))) (hb := ee_callT (hc := call_tuple_of) (h := (o_tuple rfl)) (hm := (free_tuple hy)) (hv := by decide +kernel) (ha := ea_cons (ee_ix (ha := ee_var 1) (hb := ee_int)) (ea_nil))))))) (ss_one (ss_ret (ee_bl))) (ss_nil)) (ss_one (ss_ret (ee_and (ee_eq (hr := hr) (ha := ee_fld (F := fld_Season_needs hy) (ha := ee_var 0)) (hb := ee_callT (hc := call_tuple_of) (h := (o_tuple rfl)) (hm := (free_tuple hy)) (hv := by decide +kernel) (ha := ea_cons (ee_ix (ha := ee_var 1) (hb := ee_int)) (ea_nil)))) (ee_and (ee_eq (hr := hr) (ha := ee_fld (F := fld_Season_limits hy) (ha := ee_var 0)) (hb := ee_callT (hc := call_tuple_of) (h := (o_tuple rfl)) (hm := (free_tuple hy)) (hv := by decide +kernel) (ha := ea_cons (ee_ix (ha := ee_var 1) (hb := ee_int)) (ea_nil)))) (ee_one (ee_eq (hr := hr) (ha := ee_fld (F := fld_Season_sides hy) (ha := ee_var 0)) (hb := ee_callT (hc := call_tuple_of) (h := (o_tuple rfl)) (hm := (free_tuple hy)) (hv := by decide +kernel) (ha := ea_cons (ee_ix (ha := ee_var 1) (hb := ee_int)) (ea_nil))))))))))⟩
end LW
end

section
set_option maxHeartbeats 4000000
namespace LW
open PySem L2 EV
theorem sc_law_whole : FnScope ["_law_item"] ["_law_item"] (defScope st_law_whole) := ⟨rfl, rfl, rfl, by decide +kernel, rfl, by decide +kernel, by decide +kernel⟩
def g_law_whole : FS := gRet (vAnd (v1 (isD [.int]) (vVar 0)) (v1 notD (v1 (isD [.bl]) (vVar 0))))
def sem_law_whole : List D → Option R := semF 1 g_law_whole
theorem ok_law_whole {P : Program} {w : World} {K : PySem.W.Frag} {mg : Str → Option Value} {base : Heap} (hy : Hyp K mg) : ∃ fd, FunD K d_law_whole.name d_law_whole.qual d_law_whole.params d_law_whole.body d_law_whole.scope (d_law_whole.dvs K) (d_law_whole.kws K) (He.fAd K d_law_whole.at_) fd ∧ FnOk P w K mg base (L2.CX P w) 1 (He.fAd K d_law_whole.at_) fd ["_law_item"] (spF (tab K) 1 (sem_law_whole)) := by
  obtain ⟨fd, F⟩ := hy.says.fn (34) (d := d_law_whole) rfl
  exact ⟨fd, F, fn_ev F sc_law_whole fun cdv A outer s H E hr => (ss_one (ss_ret (ee_and (ee_isi .int (hm := (free_isinstance hy)) (hmy := (free_int hy)) (hvy := by decide +kernel) (ha := ee_var 0)) (ee_one (ee_not (ee_isi .bl (hm := (free_isinstance hy)) (hmy := (free_bool hy)) (hvy := by decide +kernel) (ha := ee_var 0)))))))⟩
end LW
end

section
set_option maxHeartbeats 4000000
namespace LW
open PySem L2 EV
theorem sc_law_right : FnScope ["_law_rule", "_law_due", "_law_shown_here", "_law_named", "_law_copied", "_law_told", "_law_k"] ["_law_rule", "_law_due", "_law_shown_here", "_law_named"] (defScope st_law_right) := ⟨rfl, rfl, rfl, by decide +kernel, rfl, by decide +kernel, by decide +kernel⟩
def g_law_right : FS := gSeq (gSet 4 (vL (nCall listD (aCons (vVar 2) (aNil))))) (gSeq (gIf (vVar 3) (gSeq (gSet 5 (vL (lenOk (aCons (vCallP 0 2 [1, 0] sem_gain [] aNil (aCons (vVar 2) (aCons (vVar 0) (aNil)))) (aCons (vCallP 0 2 [0, 1] sem_load [] aNil (aCons (vVar 0) (aCons (vVar 2) (aNil)))) (aNil)))))) (gSet 5 (vL (nAdd (vVar 5) (vL (lenOk (aCons (vCallP 0 2 [1, 0] sem_want [] aNil (aCons (vVar 2) (aCons (vVar 0) (aNil)))) (aCons (vCallP 0 2 [0, 1] sem_bear [] aNil (aCons (vVar 0) (aCons (vVar 2) (aNil)))) (aNil))))))))) (gSet 5 (vL (lenOk (aCons (vCallP 2 0 [0, 1] sem_gain [] (aCons (vVar 0) (aCons (vVar 2) (aNil))) (aNil)) (aCons (vCallP 2 0 [0, 1] sem_load [] (aCons (vVar 0) (aCons (vVar 2) (aNil))) (aNil)) (aCons (vCallP 2 0 [0, 1] sem_want [] (aCons (vVar 0) (aCons (vVar 2) (aNil))) (aNil)) (aCons (vCallP 2 0 [0, 1] sem_bear [] (aCons (vVar 0) (aCons (vVar 2) (aNil))) (aNil)) (aNil))))))))) (gSeq (gIf (v2 neD (vL (nCall listD (aCons (vVar 2) (aNil)))) (vVar 4)) (gRet (vC (.bl false))) (gNext)) (gSeq (gIf (vAnd (v2 isNonD (v2 ixD (vVar 1) (vC (.int 3))) (vC .non)) (v2 notNonD (v2 ixD (vVar 5) (vC (.int 3))) (vC .non))) (gRet (vC (.bl false))) (gNext)) (gSeq (gFor (iRange1 (vC (.int 4))) (nmG 6) (gIf (vAnd (v2 notNonD (v2 ixD (vVar 1) (vVar 6)) (vC .non)) (vOr (v1 notD (vCallP 1 0 [0] sem_law_whole [] (aCons (v2 ixD (vVar 5) (vVar 6)) (aNil)) (aNil))) (v2 neD (v2 ixD (vVar 5) (vVar 6)) (v2 ixD (vVar 1) (vVar 6))))) (gRet (vC (.bl false))) (gNext))) (gRet (vC (.bl true)))))))
def sem_law_right : List D → Option R := semF 7 g_law_right
theorem ok_law_right {P : Program} {w : World} {K : PySem.W.Frag} {mg : Str → Option Value} {base : Heap} (hy : Hyp K mg) : ∃ fd, FunD K d_law_right.name d_law_right.qual d_law_right.params d_law_right.body d_law_right.scope (d_law_right.dvs K) (d_law_right.kws K) (He.fAd K d_law_right.at_) fd ∧ FnOk P w K mg base (L2.CX P w) 3 (He.fAd K d_law_right.at_) fd ["_law_rule", "_law_due", "_law_shown_here", "_law_named"] (spF (tab K) 4 (sem_law_right)) := by
  obtain ⟨fd_load, F_load, G_load⟩ := ok_load (P := P) (w := w) (base := base) hy
  obtain ⟨fd_gain, F_gain, G_gain⟩ := ok_gain (P := P) (w := w) (base := base) hy
  obtain ⟨fd_bear, F_bear, G_bear⟩ := ok_bear (P := P) (w := w) (base := base) hy
  obtain ⟨fd_want, F_want, G_want⟩ := ok_want (P := P) (w := w) (base := base) hy
  obtain ⟨fd_law_whole, F_law_whole, G_law_whole⟩ := ok_law_whole (P := P) (w := w) (base := base) hy
  have ab_load_0_season_lot : ArgB K fd_load ["season", "lot"] 0 ["season", "lot"] [] [0, 1] := ArgB.given F_load (fun kV doc pm an cdv ct us ws l1 l2 => match us, l1, ws, l2 with | [], _, [_, _], _ => rfl)
  have ab_gain_0_lot_season : ArgB K fd_gain ["season", "lot"] 0 ["lot", "season"] [] [1, 0] := ArgB.given F_gain (fun kV doc pm an cdv ct us ws l1 l2 => match us, l1, ws, l2 with | [], _, [_, _], _ => rfl)
  have ab_bear_0_season_lot : ArgB K fd_bear ["season", "lot"] 0 ["season", "lot"] [] [0, 1] := ArgB.given F_bear (fun kV doc pm an cdv ct us ws l1 l2 => match us, l1, ws, l2 with | [], _, [_, _], _ => rfl)
  have ab_want_0_lot_season : ArgB K fd_want ["season", "lot"] 0 ["lot", "season"] [] [1, 0] := ArgB.given F_want (fun kV doc pm an cdv ct us ws l1 l2 => match us, l1, ws, l2 with | [], _, [_, _], _ => rfl)
  have ab_bear_2_ : ArgB K fd_bear ["season", "lot"] 2 [] [] [0, 1] := ArgB.given F_bear (fun kV doc pm an cdv ct us ws l1 l2 => match us, l1, ws, l2 with | [_, _], _, [], _ => rfl)
  have ab_want_2_ : ArgB K fd_want ["season", "lot"] 2 [] [] [0, 1] := ArgB.given F_want (fun kV doc pm an cdv ct us ws l1 l2 => match us, l1, ws, l2 with | [_, _], _, [], _ => rfl)
  have ab_load_2_ : ArgB K fd_load ["season", "lot"] 2 [] [] [0, 1] := ArgB.given F_load (fun kV doc pm an cdv ct us ws l1 l2 => match us, l1, ws, l2 with | [_, _], _, [], _ => rfl)
  have ab_gain_2_ : ArgB K fd_gain ["season", "lot"] 2 [] [] [0, 1] := ArgB.given F_gain (fun kV doc pm an cdv ct us ws l1 l2 => match us, l1, ws, l2 with | [_, _], _, [], _ => rfl)
  have ab_law_whole_1_ : ArgB K fd_law_whole ["_law_item"] 1 [] [] [0] := ArgB.given F_law_whole (fun kV doc pm an cdv ct us ws l1 l2 => match us, l1, ws, l2 with | [_], _, [], _ => rfl)
  obtain ⟨fd, F⟩ := hy.says.fn (35) (d := d_law_right) rfl
  exact ⟨fd, F, fn_ev F sc_law_right fun cdv A outer s H E hr => (ss_cons (ss_set 4 (hN := sc_law_right.nd) (he := en_ee (en_callT (hc := call_list_of) (h := (o_list rfl)) (hm := (free_list hy)) (hv := by decide +kernel) (ha := ea_cons (ee_var 2) (ea_nil))))) (ss_cons (ss_if (eb_val (ee_var 3)) (ss_cons (ss_set 5 (hN := sc_law_right.nd) (he := en_ee (en_lst (ea_cons (ee_callP0 (F := G_gain) (hr := hr.mono (by decide)) (hm := glo_gain hy) (hk := F_gain.kp) (hb := ab_gain_0_lot_season) (tk := (takes_of rfl rfl rfl rfl)) (hp := rfl) (hmx := by decide) (hdd := fun _ => .nil) (hkw := ek_cons (ee_var 2) (ek_cons (ee_var 0) (ek_nil)))) (ea_cons (ee_callP0 (F := G_load) (hr := hr.mono (by decide)) (hm := glo_load hy) (hk := F_load.kp) (hb := ab_load_0_season_lot) (tk := (takes_of rfl rfl rfl rfl)) (hp := rfl) (hmx := by decide) (hdd := fun _ => .nil) (hkw := ek_cons (ee_var 0) (ek_cons (ee_var 2) (ek_nil)))) (ea_nil)))))) (ss_one (ss_set 5 (hN := sc_law_right.nd) (he := en_ee (en_add (ha := ee_var 5) (hb := en_ee (en_lst (ea_cons (ee_callP0 (F := G_want) (hr := hr.mono (by decide)) (hm := glo_want hy) (hk := F_want.kp) (hb := ab_want_0_lot_season) (tk := (takes_of rfl rfl rfl rfl)) (hp := rfl) (hmx := by decide) (hdd := fun _ => .nil) (hkw := ek_cons (ee_var 2) (ek_cons (ee_var 0) (ek_nil)))) (ea_cons (ee_callP0 (F := G_bear) (hr := hr.mono (by decide)) (hm := glo_bear hy) (hk := F_bear.kp) (hb := ab_bear_0_season_lot) (tk := (takes_of rfl rfl rfl rfl)) (hp := rfl) (hmx := by decide) (hdd := fun _ => .nil) (hkw := ek_cons (ee_var 0) (ek_cons (ee_var 2) (ek_nil)))) (ea_nil)))))))))) (ss_one (ss_set 5 (hN := sc_law_right.nd) (he := en_ee (en_lst (ea_cons (ee_callP (F := G_gain) (hr := hr.mono (by decide)) (hm := glo_gain hy) (hk := F_gain.kp) (hb := ab_gain_2_) (tk := (takes_of rfl rfl rfl rfl)) (hp := rfl) (hmx := by decide) (hdd := fun _ => .nil) (ha := ea_cons (ee_var 0) (ea_cons (ee_var 2) (ea_nil))) (hkw := ek_nil)) (ea_cons (ee_callP (F := G_load) (hr := hr.mono (by decide)) (hm := glo_load hy) (hk := F_load.kp) (hb := ab_load_2_) (tk := (takes_of rfl rfl rfl rfl)) (hp := rfl) (hmx := by decide) (hdd := fun _ => .nil) (ha := ea_cons (ee_var 0) (ea_cons (ee_var 2) (ea_nil))) (hkw := ek_nil)) (ea_cons (ee_callP (F := G_want) (hr := hr.mono (by decide)) (hm := glo_want hy) (hk := F_want.kp) (hb := ab_want_2_) (tk := (takes_of rfl rfl rfl rfl)) (hp := rfl) (hmx := by decide) (hdd := fun _ => .nil) (ha := ea_cons (ee_var 0) (ea_cons (ee_var 2) (ea_nil))) (hkw := ek_nil)) (ea_cons (ee_callP (F := G_bear) (hr := hr.mono (by decide)) (hm := glo_bear hy) (hk := F_bear.kp) (hb := ab_bear_2_) (tk := (takes_of rfl rfl rfl rfl)) (hp := rfl) (hmx := by decide) (hdd := fun _ => .nil) (ha := ea_cons (ee_var 0) (ea_cons (ee_var 2) (ea_nil))) (hkw := ek_nil)) (ea_nil)))))))))) (ss_cons (ss_if (eb_ne (hr := hr) (ha := en_ee (en_callT (hc := call_list_of) (h := (o_list rfl)) (hm := (free_list hy)) (hv := by decide +kernel) (ha := ea_cons (ee_var 2) (ea_nil)))) (hb := ee_var 4)) (ss_one (ss_ret (ee_bl))) (ss_nil)) (ss_cons (ss_if (eb_w (ew_and (eb_isN (ha := ee_ix (ha := ee_var 1) (hb := ee_int)) (hb := ee_non)) (ew_and1 (eb_notN (ha := ee_ix (ha := ee_var 5) (hb := ee_int)) (hb := ee_non))))) (ss_one (ss_ret (ee_bl))) (ss_nil)) (ss_cons (ss_for (hp := passes_of rfl) (hc := rfl) (hi := ei_range1 (hm := (free_range hy)) (ha := ee_int)) (hg := eg_name 6 sc_law_right.nd) (hb := ss_one (ss_if (eb_w (ew_and (eb_notN (ha := ee_ix (ha := ee_var 1) (hb := ee_var 6)) (hb := ee_non)) (ew_and1 (eb_w (ew_or (eb_not (eb_val (ee_callP (F := G_law_whole) (hr := hr.mono (by decide)) (hm := glo__law_whole hy) (hk := F_law_whole.kp) (hb := ab_law_whole_1_) (tk := (takes_of rfl rfl rfl rfl)) (hp := rfl) (hmx := by decide) (hdd := fun _ => .nil) (ha := ea_cons (ee_ix (ha := ee_var 5) (hb := ee_var 6)) (ea_nil)) (hkw := ek_nil)))) (ew_or1 (eb_ne (hr := hr) (ha := ee_ix (ha := ee_var 5) (hb := ee_var 6)) (hb := ee_ix (ha := ee_var 1) (hb := ee_var 6))))))))) (ss_one (ss_ret (ee_bl))) (ss_nil)))) (ss_one (ss_ret (ee_bl))))))))⟩
end LW
end

section
set_option maxHeartbeats 4000000
namespace LW
open PySem L2 EV
theorem sc_law_both : FnScope ["_law_rule", "_law_due", "_law_shown_here", "_law_form", "_law_copied", "_law_word", "_law_pair", "_law_wants", "_law_bears"] ["_law_rule", "_law_due", "_law_shown_here", "_law_form"] (defScope st_law_both) := ⟨rfl, rfl, rfl, by decide +kernel, rfl, by decide +kernel, by decide +kernel⟩
def g_law_both : FS := gSeq (gSet 4 (vL (nCall listD (aCons (vVar 2) (aNil))))) (gSeq (gSet 5 (v2 ixD (vL (lenOk (aCons (vC (.str "bears")) (aCons (vC (.str "wants")) (aNil))))) (vVar 3))) (gSeq (gSet 6 (vL (lenOk (aCons (vVar 5) (aCons (vVar 2) (aNil)))))) (gSeq (gIf (v2 eqD (vVar 3) (vC (.int 0))) (gSeq (gSet 7 (vCallP 2 0 [0, 1] sem_is_obstacle [] (aCons (vVar 0) (aCons (vTup (aCons (vC (.str "wants")) (aCons (vVar 2) (aNil)))) (aNil))) (aNil))) (gSet 8 (vCallP 0 2 [0, 1] sem_is_obstacle [] aNil (aCons (vVar 0) (aCons (vVar 6) (aNil)))))) (gSeq (gSet 7 (vCallP 0 2 [1, 0] sem_is_obstacle [] aNil (aCons (vVar 6) (aCons (vVar 0) (aNil))))) (gSet 8 (vCallP 2 0 [0, 1] sem_is_obstacle [] (aCons (vVar 0) (aCons (vTup (aCons (vC (.str "bears")) (aCons (vVar 2) (aNil)))) (aNil))) (aNil))))) (gSeq (gIf (vOr (v1 notD (v1 (isD [.bl]) (vVar 7))) (vOr (v1 notD (v1 (isD [.bl]) (vVar 8))) (vOr (v2 neD (vVar 6) (vL (lenOk (aCons (vVar 5) (aCons (vVar 2) (aNil)))))) (v2 neD (vL (nCall listD (aCons (vVar 2) (aNil)))) (vVar 4))))) (gRet (vC (.bl false))) (gNext)) (gSeq (gIf (v2 neD (vVar 7) (v2 gtD (v2 ixD (vVar 1) (vC (.int 2))) (v2 ixD (vVar 1) (vC (.int 0))))) (gRet (vC (.bl false))) (gNext)) (gRet (v2 eqD (vVar 8) (vAnd (v2 notNonD (v2 ixD (vVar 1) (vC (.int 3))) (vC .non)) (v2 gtD (v2 ixD (vVar 1) (vC (.int 1))) (v2 ixD (vVar 1) (vC (.int 3))))))))))))
def sem_law_both : List D → Option R := semF 9 g_law_both
theorem ok_law_both {P : Program} {w : World} {K : PySem.W.Frag} {mg : Str → Option Value} {base : Heap} (hy : Hyp K mg) : ∃ fd, FunD K d_law_both.name d_law_both.qual d_law_both.params d_law_both.body d_law_both.scope (d_law_both.dvs K) (d_law_both.kws K) (He.fAd K d_law_both.at_) fd ∧ FnOk P w K mg base (L2.CX P w) 4 (He.fAd K d_law_both.at_) fd ["_law_rule", "_law_due", "_law_shown_here", "_law_form"] (spF (tab K) 4 (sem_law_both)) := by
  obtain ⟨fd_is_obstacle, F_is_obstacle, G_is_obstacle⟩ := ok_is_obstacle (P := P) (w := w) (base := base) hy
  have ab_is_obstacle_2_ : ArgB K fd_is_obstacle ["season", "value"] 2 [] [] [0, 1] := ArgB.given F_is_obstacle (fun kV doc pm an cdv ct us ws l1 l2 => match us, l1, ws, l2 with | [_, _], _, [], _ => rfl)
  have ab_is_obstacle_0_season_value : ArgB K fd_is_obstacle ["season", "value"] 0 ["season", "value"] [] [0, 1] := ArgB.given F_is_obstacle (fun kV doc pm an cdv ct us ws l1 l2 => match us, l1, ws, l2 with | [], _, [_, _], _ => rfl)
  have ab_is_obstacle_0_value_season : ArgB K fd_is_obstacle ["season", "value"] 0 ["value", "season"] [] [1, 0] := ArgB.given F_is_obstacle (fun kV doc pm an cdv ct us ws l1 l2 => match us, l1, ws, l2 with | [], _, [_, _], _ => rfl)
  obtain ⟨fd, F⟩ := hy.says.fn (36) (d := d_law_both) rfl
  exact ⟨fd, F, fn_ev F sc_law_both fun cdv A outer s H E hr => (ss_cons (ss_set 4 (hN := sc_law_both.nd) (he := en_ee (en_callT (hc := call_list_of) (h := (o_list rfl)) (hm := (free_list hy)) (hv := by decide +kernel) (ha := ea_cons (ee_var 2) (ea_nil))))) (ss_cons (ss_set 5 (hN := sc_law_both.nd) (he := ee_ix (ha := en_ee (en_lst (ea_cons (ee_str) (ea_cons (ee_str) (ea_nil))))) (hb := ee_var 3))) (ss_cons (ss_set 6 (hN := sc_law_both.nd) (he := en_ee (en_lst (ea_cons (ee_var 5) (ea_cons (ee_var 2) (ea_nil)))))) (ss_cons (ss_if (eb_eq (hr := hr) (ha := ee_var 3) (hb := ee_int)) (ss_cons (ss_set 7 (hN := sc_law_both.nd) (he := ee_callP (F := G_is_obstacle) (hr := hr.mono (by decide)) (hm := glo_is_obstacle hy) (hk := F_is_obstacle.kp) (hb := ab_is_obstacle_2_) (tk := (takes_of rfl rfl rfl rfl)) (hp := rfl) (hmx := by decide) (hdd := fun _ => .nil) (ha := ea_cons (ee_var 0) (ea_cons (ee_tup (ea_cons (ee_str) (ea_cons (ee_var 2) (ea_nil)))) (ea_nil))) (hkw := ek_nil))) (ss_one (ss_set 8 (hN := sc_law_both.nd) (he := ee_callP0 (F := G_is_obstacle) (hr := hr.mono (by decide)) (hm := glo_is_obstacle hy) (hk := F_is_obstacle.kp) (hb := ab_is_obstacle_0_season_value) (tk := (takes_of rfl rfl rfl rfl)) (hp := rfl) (hmx := by decide) (hdd := fun _ => .nil) (hkw := ek_cons (ee_var 0) (ek_cons (ee_var 6) (ek_nil))))))) (ss_cons (ss_set 7 (hN := sc_law_both.nd) (he := ee_callP0 (F := G_is_obstacle) (hr := hr.mono (by decide)) (hm := glo_is_obstacle hy) (hk := F_is_obstacle.kp) (hb := ab_is_obstacle_0_value_season) (tk := (takes_of rfl rfl rfl rfl)) (hp := rfl) (hmx := by decide) (hdd := fun _ => .nil) (hkw := ek_cons (ee_var 6) (ek_cons (ee_var 0) (ek_nil))))) (ss_one (ss_set 8 (hN := sc_law_both.nd) (he := ee_callP (F := G_is_obstacle) (hr := hr.mono (by decide)) (hm := glo_is_obstacle hy) (hk := F_is_obstacle.kp) (hb := ab_is_obstacle_2_) (tk := (takes_of rfl rfl rfl rfl)) (hp := rfl) (hmx := by decide) (hdd := fun _ => .nil) (ha := ea_cons (ee_var 0) (ea_cons (ee_tup (ea_cons (ee_str) (ea_cons (ee_var 2) (ea_nil)))) (ea_nil))) (hkw := ek_nil)))))) (ss_cons (ss_if (eb_w (ew_or (eb_not (eb_val (ee_isi .bl (hm := (free_isinstance hy)) (hmy := (free_bool hy)) (hvy := by decide +kernel) (ha := ee_var 7)))) (ew_or (eb_not (eb_val (ee_isi .bl (hm := (free_isinstance hy)) (hmy := (free_bool hy)) (hvy := by decide +kernel) (ha := ee_var 8)))) (ew_or (eb_ne (hr := hr) (ha := ee_var 6) (hb := en_ee (en_lst (ea_cons (ee_var 5) (ea_cons (ee_var 2) (ea_nil)))))) (ew_or1 (eb_ne (hr := hr) (ha := en_ee (en_callT (hc := call_list_of) (h := (o_list rfl)) (hm := (free_list hy)) (hv := by decide +kernel) (ha := ea_cons (ee_var 2) (ea_nil)))) (hb := ee_var 4))))))) (ss_one (ss_ret (ee_bl))) (ss_nil)) (ss_cons (ss_if (eb_ne (hr := hr) (ha := ee_var 7) (hb := ee_gt (ha := ee_ix (ha := ee_var 1) (hb := ee_int)) (hb := ee_ix (ha := ee_var 1) (hb := ee_int)))) (ss_one (ss_ret (ee_bl))) (ss_nil)) (ss_one (ss_ret (ee_eq (hr := hr) (ha := ee_var 8) (hb := ee_and (ee_notN (ha := ee_ix (ha := ee_var 1) (hb := ee_int)) (hb := ee_non)) (ee_one (ee_gt (ha := ee_ix (ha := ee_var 1) (hb := ee_int)) (hb := ee_ix (ha := ee_var 1) (hb := ee_int))))))))))))))⟩
end LW
end

section
set_option maxHeartbeats 4000000
namespace LW
open PySem L2 EV
theorem sc_law_shown : FnScope ["_law_group", "_law_k", "_law_j"] ["_law_group", "_law_k"] (defScope st_law_shown) := ⟨rfl, rfl, rfl, by decide +kernel, rfl, by decide +kernel, by decide +kernel⟩
def g_law_shown : FS := gSeq (gIf (v2 eqD (v2 modD (vCall intD (aCons (vVar 1) (aNil))) (vC (.int 4))) (vC (.int 1))) (gRet (vL (nLc (iRange1 (vCall lenD (aCons (vVar 0) (aNil)))) (nmG 2) (vYes) (v2 ixD (vVar 0) (v2 subD (v2 subD (vCall lenD (aCons (vVar 0) (aNil))) (vC (.int 1))) (vVar 2))) [2]))) (gNext)) (gSeq (gIf (v2 eqD (v2 modD (vCall intD (aCons (vVar 1) (aNil))) (vC (.int 4))) (vC (.int 2))) (gRet (vL (nAdd (vL (nCall listD (aCons (vVar 0) (aNil)))) (vL (nCall listD (aCons (vVar 0) (aNil))))))) (gNext)) (gSeq (gIf (v2 eqD (v2 modD (vCall intD (aCons (vVar 1) (aNil))) (vC (.int 4))) (vC (.int 3))) (gRet (v2 addD (vSlice (vVar 0) (oSome (vC (.int 1))) (oNone)) (vSlice (vVar 0) (oNone) (oSome (vC (.int 2)))))) (gNext)) (gRet (vVar 0))))
def sem_law_shown : List D → Option R := semF 3 g_law_shown
theorem ok_law_shown {P : Program} {w : World} {K : PySem.W.Frag} {mg : Str → Option Value} {base : Heap} (hy : Hyp K mg) : ∃ fd, FunD K d_law_shown.name d_law_shown.qual d_law_shown.params d_law_shown.body d_law_shown.scope (d_law_shown.dvs K) (d_law_shown.kws K) (He.fAd K d_law_shown.at_) fd ∧ FnOk P w K mg base (L2.CX P w) 1 (He.fAd K d_law_shown.at_) fd ["_law_group", "_law_k"] (spF (tab K) 2 (sem_law_shown)) := by
  obtain ⟨fd, F⟩ := hy.says.fn (37) (d := d_law_shown) rfl
  exact ⟨fd, F, fn_ev F sc_law_shown fun cdv A outer s H E hr => (ss_cons (ss_if (eb_eq (hr := hr) (ha := ee_mod (ha := ee_callT (hc := call_int1) (h := o_int) (hm := (free_int hy)) (hv := by decide +kernel) (ha := ea_cons (ee_var 1) (ea_nil))) (hb := ee_int)) (hb := ee_int)) (ss_one (ss_ret (en_ee (en_lc (own := [("_law_j", 2)]) (hc := rfl) (hN := sc_law_shown.nd) (ok := blkOk_by (show blkC ["_law_group", "_law_k", "_law_j"] (defScope st_law_shown) _ [("_law_j", 2)] = true by decide +kernel)) (hsub := by decide) (hi := ei_range1 (hm := (free_range hy)) (ha := ee_callB (hc := call_len_seq) (h := (o_len rfl)) (hm := (free_len hy)) (hv := by decide +kernel) (ha := ea_cons (ee_var 0) (ea_nil)))) (hg := fun _ _ _ _ _ => eg_name 2 sc_law_shown.nd) (ht := fun _ _ _ _ _ => et_nil) (he := fun _ _ _ _ _ => ee_ix (ha := ee_var 0) (hb := ee_sub (ha := ee_sub (ha := ee_callB (hc := call_len_seq) (h := (o_len rfl)) (hm := (free_len hy)) (hv := by decide +kernel) (ha := ea_cons (ee_var 0) (ea_nil))) (hb := ee_int)) (hb := ee_var 2))))))) (ss_nil)) (ss_cons (ss_if (eb_eq (hr := hr) (ha := ee_mod (ha := ee_callT (hc := call_int1) (h := o_int) (hm := (free_int hy)) (hv := by decide +kernel) (ha := ea_cons (ee_var 1) (ea_nil))) (hb := ee_int)) (hb := ee_int)) (ss_one (ss_ret (en_ee (en_add (ha := en_ee (en_callT (hc := call_list_of) (h := (o_list rfl)) (hm := (free_list hy)) (hv := by decide +kernel) (ha := ea_cons (ee_var 0) (ea_nil)))) (hb := en_ee (en_callT (hc := call_list_of) (h := (o_list rfl)) (hm := (free_list hy)) (hv := by decide +kernel) (ha := ea_cons (ee_var 0) (ea_nil)))))))) (ss_nil)) (ss_cons (ss_if (eb_eq (hr := hr) (ha := ee_mod (ha := ee_callT (hc := call_int1) (h := o_int) (hm := (free_int hy)) (hv := by decide +kernel) (ha := ea_cons (ee_var 1) (ea_nil))) (hb := ee_int)) (hb := ee_int)) (ss_one (ss_ret (ee_add (ha := ee_slice (ha := ee_var 0) (hl := (eo_some (ee_int))) (hu := eo_none)) (hb := ee_slice (ha := ee_var 0) (hl := eo_none) (hu := (eo_some (ee_int))))))) (ss_nil)) (ss_one (ss_ret (ee_var 0))))))⟩
end LW
end

section
set_option maxHeartbeats 4000000
namespace LW
open PySem L2 EV
theorem sc_law : FnScope ["_law_script", "_law_choice", "_law_plain", "_law_world_here", "_law_row", "_law_one", "_law_two", "_law_way", "_law_before", "_law_rule", "_law_lots_here", "_law_turn", "_law_k", "_law_old", "_law_due", "_law_form", "_law_mill"] ["_law_script"] (defScope st_law) := ⟨rfl, rfl, rfl, by decide +kernel, rfl, by decide +kernel, by decide +kernel⟩
def g_law : FS := gSeq (gSet 1 (vCall intD (aCons (vCallP 2 0 [0, 1] sem_law_cell [] (aCons (vVar 0) (aCons (vC (.int 3)) (aNil))) (aNil)) (aNil)))) (gSeq (gIf (v2 eqD (v2 modD (vCall intD (aCons (vVar 1) (aNil))) (vC (.int 8))) (vC (.int 1))) (gSet 2 (vCallP 3 0 [0, 1, 2] sem_law_wide [] (aCons (vVar 0) (aCons (vC (.int 0)) (aCons (vC (.int 48)) (aNil)))) (aNil))) (gSet 2 (vCallP 2 0 [0, 1] sem_law_small_world [] (aCons (vVar 0) (aCons (vVar 1) (aNil))) (aNil)))) (gSeq (gSet 3 (vCallP 2 0 [0, 1] sem_law_spoilt [] (aCons (vVar 2) (aCons (vCallP 2 0 [0, 1] sem_law_digits [] (aCons (vCallP 2 0 [0, 1] sem_law_cell [] (aCons (vVar 0) (aCons (vC (.int 2)) (aNil))) (aNil)) (aCons (vL (nAdd (vL (lenOk (aCons (vC (.int 8)) (aNil)))) (vL (nRep (vL (lenOk (aCons (vC (.int 12)) (aCons (vC (.int 24)) (aCons (vC (.int 6)) (aNil)))))) (vC (.int 3)))))) (aNil))) (aNil)) (aNil))) (aNil))) (gSeq (gSet 4 (vCallP 2 0 [0, 1] sem_law_digits [] (aCons (vCallP 2 0 [0, 1] sem_law_cell [] (aCons (vVar 0) (aCons (vC (.int 4)) (aNil))) (aNil)) (aCons (vL (nAdd (vL (nRep (vL (lenOk (aCons (vC (.int 2)) (aNil)))) (vC (.int 144)))) (vL (lenOk (aCons (vC (.int 3)) (aCons (vC (.int 4)) (aCons (vC (.int 4)) (aNil)))))))) (aNil))) (aNil))) (gSeq (gIf (v2 gtD (v2 ixD (vVar 4) (vC (.int 144))) (vC (.int 0))) (gSeq (gSet 5 (vCall tupleD (aCons (vL (nLc (iRange1 (v2 ixD (vVar 3) (vC (.int 0)))) (nmG 16) (v2 eqD (v2 ixD (vVar 4) (vVar 16)) (vC (.int 1))) (vVar 16) [16])) (aNil)))) (gSeq (gSet 6 (vCall tupleD (aCons (vL (nLc (iRange1 (v2 ixD (vVar 3) (vC (.int 0)))) (nmG 16) (v2 eqD (v2 ixD (vVar 4) (v2 addD (vC (.int 24)) (vVar 16))) (vC (.int 1))) (vVar 16) [16])) (aNil)))) (gSet 3 (vCallP 5 0 [0, 1, 2, 3, 4] sem_law_levelled [] (aCons (vVar 3) (aCons (vVar 5) (aCons (vVar 6) (aCons (v2 ixD (vL (lenOk (aCons (vC (.int 1)) (aCons (vC (.int 0)) (aCons (vC (.int 1)) (aCons (v1 negD (vC (.int 1))) (aNil))))))) (v2 ixD (vVar 4) (vC (.int 145)))) (aCons (v2 ixD (vL (lenOk (aCons (vC (.int 1)) (aCons (vC (.int 0)) (aCons (vC (.int 1)) (aCons (v1 negD (vC (.int 1))) (aNil))))))) (v2 ixD (vVar 4) (vC (.int 146)))) (aNil)))))) (aNil))))) (gNext)) (gSeq (gSet 7 (vCall intD (aCons (vCallP 2 0 [0, 1] sem_law_cell [] (aCons (vVar 0) (aCons (vC (.int 5)) (aNil))) (aNil)) (aNil)))) (gSeq (gSet 8 (vCallP 1 0 [0] sem_law_season [] (aCons (vVar 2) (aNil)) (aNil))) (gSeq (gSet 9 (vCallP 3 0 [0, 1, 2] sem_law_sharing [] (aCons (vVar 8) (aCons (vVar 3) (aCons (v2 eqD (v2 modD (vCall intD (aCons (v2 fdivD (vVar 7) (vC (.int 160))) (aNil))) (vC (.int 2))) (vC (.int 1))) (aNil)))) (aNil))) (gSeq (gIf (vOr (v1 notD (vCallP 2 0 [0, 1] sem_law_singles [] (aCons (vVar 9) (aCons (vVar 3) (aNil))) (aNil))) (v1 notD (vCallP 2 0 [0, 1] sem_law_singles [] (aCons (vVar 8) (aCons (vVar 2) (aNil))) (aNil)))) (gRet (vC (.bl false))) (gNext)) (gSeq (gSet 10 (vCallP 2 0 [0, 1] sem_law_lots [] (aCons (v2 ixD (vVar 3) (vC (.int 0))) (aCons (vVar 4) (aNil))) (aNil))) (gSeq (gSet 11 (v2 fdivD (vVar 1) (vC (.int 8)))) (gSeq (gFor (iRange1 (vCall lenD (aCons (vVar 10) (aNil)))) (nmG 12) (gSeq (gSet 13 (vL (nCallP 2 0 [0, 1] semL_law_numbers [] (aCons (vVar 2) (aCons (v2 ixD (vVar 10) (vVar 12)) (aNil))) (aNil)))) (gSeq (gSet 14 (vL (nCallP 2 0 [0, 1] semL_law_numbers [] (aCons (vVar 3) (aCons (v2 ixD (vVar 10) (vVar 12)) (aNil))) (aNil)))) (gSeq (gSet 15 (v2 modD (vCall intD (aCons (v2 addD (v2 fdivD (vVar 7) (vC (.int 16))) (vVar 12)) (aNil))) (vC (.int 2)))) (gSeq (gIf (v1 notD (vCallP 4 0 [0, 1, 2, 3] sem_law_right [] (aCons (vVar 8) (aCons (vVar 13) (aCons (vCallP 2 0 [0, 1] sem_law_shown [] (aCons (v2 ixD (vVar 10) (vVar 12)) (aCons (v2 addD (vVar 11) (vVar 12)) (aNil))) (aNil)) (aCons (vC (.bl false)) (aNil))))) (aNil))) (gRet (vC (.bl false))) (gNext)) (gSeq (gIf (v1 notD (vCallP 4 0 [0, 1, 2, 3] sem_law_both [] (aCons (vVar 9) (aCons (vVar 14) (aCons (vCallP 2 0 [0, 1] sem_law_shown [] (aCons (v2 ixD (vVar 10) (vVar 12)) (aCons (v2 addD (vVar 7) (vVar 12)) (aNil))) (aNil)) (aCons (vVar 15) (aNil))))) (aNil))) (gRet (vC (.bl false))) (gNext)) (gSeq (gIf (v1 notD (vCallP 4 0 [0, 1, 2, 3] sem_law_right [] (aCons (vVar 9) (aCons (vVar 14) (aCons (vCallP 2 0 [0, 1] sem_law_shown [] (aCons (v2 ixD (vVar 10) (vVar 12)) (aCons (v2 addD (v2 fdivD (vVar 11) (vC (.int 4))) (v2 fdivD (vVar 12) (vC (.int 2)))) (aNil))) (aNil)) (aCons (v2 eqD (v2 modD (vCall intD (aCons (vVar 12) (aNil))) (vC (.int 2))) (vC (.int 1))) (aNil))))) (aNil))) (gRet (vC (.bl false))) (gNext)) (gIf (v1 notD (vCallP 4 0 [0, 1, 2, 3] sem_law_both [] (aCons (vVar 8) (aCons (vVar 13) (aCons (vCallP 2 0 [0, 1] sem_law_shown [] (aCons (v2 ixD (vVar 10) (vVar 12)) (aCons (v2 addD (v2 fdivD (vVar 7) (vC (.int 4))) (v2 fdivD (vVar 12) (vC (.int 3)))) (aNil))) (aNil)) (aCons (v2 subD (vC (.int 1)) (vVar 15)) (aNil))))) (aNil))) (gRet (vC (.bl false))) (gNext))))))))) (gSeq (gFor (iRange1 (vCall lenD (aCons (vVar 10) (aNil)))) (nmG 12) (gIf (vOr (v2 eqD (v2 modD (vCall intD (aCons (v2 addD (v2 fdivD (vVar 7) (vC (.int 32))) (vVar 12)) (aNil))) (vC (.int 5))) (vC (.int 0))) (v2 eqD (vVar 12) (v2 subD (vCall lenD (aCons (vVar 10) (aNil))) (vC (.int 1))))) (gIf (v1 notD (vCallP 4 0 [0, 1, 2, 3] sem_law_right [] (aCons (vVar 8) (aCons (vL (nCallP 2 0 [0, 1] semL_law_numbers [] (aCons (vVar 2) (aCons (v2 ixD (vVar 10) (vVar 12)) (aNil))) (aNil))) (aCons (v2 ixD (vVar 10) (vVar 12)) (aCons (vC (.bl true)) (aNil))))) (aNil))) (gRet (vC (.bl false))) (gNext)) (gNext))) (gRet (vAnd (vCallP 2 0 [0, 1] sem_law_singles [] (aCons (vVar 9) (aCons (vVar 3) (aNil))) (aNil)) (vAnd (vCallP 2 0 [0, 1] sem_law_kept [] (aCons (vVar 9) (aCons (vVar 3) (aNil))) (aNil)) (vCallP 2 0 [0, 1] sem_law_kept [] (aCons (vVar 8) (aCons (vVar 2) (aNil))) (aNil)))))))))))))))))
def sem_law : List D → Option R := semF 17 g_law
theorem ok_law {P : Program} {w : World} {K : PySem.W.Frag} {mg : Str → Option Value} {base : Heap} (hy : Hyp K mg) : ∃ fd, FunD K d_law.name d_law.qual d_law.params d_law.body d_law.scope (d_law.dvs K) (d_law.kws K) (He.fAd K d_law.at_) fd ∧ FnOk P w K mg base (L2.CX P w) 7 (He.fAd K d_law.at_) fd ["_law_script"] (spF (tab K) 1 (sem_law)) := by
  obtain ⟨fd_law_cell, F_law_cell, G_law_cell⟩ := ok_law_cell (P := P) (w := w) (base := base) hy
  obtain ⟨fd_law_wide, F_law_wide, G_law_wide⟩ := ok_law_wide (P := P) (w := w) (base := base) hy
  obtain ⟨fd_law_small_world, F_law_small_world, G_law_small_world⟩ := ok_law_small_world (P := P) (w := w) (base := base) hy
  obtain ⟨fd_law_spoilt, F_law_spoilt, G_law_spoilt⟩ := ok_law_spoilt (P := P) (w := w) (base := base) hy
  obtain ⟨fd_law_digits, F_law_digits, G_law_digits⟩ := ok_law_digits (P := P) (w := w) (base := base) hy
  obtain ⟨fd_law_levelled, F_law_levelled, G_law_levelled⟩ := ok_law_levelled (P := P) (w := w) (base := base) hy
  obtain ⟨fd_law_season, F_law_season, G_law_season⟩ := ok_law_season (P := P) (w := w) (base := base) hy
  obtain ⟨fd_law_sharing, F_law_sharing, G_law_sharing⟩ := ok_law_sharing (P := P) (w := w) (base := base) hy
  obtain ⟨fd_law_singles, F_law_singles, G_law_singles⟩ := ok_law_singles (P := P) (w := w) (base := base) hy
  obtain ⟨fd_law_lots, F_law_lots, G_law_lots⟩ := ok_law_lots (P := P) (w := w) (base := base) hy
  obtain ⟨fd_law_numbers, F_law_numbers, GL_law_numbers⟩ := okL_law_numbers (P := P) (w := w) (base := base) hy
  obtain ⟨fd_law_right, F_law_right, G_law_right⟩ := ok_law_right (P := P) (w := w) (base := base) hy
  obtain ⟨fd_law_shown, F_law_shown, G_law_shown⟩ := ok_law_shown (P := P) (w := w) (base := base) hy
  obtain ⟨fd_law_both, F_law_both, G_law_both⟩ := ok_law_both (P := P) (w := w) (base := base) hy
  obtain ⟨fd_law_kept, F_law_kept, G_law_kept⟩ := ok_law_kept (P := P) (w := w) (base := base) hy
  have ab_law_cell_2_ : ArgB K fd_law_cell ["_law_script", "_law_k"] 2 [] [] [0, 1] := ArgB.given F_law_cell (fun kV doc pm an cdv ct us ws l1 l2 => match us, l1, ws, l2 with | [_, _], _, [], _ => rfl)
  have ab_law_wide_3_ : ArgB K fd_law_wide ["_law_script", "_law_at", "_law_upto"] 3 [] [] [0, 1, 2] := ArgB.given F_law_wide (fun kV doc pm an cdv ct us ws l1 l2 => match us, l1, ws, l2 with | [_, _, _], _, [], _ => rfl)
  have ab_law_small_world_2_ : ArgB K fd_law_small_world ["_law_script", "_law_choice"] 2 [] [] [0, 1] := ArgB.given F_law_small_world (fun kV doc pm an cdv ct us ws l1 l2 => match us, l1, ws, l2 with | [_, _], _, [], _ => rfl)
  have ab_law_spoilt_2_ : ArgB K fd_law_spoilt ["_law_world_here", "_law_row"] 2 [] [] [0, 1] := ArgB.given F_law_spoilt (fun kV doc pm an cdv ct us ws l1 l2 => match us, l1, ws, l2 with | [_, _], _, [], _ => rfl)
  have ab_law_digits_2_ : ArgB K fd_law_digits ["_law_cell_here", "_law_sizes"] 2 [] [] [0, 1] := ArgB.given F_law_digits (fun kV doc pm an cdv ct us ws l1 l2 => match us, l1, ws, l2 with | [_, _], _, [], _ => rfl)
  have ab_law_levelled_5_ : ArgB K fd_law_levelled ["_law_world_here", "_law_one", "_law_two", "_law_above", "_law_below"] 5 [] [] [0, 1, 2, 3, 4] := ArgB.given F_law_levelled (fun kV doc pm an cdv ct us ws l1 l2 => match us, l1, ws, l2 with | [_, _, _, _, _], _, [], _ => rfl)
  have ab_law_season_1_ : ArgB K fd_law_season ["_law_world_here"] 1 [] [] [0] := ArgB.given F_law_season (fun kV doc pm an cdv ct us ws l1 l2 => match us, l1, ws, l2 with | [_], _, [], _ => rfl)
  have ab_law_sharing_3_ : ArgB K fd_law_sharing ["_law_rule", "_law_world_here", "_law_sharing_here"] 3 [] [] [0, 1, 2] := ArgB.given F_law_sharing (fun kV doc pm an cdv ct us ws l1 l2 => match us, l1, ws, l2 with | [_, _, _], _, [], _ => rfl)
  have ab_law_singles_2_ : ArgB K fd_law_singles ["_law_rule", "_law_world_here"] 2 [] [] [0, 1] := ArgB.given F_law_singles (fun kV doc pm an cdv ct us ws l1 l2 => match us, l1, ws, l2 with | [_, _], _, [], _ => rfl)
  have ab_law_lots_2_ : ArgB K fd_law_lots ["_law_mills", "_law_row"] 2 [] [] [0, 1] := ArgB.given F_law_lots (fun kV doc pm an cdv ct us ws l1 l2 => match us, l1, ws, l2 with | [_, _], _, [], _ => rfl)
  have ab_law_numbers_2_ : ArgB K fd_law_numbers ["_law_world_here", "_law_group"] 2 [] [] [0, 1] := ArgB.given F_law_numbers (fun kV doc pm an cdv ct us ws l1 l2 => match us, l1, ws, l2 with | [_, _], _, [], _ => rfl)
  have ab_law_right_4_ : ArgB K fd_law_right ["_law_rule", "_law_due", "_law_shown_here", "_law_named"] 4 [] [] [0, 1, 2, 3] := ArgB.given F_law_right (fun kV doc pm an cdv ct us ws l1 l2 => match us, l1, ws, l2 with | [_, _, _, _], _, [], _ => rfl)
  have ab_law_shown_2_ : ArgB K fd_law_shown ["_law_group", "_law_k"] 2 [] [] [0, 1] := ArgB.given F_law_shown (fun kV doc pm an cdv ct us ws l1 l2 => match us, l1, ws, l2 with | [_, _], _, [], _ => rfl)
  have ab_law_both_4_ : ArgB K fd_law_both ["_law_rule", "_law_due", "_law_shown_here", "_law_form"] 4 [] [] [0, 1, 2, 3] := ArgB.given F_law_both (fun kV doc pm an cdv ct us ws l1 l2 => match us, l1, ws, l2 with | [_, _, _, _], _, [], _ => rfl)
  have ab_law_kept_2_ : ArgB K fd_law_kept ["_law_rule", "_law_world_here"] 2 [] [] [0, 1] := ArgB.given F_law_kept (fun kV doc pm an cdv ct us ws l1 l2 => match us, l1, ws, l2 with | [_, _], _, [], _ => rfl)
  obtain ⟨fd, F⟩ := hy.says.fn (38) (d := d_law) rfl
  exact ⟨fd, F, fn_ev F sc_law fun cdv A outer s H E hr => (ss_cons (ss_set 1 (hN := sc_law.nd) (he := ee_callT (hc := call_int1) (h := o_int) (hm := (free_int hy)) (hv := by decide +kernel) (ha := ea_cons (ee_callP (F := G_law_cell) (hr := hr.mono (by decide)) (hm := glo__law_cell hy) (hk := F_law_cell.kp) (hb := ab_law_cell_2_) (tk := (takes_of rfl rfl rfl rfl)) (hp := rfl) (hmx := by decide) (hdd := fun _ => .nil) (ha := ea_cons (ee_var 0) (ea_cons (ee_int) (ea_nil))) (hkw := ek_nil)) (ea_nil)))) (ss_cons (ss_if (eb_eq (hr := hr) (ha := ee_mod (ha := ee_callT (hc := call_int1) (h := o_int) (hm := (free_int hy)) (hv := by decide +kernel) (ha := ea_cons (ee_var 1) (ea_nil))) (hb := ee_int)) (hb := ee_int)) (ss_one (ss_set 2 (hN := sc_law.nd) (he := ee_callP (F := G_law_wide) (hr := hr.mono (by decide)) (hm := glo__law_wide hy) (hk := F_law_wide.kp) (hb := ab_law_wide_3_) (tk := (takes_of rfl rfl rfl rfl)) (hp := rfl) (hmx := by decide) (hdd := fun _ => .nil) (ha := ea_cons (ee_var 0) (ea_cons (ee_int) (ea_cons (ee_int) (ea_nil)))) (hkw := ek_nil)))) (ss_one (ss_set 2 (hN := sc_law.nd) (he := ee_callP (F := G_law_small_world) (hr := hr.mono (by decide)) (hm := glo__law_small_world hy) (hk := F_law_small_world.kp) (hb := ab_law_small_world_2_) (tk := (takes_of rfl rfl rfl rfl)) (hp := rfl) (hmx := by decide) (hdd := fun _ => .nil) (ha := ea_cons (ee_var 0) (ea_cons (ee_var 1) (ea_nil))) (hkw := ek_nil))))) (ss_cons (ss_set 3 (hN := sc_law.nd) (he := ee_callP (F := G_law_spoilt) (hr := hr.mono (by decide)) (hm := glo__law_spoilt hy) (hk := F_law_spoilt.kp) (hb := ab_law_spoilt_2_) (tk := (takes_of rfl rfl rfl rfl)) (hp := rfl) (hmx := by decide) (hdd := fun _ => .nil) (ha := ea_cons (ee_var 2) (ea_cons (ee_callP (F := G_law_digits) (hr := hr.mono (by decide)) (hm := glo__law_digits hy) (hk := F_law_digits.kp) (hb := ab_law_digits_2_) (tk := (takes_of rfl rfl rfl rfl)) (hp := rfl) (hmx := by decide) (hdd := fun _ => .nil) (ha := ea_cons (ee_callP (F := G_law_cell) (hr := hr.mono (by decide)) (hm := glo__law_cell hy) (hk := F_law_cell.kp) (hb := ab_law_cell_2_) (tk := (takes_of rfl rfl rfl rfl)) (hp := rfl) (hmx := by decide) (hdd := fun _ => .nil) (ha := ea_cons (ee_var 0) (ea_cons (ee_int) (ea_nil))) (hkw := ek_nil)) (ea_cons (en_ee (en_add (ha := en_ee (en_lst (ea_cons (ee_int) (ea_nil)))) (hb := en_ee (en_rep (ha := en_ee (en_lst (ea_cons (ee_int) (ea_cons (ee_int) (ea_cons (ee_int) (ea_nil)))))) (hb := ee_int))))) (ea_nil))) (hkw := ek_nil)) (ea_nil))) (hkw := ek_nil))) (ss_cons (ss_set 4 (hN := sc_law.nd) (he := ee_callP (F := G_law_digits) (hr := hr.mono (by decide)) (hm := glo__law_digits hy) (hk := F_law_digits.kp) (hb := ab_law_digits_2_) (tk := (takes_of rfl rfl rfl rfl)) (hp := rfl) (hmx := by decide) (hdd := fun _ => .nil) (ha := ea_cons (ee_callP (F := G_law_cell) (hr := hr.mono (by decide)) (hm := glo__law_cell hy) (hk := F_law_cell.kp) (hb := ab_law_cell_2_) (tk := (takes_of rfl rfl rfl rfl)) (hp := rfl) (hmx := by decide) (hdd := fun _ => .nil) (ha := ea_cons (ee_var 0) (ea_cons (ee_int) (ea_nil))) (hkw := ek_nil)) (ea_cons (en_ee (en_add (ha := en_ee (en_rep (ha := en_ee (en_lst (ea_cons (ee_int) (ea_nil)))) (hb := ee_int))) (hb := en_ee (en_lst (ea_cons (ee_int) (ea_cons (ee_int) (ea_cons (ee_int) (ea_nil)))))))) (ea_nil))) (hkw := ek_nil))) (ss_cons (ss_if (eb_gt (ha := ee_ix (ha := ee_var 4) (hb := ee_int)) (hb := ee_int)) (ss_cons (ss_set 5 (hN := sc_law.nd) (he := ee_callT (hc := call_tuple_of) (h := (o_tuple rfl)) (hm := (free_tuple hy)) (hv := by decide +kernel) (ha := ea_cons (en_ee (en_lc (own := [("_law_mill", 16)]) (hc := rfl) (hN := sc_law.nd) (ok := blkOk_by (show blkC ["_law_script", "_law_choice", "_law_plain", "_law_world_here", "_law_row", "_law_one", "_law_two", "_law_way", "_law_before", "_law_rule", "_law_lots_here", "_law_turn", "_law_k", "_law_old", "_law_due", "_law_form", "_law_mill"] (defScope st_law) _ [("_law_mill", 16)] = true by decide +kernel)) (hsub := by decide) (hi := ei_range1 (hm := (free_range hy)) (ha := ee_ix (ha := ee_var 3) (hb := ee_int))) (hg := fun _ _ _ _ _ => eg_name 16 sc_law.nd) (ht := fun _ _ _ _ _ => et_one (eb_eq (hr := hr) (ha := ee_ix (ha := ee_var 4) (hb := ee_var 16)) (hb := ee_int))) (he := fun _ _ _ _ _ => ee_var 16))) (ea_nil)))) (ss_cons (ss_set 6 (hN := sc_law.nd) (he := ee_callT (hc := call_tuple_of) (h := (o_tuple rfl)) (hm := (free_tuple hy)) (hv := by decide +kernel) (ha := ea_cons (en_ee (en_lc (own := [("_law_mill", 16)]) (hc := rfl) (hN := sc_law.nd) (ok := blkOk_by (show blkC ["_law_script", "_law_choice", "_law_plain", "_law_world_here", "_law_row", "_law_one", "_law_two", "_law_way", "_law_before", "_law_rule", "_law_lots_here", "_law_turn", "_law_k", "_law_old", "_law_due", "_law_form", "_law_mill"] (defScope st_law) _ [("_law_mill", 16)] = true by decide +kernel)) (hsub := by decide) (hi := ei_range1 (hm := (free_range hy)) (ha := ee_ix (ha := ee_var 3) (hb := ee_int))) (hg := fun _ _ _ _ _ => eg_name 16 sc_law.nd) (ht := fun _ _ _ _ _ => et_one (eb_eq (hr := hr) (ha := ee_ix (ha := ee_var 4) (hb := ee_add (ha := ee_int) (hb := ee_var 16))) (hb := ee_int))) (he := fun _ _ _ _ _ => ee_var 16))) (ea_nil)))) (ss_one (ss_set 3 (hN := sc_law.nd) (he := ee_callP (F := G_law_levelled) (hr := hr.mono (by decide)) (hm := glo__law_levelled hy) (hk := F_law_levelled.kp) (hb := ab_law_levelled_5_) (tk := (takes_of rfl rfl rfl rfl)) (hp := rfl) (hmx := by decide) (hdd := fun _ => .nil) (ha := ea_cons (ee_var 3) (ea_cons (ee_var 5) (ea_cons (ee_var 6) (ea_cons (ee_ix (ha := en_ee (en_lst (ea_cons (ee_int) (ea_cons (ee_int) (ea_cons (ee_int) (ea_cons (ee_neg (ee_int)) (ea_nil))))))) (hb := ee_ix (ha := ee_var 4) (hb := ee_int))) (ea_cons (ee_ix (ha := en_ee (en_lst (ea_cons (ee_int) (ea_cons (ee_int) (ea_cons (ee_int) (ea_cons (ee_neg (ee_int)) (ea_nil))))))) (hb := ee_ix (ha := ee_var 4) (hb := ee_int))) (ea_nil)))))) (hkw := ek_nil)))))) (ss_nil)) (ss_cons (ss_set 7 (hN := sc_law.nd) (he := ee_callT (hc := call_int1) (h := o_int) (hm := (free_int hy)) (hv := by decide +kernel) (ha := ea_cons (ee_callP (F := G_law_cell) (hr := hr.mono (by decide)) (hm := glo__law_cell hy) (hk := F_law_cell.kp) (hb := ab_law_cell_2_) (tk := (takes_of rfl rfl rfl rfl)) (hp := rfl) (hmx := by decide) (hdd := fun _ => .nil) (ha := ea_cons (ee_var 0) (ea_cons (ee_int) (ea_nil))) (hkw := ek_nil)) (ea_nil)))) (ss_cons (ss_set 8 (hN := sc_law.nd) (he := ee_callP (F := G_law_season) (hr := hr.mono (by decide)) (hm := glo__law_season hy) (hk := F_law_season.kp) (hb := ab_law_season_1_) (tk := (takes_of rfl rfl rfl rfl)) (hp := rfl) (hmx := by decide) (hdd := fun _ => .nil) (ha := ea_cons (ee_var 2) (ea_nil)) (hkw := ek_nil))) (ss_cons (ss_set 9 (hN := sc_law.nd) (he := ee_callP (F := G_law_sharing) (hr := hr.mono (by decide)) (hm := glo__law_sharing hy) (hk := F_law_sharing.kp) (hb := ab_law_sharing_3_) (tk := (takes_of rfl rfl rfl rfl)) (hp := rfl) (hmx := by decide) (hdd := fun _ => .nil) (ha := ea_cons (ee_var 8) (ea_cons (ee_var 3) (ea_cons (ee_eq (hr := hr) (ha := ee_mod (ha := ee_callT (hc := call_int1) (h := o_int) (hm := (free_int hy)) (hv := by decide +kernel) (ha := ea_cons (ee_fdiv (ha := ee_var 7) (hb := ee_int)) (ea_nil))) (hb := ee_int)) (hb := ee_int)) (ea_nil)))) (hkw := ek_nil))) (ss_cons (ss_if (eb_w (ew_or (eb_not (eb_val (ee_callP (F := G_law_singles) (hr := hr.mono (by decide)) (hm := glo__law_singles hy) (hk := F_law_singles.kp) (hb := ab_law_singles_2_) (tk := (takes_of rfl rfl rfl rfl)) (hp := rfl) (hmx := by decide) (hdd := fun _ => .nil) (ha := ea_cons (ee_var 9) (ea_cons (ee_var 3) (ea_nil))) (hkw := ek_nil)))) (ew_or1 (eb_not (eb_val (ee_callP (F := G_law_singles) (hr := hr.mono (by decide)) (hm := glo__law_singles hy) (hk := F_law_singles.kp) (hb := ab_law_singles_2_) (tk := (takes_of rfl rfl rfl rfl)) (hp := rfl) (hmx := by decide) (hdd := fun _ => .nil) (ha := ea_cons (ee_var 8) (ea_cons (ee_var 2) (ea_nil))) (hkw := ek_nil))))))) (ss_one (ss_ret (ee_bl))) (ss_nil)) (ss_cons (ss_set 10 (hN := sc_law.nd) (he := ee_callP (F := G_law_lots) (hr := hr.mono (by decide)) (hm := glo__law_lots hy) (hk := F_law_lots.kp) (hb := ab_law_lots_2_) (tk := (takes_of rfl rfl rfl rfl)) (hp := rfl) (hmx := by decide) (hdd := fun _ => .nil) (ha := ea_cons (ee_ix (ha := ee_var 3) (hb := ee_int)) (ea_cons (ee_var 4) (ea_nil))) (hkw := ek_nil))) (ss_cons (ss_set 11 (hN := sc_law.nd) (he := ee_fdiv (ha := ee_var 1) (hb := ee_int))) (ss_cons (ss_for (hp := passes_of rfl) (hc := rfl) (hi := ei_range1 (hm := (free_range hy)) (ha := ee_callB (hc := call_len_seq) (h := (o_len rfl)) (hm := (free_len hy)) (hv := by decide +kernel) (ha := ea_cons (ee_var 10) (ea_nil)))) (hg := eg_name 12 sc_law.nd) (hb := ss_cons (ss_set 13 (hN := sc_law.nd) (he := en_ee (en_callP (F := GL_law_numbers) (hr := hr.mono (by decide)) (hm := glo__law_numbers hy) (hk := F_law_numbers.kp) (hb := ab_law_numbers_2_) (tk := (takes_of rfl rfl rfl rfl)) (hp := rfl) (hmx := by decide) (hdd := fun _ => .nil) (ha := ea_cons (ee_var 2) (ea_cons (ee_ix (ha := ee_var 10) (hb := ee_var 12)) (ea_nil))) (hkw := ek_nil)))) (ss_cons (ss_set 14 (hN := sc_law.nd) (he := en_ee (en_callP (F := GL_law_numbers) (hr := hr.mono (by decide)) (hm := glo__law_numbers hy) (hk := F_law_numbers.kp) (hb := ab_law_numbers_2_) (tk := (takes_of rfl rfl rfl rfl)) (hp := rfl) (hmx := by decide) (hdd := fun _ => .nil) (ha := ea_cons (ee_var 3) (ea_cons (ee_ix (ha := ee_var 10) (hb := ee_var 12)) (ea_nil))) (hkw := ek_nil)))) (ss_cons (ss_set 15 (hN := sc_law.nd) (he := ee_mod (ha := ee_callT (hc := call_int1) (h := o_int) (hm := (free_int hy)) (hv := by decide +kernel) (ha := ea_cons (ee_add (ha := ee_fdiv (ha := ee_var 7) (hb := ee_int)) (hb := ee_var 12)) (ea_nil))) (hb := ee_int))) (ss_cons (ss_if (eb_not (eb_val (ee_callP (F := G_law_right) (hr := hr.mono (by decide)) (hm := glo__law_right hy) (hk := F_law_right.kp) (hb := ab_law_right_4_) (tk := (takes_of rfl rfl rfl rfl)) (hp := rfl) (hmx := by decide) (hdd := fun _ => .nil) (ha := ea_cons (ee_var 8) (ea_cons (ee_var 13) (ea_cons (ee_callP (F := G_law_shown) (hr := hr.mono (by decide)) (hm := glo__law_shown hy) (hk := F_law_shown.kp) (hb := ab_law_shown_2_) (tk := (takes_of rfl rfl rfl rfl)) (hp := rfl) (hmx := by decide) (hdd := fun _ => .nil) (ha := ea_cons (ee_ix (ha := ee_var 10) (hb := ee_var 12)) (ea_cons (ee_add (ha := ee_var 11) (hb := ee_var 12)) (ea_nil))) (hkw := ek_nil)) (ea_cons (ee_bl) (ea_nil))))) (hkw := ek_nil)))) (ss_one (ss_ret (ee_bl))) (ss_nil)) (ss_cons (ss_if (eb_not (eb_val (ee_callP (F := G_law_both) (hr := hr.mono (by decide)) (hm := glo__law_both hy) (hk := F_law_both.kp) (hb := ab_law_both_4_) (tk := (takes_of rfl rfl rfl rfl)) (hp := rfl) (hmx := by decide) (hdd := fun _ => .nil) (ha := ea_cons (ee_var 9) (ea_cons (ee_var 14) (ea_cons (ee_callP (F := G_law_shown) (hr := hr.mono (by decide)) (hm := glo__law_shown hy) (hk := F_law_shown.kp) (hb := ab_law_shown_2_) (tk := (takes_of rfl rfl rfl rfl)) (hp := rfl) (hmx := by decide) (hdd := fun _ => .nil) (ha := ea_cons (ee_ix (ha := ee_var 10) (hb := ee_var 12)) (ea_cons (ee_add (ha := ee_var 7) (hb := ee_var 12)) (ea_nil))) (hkw := ek_nil)) (ea_cons (ee_var 15) (ea_nil))))) (hkw := ek_nil)))) (ss_one (ss_ret (ee_bl))) (ss_nil)) (ss_cons (ss_if (eb_not (eb_val (ee_callP (F := G_law_right) (hr := hr.mono (by decide)) (hm := glo__law_right hy) (hk := F_law_right.kp) (hb := ab_law_right_4_) (tk := (takes_of rfl rfl rfl rfl)) (hp := rfl) (hmx := by decide) (hdd := fun _ => .nil) (ha := ea_cons (ee_var 9) (ea_cons (ee_var 14) (ea_cons (ee_callP (F := G_law_shown) (hr := hr.mono (by decide)) (hm := glo__law_shown hy) (hk := F_law_shown.kp) (hb := ab_law_shown_2_) (tk := (takes_of rfl rfl rfl rfl)) (hp := rfl) (hmx := by decide) (hdd := fun _ => .nil) (ha := ea_cons (ee_ix (ha := ee_var 10) (hb := ee_var 12)) (ea_cons (ee_add (ha := ee_fdiv (ha := ee_var 11) (hb := ee_int)) (hb := ee_fdiv (ha := ee_var 12) (hb := ee_int))) (ea_nil))) (hkw := ek_nil)) (ea_cons (ee_eq (hr := hr) (ha := ee_mod (ha := ee_callT (hc := call_int1) (h := o_int) (hm := (free_int hy)) (hv := by decide +kernel) (ha := ea_cons (ee_var 12) (ea_nil))) (hb := ee_int)) (hb := ee_int)) (ea_nil))))) (hkw := ek_nil)))) (ss_one (ss_ret (ee_bl))) (ss_nil)) (ss_one (ss_if (eb_not (eb_val (ee_callP (F := G_law_both) (hr := hr.mono (by decide)) (hm := glo__law_both hy) (hk := F_law_both.kp) (hb := ab_law_both_4_) (tk := (takes_of rfl rfl rfl rfl)) (hp := rfl) (hmx := by decide) (hdd := fun _ => .nil) (ha := ea_cons (ee_var 8) (ea_cons (ee_var 13) (ea_cons (ee_callP (F := G_law_shown) (hr := hr.mono (by decide)) (hm := glo__law_shown hy) (hk := F_law_shown.kp) (hb := ab_law_shown_2_) (tk := (takes_of rfl rfl rfl rfl)) (hp := rfl) (hmx := by decide) (hdd := fun _ => .nil) (ha := ea_cons (ee_ix (ha := ee_var 10) (hb := ee_var 12)) (ea_cons (ee_add (ha := ee_fdiv (ha := ee_var 7) (hb := ee_int)) (hb := ee_fdiv (ha := ee_var 12) (hb := ee_int))) (ea_nil))) (hkw := ek_nil)) (ea_cons (ee_sub (ha := ee_int) (hb := ee_var 15)) (ea_nil))))) (hkw := ek_nil)))) (ss_one (ss_ret (ee_bl))) (ss_nil)))))))))) (ss_cons (ss_for (hp := passes_of rfl) (hc := rfl) (hi := ei_range1 (hm := (free_range hy)) (ha := ee_callB (hc := call_len_seq) (h := (o_len rfl)) (hm := (free_len hy)) (hv := by decide +kernel) (ha := ea_cons (ee_var 10) (ea_nil)))) (hg := eg_name 12 sc_law.nd) (hb := ss_one (ss_if (eb_w (ew_or (eb_eq (hr := hr) (ha := ee_mod (ha := ee_callT (hc := call_int1) (h := o_int) (hm := (free_int hy)) (hv := by decide +kernel) (ha := ea_cons (ee_add (ha := ee_fdiv (ha := ee_var 7) (hb := ee_int)) (hb := ee_var 12)) (ea_nil))) (hb := ee_int)) (hb := ee_int)) (ew_or1 (eb_eq (hr := hr) (ha := ee_var 12) (hb := ee_sub (ha := ee_callB (hc := call_len_seq) (h := (o_len rfl)) (hm := (free_len hy)) (hv := by decide +kernel) (ha := ea_cons (ee_var 10) (ea_nil))) (hb := ee_int)))))) (ss_one (ss_if (eb_not (eb_val (ee_callP (F := G_law_right) (hr := hr.mono (by decide)) (hm := glo__law_right hy) (hk := F_law_right.kp) (hb := ab_law_right_4_) (tk := (takes_of rfl rfl rfl rfl)) (hp := rfl) (hmx := by decide) (hdd := fun _ => .nil) (ha := ea_cons (ee_var 8) (ea_cons (en_ee (en_callP (F := GL_law_numbers) (hr := hr.mono (by decide)) (hm := glo__law_numbers hy) (hk := F_law_numbers.kp) (hb := ab_law_numbers_2_) (tk := (takes_of rfl rfl rfl rfl)) (hp := rfl) (hmx := by decide) (hdd := fun _ => .nil) (ha := ea_cons (ee_var 2) (ea_cons (ee_ix (ha := ee_var 10) (hb := ee_var 12)) (ea_nil))) (hkw := ek_nil))) (ea_cons (ee_ix (ha := ee_var 10) (hb := ee_var 12)) (ea_cons (ee_bl) (ea_nil))))) (hkw := ek_nil)))) (ss_one (ss_ret (ee_bl))) (ss_nil))) (ss_nil)))) (ss_one (ss_ret (ee_and (ee_callP (F := G_law_singles) (hr := hr.mono (by decide)) (hm := glo__law_singles hy) (hk := F_law_singles.kp) (hb := ab_law_singles_2_) (tk := (takes_of rfl rfl rfl rfl)) (hp := rfl) (hmx := by decide) (hdd := fun _ => .nil) (ha := ea_cons (ee_var 9) (ea_cons (ee_var 3) (ea_nil))) (hkw := ek_nil)) (ee_and (ee_callP (F := G_law_kept) (hr := hr.mono (by decide)) (hm := glo__law_kept hy) (hk := F_law_kept.kp) (hb := ab_law_kept_2_) (tk := (takes_of rfl rfl rfl rfl)) (hp := rfl) (hmx := by decide) (hdd := fun _ => .nil) (ha := ea_cons (ee_var 9) (ea_cons (ee_var 3) (ea_nil))) (hkw := ek_nil)) (ee_one (ee_callP (F := G_law_kept) (hr := hr.mono (by decide)) (hm := glo__law_kept hy) (hk := F_law_kept.kp) (hb := ab_law_kept_2_) (tk := (takes_of rfl rfl rfl rfl)) (hp := rfl) (hmx := by decide) (hdd := fun _ => .nil) (ha := ea_cons (ee_var 8) (ea_cons (ee_var 2) (ea_nil))) (hkw := ek_nil))))))))))))))))))))⟩
end LW
end

section
set_option maxHeartbeats 4000000
namespace LW
open PySem L2 EV
local macro_rules | `(tactic| get_elem_tactic_extensible) => `(tactic| first
  | ((with_reducible apply Ev.var); exact rfl)
  | with_reducible exact Ev.c
  | assumption
  | ((with_reducible apply Ev.add) <;> get_elem_tactic_extensible)
  | ((with_reducible apply Ev.sub) <;> get_elem_tactic_extensible)
  | ((with_reducible apply Ev.mulR) <;> get_elem_tactic_extensible)
  | ((with_reducible apply Ev.mulL) <;> get_elem_tactic_extensible)
  | ((with_reducible apply Ev.mod) <;> get_elem_tactic_extensible)
  | ((with_reducible apply Ev.fdiv) <;> get_elem_tactic_extensible)
  | ((with_reducible apply Ev.pow) <;> get_elem_tactic_extensible)
  | ((with_reducible apply Ev.neg) <;> get_elem_tactic_extensible)
  | ((with_reducible apply Ev.lt) <;> get_elem_tactic_extensible)
  | ((with_reducible apply Ev.le) <;> get_elem_tactic_extensible)
  | ((with_reducible apply Ev.gt) <;> get_elem_tactic_extensible)
  | ((with_reducible apply Ev.ge) <;> get_elem_tactic_extensible)
  | ((with_reducible apply Ev.eqI) <;> get_elem_tactic_extensible)
  | ((with_reducible apply Ev.neI) <;> get_elem_tactic_extensible)
  | ((with_reducible apply Ev.isN) <;> get_elem_tactic_extensible)
  | ((with_reducible apply Ev.notN) <;> get_elem_tactic_extensible)
  | ((with_reducible apply Ev.notP) <;> get_elem_tactic_extensible)
  | ((with_reducible apply Ev.andP) <;> get_elem_tactic_extensible)
  | ((with_reducible apply Ev.orP) <;> get_elem_tactic_extensible)
  | ((with_reducible apply Ev.int_) <;> get_elem_tactic_extensible)
  | ((with_reducible apply Ev.intB) <;> get_elem_tactic_extensible)
  | ((with_reducible apply Ev.lenL) <;> get_elem_tactic_extensible)
  | ((with_reducible apply Ev.lenT) <;> get_elem_tactic_extensible)
  | ((with_reducible apply Ev.lenS) <;> get_elem_tactic_extensible)
  | ((with_reducible apply Ev.min_) <;> get_elem_tactic_extensible)
  | ((with_reducible apply Ev.max_) <;> get_elem_tactic_extensible)
  | ((with_reducible apply Ev.abs_) <;> get_elem_tactic_extensible)
  | ((with_reducible apply Ev.tupleL) <;> get_elem_tactic_extensible)
  | ((with_reducible apply Ev.tupleT) <;> get_elem_tactic_extensible)
  | ((with_reducible apply EvL.listL) <;> get_elem_tactic_extensible)
  | ((with_reducible apply EvL.listT) <;> get_elem_tactic_extensible)
  | ((with_reducible apply Ev.ixL) <;> get_elem_tactic_extensible)
  | ((with_reducible apply Ev.ixT) <;> get_elem_tactic_extensible)
  | ((with_reducible apply Ev.ixM) <;> get_elem_tactic_extensible)
  | ((with_reducible apply Ev.ixMT) <;> get_elem_tactic_extensible)
  | ((with_reducible apply Ev.tup) <;> get_elem_tactic_extensible)
  | ((with_reducible apply Ev.vL) <;> get_elem_tactic_extensible)
  | with_reducible exact EvL.nil
  | ((with_reducible apply EvL.cons) <;> get_elem_tactic_extensible)
  | ((with_reducible apply EvL.lenOk) <;> get_elem_tactic_extensible)
  | ((with_reducible apply EvL.range1) <;> get_elem_tactic_extensible)
  | ((with_reducible apply EvL.seqL) <;> get_elem_tactic_extensible)
  | ((with_reducible apply EvL.seqT) <;> get_elem_tactic_extensible)
  | ((with_reducible apply EvL.seqS) <;> get_elem_tactic_extensible)
  | (intro; get_elem_tactic_extensible)
  | exact (show GetElem?.getElem? (List.cons _ _) _ = some _ from rfl)
  | omega
  | (simp only [List.length_map, List.length_append, List.length_replicate, List.length_cons, List.length_nil, List.length_range] <;> omega))
theorem law_cell_ok (ns : List Int) (k : Int) (hk : 0 ≤ k) : ∃ z : Int, sem_law_cell [.scr ns, .int k] = some (.ok (.int z)) := by
  suffices H : Run g_law_cell [.v (.scr ns), .v (.int k), .no, .no] (Ret fun d => ∃ z : Int, d = .int z) by
    obtain ⟨d, h, z, rfl⟩ := sem_ret (n := 4) (ds := [.scr ns, .int k]) H
    exact ⟨z, h⟩
  refine Run.seq (Run.ifP (by get_elem_tactic_extensible) (fun h => ?_) fun h => ?_)
  · refine Run.ret (Ev.ixS (by get_elem_tactic_extensible) (by get_elem_tactic_extensible) hk (at_get hk h)) ⟨_, rfl⟩
  refine Run.next (Run.seq (Run.set (by get_elem_tactic_extensible) ?_))
  refine Run.seq (Run.for (fun _ ρ => ∃ (s : Int) (x : Sl), 0 ≤ s ∧ s < 1000003 ∧ ρ = [.v (.scr ns), .v (.int k), .v (.int s), x]) (by get_elem_tactic_extensible) ⟨17, .no, by omega, by omega, rfl⟩ (fun j d ρ hd hI => ?_) fun ρ hI => ?_)
  · obtain ⟨s, x, s0, s1, rfl⟩ := hI
    rw [List.getElem?_map] at hd
    obtain ⟨c, _, rfl⟩ := Option.map_eq_some_iff.mp hd
    exact ⟨_, rfl, Run.set (by get_elem_tactic_extensible) ⟨_, _, by omega, by omega, rfl⟩⟩
  · obtain ⟨s, x, s0, s1, rfl⟩ := hI
    exact Run.ret (by get_elem_tactic_extensible) ⟨_, rfl⟩

/-- a row of digits -/
def RowOk (row sizes : List Int) : Prop := row.length = sizes.length ∧ ∀ k : Int, 0 ≤ k → k < row.length → 0 ≤ at_ row k ∧ at_ row k < at_ sizes k
theorem at_append {xs : List Int} {x : Int} {k : Int} (h0 : 0 ≤ k) (h : k < xs.length) : at_ (xs ++ [x]) k = at_ xs k := by
  have h1 := at_get h0 h
  unfold at_ at *
  rw [List.getD_eq_getElem?_getD, List.getElem?_append_left (by omega), h1]
  rfl
theorem at_last {xs : List Int} {x : Int} {k : Int} (h : k = xs.length) : at_ (xs ++ [x]) k = x := by
  subst h
  unfold at_
  simp
theorem row_grow {row sizes : List Int} {n : Nat} {z : Int} (h : row.length = n) (hr : ∀ k : Int, 0 ≤ k → k < row.length → 0 ≤ at_ row k ∧ at_ row k < at_ sizes k) (hz : 0 ≤ z ∧ z < at_ sizes n) : (row ++ [z]).length = n + 1 ∧ ∀ k : Int, 0 ≤ k → k < (row ++ [z]).length → 0 ≤ at_ (row ++ [z]) k ∧ at_ (row ++ [z]) k < at_ sizes k := by
  refine ⟨by simp [h], fun k h0 hl => ?_⟩
  rw [List.length_append, List.length_singleton] at hl
  by_cases hk : k < row.length
  · rw [at_append h0 hk]
    exact hr k h0 hk
  · have e : k = row.length := by omega
    rw [at_last e, e, h]
    exact hz
theorem law_digits_ok (z : Int) (sizes : List Int) (hs : ∀ s ∈ sizes, 0 < s ∧ s < 1073741824) (hl : sizes.length ≤ 1000) : ∃ row : List Int, sem_law_digits [.int z, .lst (sizes.map D.int)] = some (.ok (.lst (row.map D.int))) ∧ RowOk row sizes := by
  suffices H : Run g_law_digits [.v (.int z), .v (.lst (sizes.map D.int)), .no, .no, .no, .no, .no, .no] (Ret fun d => ∃ row : List Int, d = .lst (row.map D.int) ∧ RowOk row sizes) by
    obtain ⟨d, h, row, rfl, q⟩ := sem_ret (n := 8) (ds := [.int z, .lst (sizes.map D.int)]) H
    exact ⟨row, h, q⟩
  have at_s : ∀ k : Nat, k < sizes.length → 0 < at_ sizes k ∧ at_ sizes k < 1073741824 := fun k hk => hs _ (at_mem (by omega) (by omega))
  refine Run.seq (Run.own (ds := []) (by get_elem_tactic_extensible) (by simp) (Run.seq (Run.set (by get_elem_tactic_extensible) (Run.seq (Run.ifP (by get_elem_tactic_extensible) (fun h => ?_) fun h => ?_)))))
  · refine Run.seq (Run.set (by get_elem_tactic_extensible) (Run.seq (Run.for (fun n ρ => ∃ (row : List Int) (r : Int) (x : Sl), row.length = n ∧ (∀ k : Int, 0 ≤ k → k < row.length → 0 ≤ at_ row k ∧ at_ row k < at_ sizes k) ∧
      ρ = [.v (.int z), .v (.lst (sizes.map D.int)), .own (row.map D.int), .v (.int r), x, .no, .no, .no]) (by get_elem_tactic_extensible) ⟨[], _, .no, rfl, fun k h0 h1 => by simp at h1; omega, rfl⟩ (fun j d ρ hd hI => ?_) fun ρ hI => ?_)))
    · obtain ⟨row, r, x, e1, e2, rfl⟩ := hI
      rw [List.getElem?_map] at hd
      obtain ⟨c, hc, rfl⟩ := Option.map_eq_some_iff.mp hd
      have hj := (List.getElem?_eq_some_iff.mp hc).1
      have hb := at_s j hj
      have ec : at_ sizes j = c := by
        have := at_get (xs := sizes) (i := (j : Int)) (by omega) (by omega)
        rw [show ((j : Int)).toNat = j by omega, hc] at this
        exact (Option.some.inj this).symm
      rw [ec] at hb
      have g0 := Int.emod_nonneg r (show c ≠ 0 by omega)
      have g1 := Int.emod_lt_of_pos r hb.1
      refine ⟨_, rfl, Run.seq (Run.app (d := .int (r % c)) rfl (by get_elem_tactic_extensible) (by simp; omega) (Run.set (by get_elem_tactic_extensible) ?_))⟩
      obtain ⟨q1, q2⟩ := row_grow e1 e2 (z := r % c) (by rw [ec]; omega)
      exact ⟨row ++ [r % c], _, _, q1, q2, by rw [List.map_append]; rfl⟩
    · obtain ⟨row, r, x, e1, e2, rfl⟩ := hI
      refine Run.rel (Run.ret (by get_elem_tactic_extensible) ⟨row, rfl, by rw [e1, List.length_map], e2⟩)
  · refine Run.next (Run.seq (Run.set (by get_elem_tactic_extensible) (Run.seq (Run.for (fun n ρ => ∃ (row : List Int) (s : Int) (x y : Sl), 0 ≤ s ∧ s < 2147483647 ∧ row.length = n ∧ (∀ k : Int, 0 ≤ k → k < row.length → 0 ≤ at_ row k ∧ at_ row k < at_ sizes k) ∧
      ρ = [.v (.int z), .v (.lst (sizes.map D.int)), .own (row.map D.int), .v (.int z), .no, .v (.int s), x, y]) (EvL.range1 (Ev.lenL (Ev.var rfl)) (by rw [List.length_map]; omega)) ⟨[], _, .no, .no, by omega, by omega, rfl, fun k h0 h1 => by simp at h1; omega, rfl⟩ (fun j d ρ hd hI => ?_) fun ρ hI => ?_))))
    · obtain ⟨row, s, x, y, s0, s1, e1, e2, rfl⟩ := hI
      obtain ⟨rfl, hj⟩ := range0_get hd
      have hj : j < sizes.length := by rw [List.length_map] at hj; omega
      have hb := at_s j hj
      refine ⟨_, rfl, Run.seq (Run.set (by get_elem_tactic_extensible) (Run.seq (Run.set (by get_elem_tactic_extensible) ?_)))⟩
      have w0 := Int.emod_nonneg ((s * 48271 + 974711 * (j : Int) + 12345) % 2147483647 * ((s * 48271 + 974711 * (j : Int) + 12345) % 2147483647 / 65537 + 3) % 2147483629 / 19) (show at_ sizes j ≠ 0 by omega)
      have w1 := Int.emod_lt_of_pos ((s * 48271 + 974711 * (j : Int) + 12345) % 2147483647 * ((s * 48271 + 974711 * (j : Int) + 12345) % 2147483647 / 65537 + 3) % 2147483629 / 19) hb.1
      refine Run.app rfl (by get_elem_tactic_extensible) (by simp; omega) ?_
      obtain ⟨q1, q2⟩ := row_grow e1 e2 ⟨w0, w1⟩
      exact ⟨_, (s * 48271 + 974711 * (j : Int) + 12345) % 2147483647, _, _, by omega, by omega, q1, q2, by rw [List.map_append]; rfl⟩
    · obtain ⟨row, s, x, y, s0, s1, e1, e2, rfl⟩ := hI
      refine Run.rel (Run.ret (by get_elem_tactic_extensible) ⟨row, rfl, by rw [e1, rangeD_length]; simp, e2⟩)
end LW
end

section
set_option maxHeartbeats 4000000
namespace LW
open PySem L2 EV
local macro_rules | `(tactic| get_elem_tactic_extensible) => `(tactic| first
  | ((with_reducible apply Ev.var); exact rfl)
  | with_reducible exact Ev.c
  | assumption
  | ((with_reducible apply Ev.add) <;> get_elem_tactic_extensible)
  | ((with_reducible apply Ev.sub) <;> get_elem_tactic_extensible)
  | ((with_reducible apply Ev.mulR) <;> get_elem_tactic_extensible)
  | ((with_reducible apply Ev.mulL) <;> get_elem_tactic_extensible)
  | ((with_reducible apply Ev.mod) <;> get_elem_tactic_extensible)
  | ((with_reducible apply Ev.fdiv) <;> get_elem_tactic_extensible)
  | ((with_reducible apply Ev.pow) <;> get_elem_tactic_extensible)
  | ((with_reducible apply Ev.neg) <;> get_elem_tactic_extensible)
  | ((with_reducible apply Ev.lt) <;> get_elem_tactic_extensible)
  | ((with_reducible apply Ev.le) <;> get_elem_tactic_extensible)
  | ((with_reducible apply Ev.gt) <;> get_elem_tactic_extensible)
  | ((with_reducible apply Ev.ge) <;> get_elem_tactic_extensible)
  | ((with_reducible apply Ev.eqI) <;> get_elem_tactic_extensible)
  | ((with_reducible apply Ev.neI) <;> get_elem_tactic_extensible)
  | ((with_reducible apply Ev.isN) <;> get_elem_tactic_extensible)
  | ((with_reducible apply Ev.notN) <;> get_elem_tactic_extensible)
  | ((with_reducible apply Ev.notP) <;> get_elem_tactic_extensible)
  | ((with_reducible apply Ev.andP) <;> get_elem_tactic_extensible)
  | ((with_reducible apply Ev.orP) <;> get_elem_tactic_extensible)
  | ((with_reducible apply Ev.int_) <;> get_elem_tactic_extensible)
  | ((with_reducible apply Ev.intB) <;> get_elem_tactic_extensible)
  | ((with_reducible apply Ev.lenL) <;> get_elem_tactic_extensible)
  | ((with_reducible apply Ev.lenT) <;> get_elem_tactic_extensible)
  | ((with_reducible apply Ev.lenS) <;> get_elem_tactic_extensible)
  | ((with_reducible apply Ev.min_) <;> get_elem_tactic_extensible)
  | ((with_reducible apply Ev.max_) <;> get_elem_tactic_extensible)
  | ((with_reducible apply Ev.abs_) <;> get_elem_tactic_extensible)
  | ((with_reducible apply Ev.tupleL) <;> get_elem_tactic_extensible)
  | ((with_reducible apply Ev.tupleT) <;> get_elem_tactic_extensible)
  | ((with_reducible apply EvL.listL) <;> get_elem_tactic_extensible)
  | ((with_reducible apply EvL.listT) <;> get_elem_tactic_extensible)
  | ((with_reducible apply Ev.ixL) <;> get_elem_tactic_extensible)
  | ((with_reducible apply Ev.ixT) <;> get_elem_tactic_extensible)
  | ((with_reducible apply Ev.ixM) <;> get_elem_tactic_extensible)
  | ((with_reducible apply Ev.ixMT) <;> get_elem_tactic_extensible)
  | ((with_reducible apply Ev.tup) <;> get_elem_tactic_extensible)
  | ((with_reducible apply Ev.vL) <;> get_elem_tactic_extensible)
  | with_reducible exact EvL.nil
  | ((with_reducible apply EvL.cons) <;> get_elem_tactic_extensible)
  | ((with_reducible apply EvL.lenOk) <;> get_elem_tactic_extensible)
  | ((with_reducible apply EvL.range1) <;> get_elem_tactic_extensible)
  | ((with_reducible apply EvL.seqL) <;> get_elem_tactic_extensible)
  | ((with_reducible apply EvL.seqT) <;> get_elem_tactic_extensible)
  | ((with_reducible apply EvL.seqS) <;> get_elem_tactic_extensible)
  | (intro; get_elem_tactic_extensible)
  | exact (show GetElem?.getElem? (List.cons _ _) _ = some _ from rfl)
  | omega
  | (simp only [List.length_map, List.length_append, List.length_replicate, List.length_cons, List.length_nil, List.length_range] <;> omega))
def pairD (p : Int × Int) : D := .tup [.int p.1, .int p.2]
def PairsOk (mills : Int) (ps : List (Int × Int)) : Prop := ∀ p ∈ ps, 0 ≤ p.1 ∧ p.1 < mills ∧ 0 ≤ p.2 ∧ p.2 < mills ∧ p.1 ≠ p.2
theorem PairsOk.snoc {mills : Int} {ps : List (Int × Int)} {p : Int × Int} (h : PairsOk mills ps) (hp : 0 ≤ p.1 ∧ p.1 < mills ∧ 0 ≤ p.2 ∧ p.2 < mills ∧ p.1 ≠ p.2) : PairsOk mills (ps ++ [p]) := fun q hq => by
  rcases List.mem_append.mp hq with hq | hq
  · exact h q hq
  · rw [List.mem_singleton.mp hq]; exact hp
/-- the second end is another one -/
theorem mod_ne {a b m : Int} (ha : 0 ≤ a ∧ a < m) (hb : 0 ≤ b ∧ b < m - 1) : 0 ≤ (a + 1 + b) % m ∧ (a + 1 + b) % m < m ∧ a ≠ (a + 1 + b) % m := by
  have h0 := Int.emod_nonneg (a + 1 + b) (show m ≠ 0 by omega)
  have h1 := Int.emod_lt_of_pos (a + 1 + b) (show 0 < m by omega)
  refine ⟨h0, h1, fun e => ?_⟩
  by_cases h : a + 1 + b < m
  · rw [Int.emod_eq_of_lt (by omega) h] at e
    omega
  · have e2 : (a + 1 + b) % m = a + 1 + b - m := by
      have := Int.sub_emod_right (a + 1 + b) m
      rw [← Int.emod_eq_of_lt (a := a + 1 + b - m) (b := m) (by omega) (by omega), Int.sub_emod_right]
    rw [e2] at e
    omega
def tbMills : List D := (List.replicate 2 [.int 3, .int 3, .int 4, .int 2, .int 4, .int 3, .int 5, .int 3, .int 4, .int 3, .int 2, .int 4]).flatten
def tbMany : List D := (List.replicate 2 [.int 4, .int 5, .int 3, .int 6, .int 5, .int 4, .int 7, .int 5, .int 4, .int 6, .int 5, .int 2]).flatten
theorem law_valley_ok (row : List Int) (upto : Int) (hu : 0 ≤ upto) (hl : row.length = 17) (r0 : 0 ≤ at_ row 0 ∧ at_ row 0 < 24) (r1 : 0 ≤ at_ row 1 ∧ at_ row 1 < 24) : ∃ (mills : Int) (ps : List (Int × Int)), sem_law_valley [.lst (row.map D.int), .int upto] = some (.ok (.lst [.int mills, .lst (ps.map pairD), .int (at_ row 2)])) ∧ 1 ≤ mills ∧ mills ≤ 5 ∧ ps.length ≤ 7 ∧ PairsOk mills ps := by
  suffices H : Run g_law_valley [.v (.lst (row.map D.int)), .v (.int upto), .no, .no, .no, .no, .no, .no] (Ret fun d => ∃ (mills : Int) (ps : List (Int × Int)), d = .lst [.int mills, .lst (ps.map pairD), .int (at_ row 2)] ∧ 1 ≤ mills ∧ mills ≤ 5 ∧ ps.length ≤ 7 ∧ PairsOk mills ps) by
    obtain ⟨d, h, mills, ps, rfl, q⟩ := sem_ret (n := 8) (ds := [.lst (row.map D.int), .int upto]) H
    exact ⟨mills, ps, h, q⟩
  have lm : tbMills.length = 24 := rfl
  have lk : tbMany.length = 24 := rfl
  obtain ⟨m, hm, pm⟩ := tbl_get (tb := tbMills) (fun m => decide (2 ≤ m ∧ m ≤ 5)) (by decide) (i := at_ row 0 % 24) (by omega)
  obtain ⟨k, hk, pk⟩ := tbl_get (tb := tbMany) (fun m => decide (2 ≤ m ∧ m ≤ 7)) (by decide) (i := at_ row 1 % 24) (by omega)
  have pm := of_decide_eq_true pm
  have pk := of_decide_eq_true pk
  refine Run.cut (fun ρ => ρ = [.v (.lst (row.map D.int)), .v (.int upto), .v (.int m), .no, .no, .no, .no, .no]) (Run.set (Ev.ixL (ds := tbMills) (i := at_ row 0 % 24) (Ev.vL (EvL.rep (i := 2) (ds := [.int 3, .int 3, .int 4, .int 2, .int 4, .int 3, .int 5, .int 3, .int 4, .int 3, .int 2, .int 4]) (by get_elem_tactic_extensible) (by get_elem_tactic_extensible) (by simp))) (by get_elem_tactic_extensible) (by omega) hm) ⟨_, rfl, rfl⟩) fun ρ hρ => ?_
  subst hρ
  refine Run.cut (fun ρ => ∃ m, 1 ≤ m ∧ m ≤ 5 ∧ ρ = [.v (.lst (row.map D.int)), .v (.int upto), .v (.int m), .no, .no, .no, .no, .no]) (Run.ifP (by get_elem_tactic_extensible) (fun h => Run.set (by get_elem_tactic_extensible) ⟨_, rfl, 1, by omega, by omega, rfl⟩) fun h => Run.next ⟨_, rfl, m, by omega, by omega, rfl⟩) fun ρ hρ => ?_
  clear hm pm
  obtain ⟨m, m1, m5, rfl⟩ := hρ
  refine Run.cut (fun ρ => ρ = [.v (.lst (row.map D.int)), .v (.int upto), .v (.int m), .v (.int k), .no, .no, .no, .no]) (Run.set (Ev.ixL (ds := tbMany) (i := at_ row 1 % 24) (Ev.vL (EvL.rep (i := 2) (ds := [.int 4, .int 5, .int 3, .int 6, .int 5, .int 4, .int 7, .int 5, .int 4, .int 6, .int 5, .int 2]) (by get_elem_tactic_extensible) (by get_elem_tactic_extensible) (by simp))) (by get_elem_tactic_extensible) (by omega) hk) ⟨_, rfl, rfl⟩) fun ρ hρ => ?_
  subst hρ
  refine Run.cut (fun ρ => ∃ k, 0 ≤ k ∧ k ≤ 7 ∧ ρ = [.v (.lst (row.map D.int)), .v (.int upto), .v (.int m), .v (.int k), .no, .no, .no, .no]) (Run.ifP (by get_elem_tactic_extensible) (fun h => Run.set (by get_elem_tactic_extensible) ⟨_, rfl, 23 - at_ row 1, by omega, by omega, rfl⟩) fun h => Run.next ⟨_, rfl, k, by omega, by omega, rfl⟩) fun ρ hρ => ?_
  clear hk pk
  obtain ⟨k, k0, k7, rfl⟩ := hρ
  refine Run.seq (Run.own (ds := []) (by get_elem_tactic_extensible) (by simp) ?_)
  refine Run.cut (fun ρ => ∃ (ps : List (Int × Int)) (a b c : Sl), ps.length ≤ 7 ∧ PairsOk m ps ∧ ρ = [.v (.lst (row.map D.int)), .v (.int upto), .v (.int m), .v (.int k), .own (ps.map pairD), a, b, c]) ?_ fun ρ hρ => ?_
  · refine Run.ifP (by get_elem_tactic_extensible) (fun h => ?_) fun h => Run.next ⟨_, rfl, [], .no, .no, .no, by simp, fun p hp => by simp at hp, rfl⟩
    refine Run.for (fun n ρ => ∃ (ps : List (Int × Int)) (a b c : Sl), ps.length = n ∧ PairsOk m ps ∧ ρ = [.v (.lst (row.map D.int)), .v (.int upto), .v (.int m), .v (.int k), .own (ps.map pairD), a, b, c]) (EvL.range1 (Ev.min_ (by get_elem_tactic_extensible) (by get_elem_tactic_extensible)) (by omega)) ⟨[], .no, .no, .no, rfl, fun p hp => by simp at hp, rfl⟩ (fun j d ρ hd hI => ?_) fun ρ hI => ?_
    · obtain ⟨ps, a, b, c, e1, ok, rfl⟩ := hI
      obtain ⟨rfl, hj⟩ := range0_get hd
      have j7 : j < 7 := by omega
      refine ⟨_, rfl, ?_⟩
      generalize ex : at_ row (3 + 2 * (j : Int)) = x
      generalize ey : at_ row (4 + 2 * (j : Int)) = y
      have hx0 := Int.emod_nonneg x (show m ≠ 0 by omega)
      have hx1 := Int.emod_lt_of_pos x (show 0 < m by omega)
      have hy0 := Int.emod_nonneg y (show m - 1 ≠ 0 by omega)
      have hy1 := Int.emod_lt_of_pos y (show 0 < m - 1 by omega)
      obtain ⟨z0, z1, z2⟩ := mod_ne (a := x % m) (b := y % (m - 1)) (m := m) ⟨hx0, hx1⟩ ⟨hy0, hy1⟩
      have eX : Ev (v2 modD (vCall intD (aCons (v2 ixD (vVar 0) (v2 addD (vC (.int 3)) (v2 mulD (vC (.int 2)) (vVar 5)))) (aNil))) (vVar 2)) [.v (.lst (row.map D.int)), .v (.int upto), .v (.int m), .v (.int k), .own (ps.map pairD), .v (.int j), b, c] (.int (x % m)) := by
        rw [← ex]; get_elem_tactic_extensible
      refine Run.seq (Run.set eX (Run.seq (Run.set (d := .int ((x % m + 1 + y % (m - 1)) % m)) (by rw [← ey]; get_elem_tactic_extensible) ?_)))
      refine Run.cut (fun ρ => ∃ f s : Int, 0 ≤ f ∧ f < m ∧ 0 ≤ s ∧ s < m ∧ f ≠ s ∧ ρ = [.v (.lst (row.map D.int)), .v (.int upto), .v (.int m), .v (.int k), .own (ps.map pairD), .v (.int j), .v (.int f), .v (.int s)]) ?_ fun ρ hρ => ?_
      · refine Run.ifP (by get_elem_tactic_extensible) (fun h => ?_) fun h => Run.next ⟨_, rfl, _, _, hx0, hx1, z0, z1, z2, rfl⟩
        obtain ⟨w0, w1, w2⟩ := mod_ne (a := (j : Int)) (b := 0) (m := m) ⟨by omega, h.2⟩ ⟨by omega, by omega⟩
        rw [Int.add_zero] at w0 w1 w2
        exact Run.seq (Run.set (by get_elem_tactic_extensible) (Run.set (by get_elem_tactic_extensible) ⟨_, rfl, (j : Int), _, by omega, h.2, w0, w1, w2, rfl⟩))
      obtain ⟨f, s, f0, f1, s0, s1, ne, rfl⟩ := hρ
      refine Run.cut (fun ρ => ∃ f s : Int, 0 ≤ f ∧ f < m ∧ 0 ≤ s ∧ s < m ∧ f ≠ s ∧ ρ = [.v (.lst (row.map D.int)), .v (.int upto), .v (.int m), .v (.int k), .own (ps.map pairD), .v (.int j), .v (.int f), .v (.int s)]) ?_ fun ρ hρ => ?_
      · refine Run.ifP (by get_elem_tactic_extensible) (fun h => ?_) fun h => Run.next ⟨_, rfl, _, _, f0, f1, s0, s1, ne, rfl⟩
        have hj1 : 1 ≤ j := by omega
        have hm := ok _ (at_mem (xs := ps) (i := (j : Int) - 1) (by omega) (by omega))
        exact Run.seq (Run.setA (d := .int (at_ ps ((j : Int) - 1)).2) (Ev.ixT (ds := [.int (at_ ps ((j : Int) - 1)).1, .int (at_ ps ((j : Int) - 1)).2]) (Ev.ixM (A := pairD) (by get_elem_tactic_extensible) (by get_elem_tactic_extensible) (by omega) (by omega)) (by get_elem_tactic_extensible) (by omega) rfl) rfl
          (Run.setA (d := .int (at_ ps ((j : Int) - 1)).1) (Ev.ixT (ds := [.int (at_ ps ((j : Int) - 1)).1, .int (at_ ps ((j : Int) - 1)).2]) (Ev.ixM (A := pairD) (by get_elem_tactic_extensible) (by get_elem_tactic_extensible) (by omega) (by omega)) (by get_elem_tactic_extensible) (by omega) rfl) rfl
            ⟨_, rfl, _, _, hm.2.2.1, hm.2.2.2.1, hm.1, hm.2.1, Ne.symm hm.2.2.2.2, rfl⟩))
      obtain ⟨f, s, f0, f1, s0, s1, ne, rfl⟩ := hρ
      exact Run.app (xs := ps.map pairD) rfl (by get_elem_tactic_extensible) (by simp; omega) ⟨ps ++ [(f, s)], _, _, _, by simp [e1], ok.snoc ⟨f0, f1, s0, s1, ne⟩, by rw [List.map_append]; rfl⟩
    · obtain ⟨ps, a, b, c, e1, ok, rfl⟩ := hI
      refine ⟨_, rfl, ps, a, b, c, ?_, ok, rfl⟩
      rw [e1, rangeD_length]; omega
  · obtain ⟨ps, a, b, c, p7, ok, rfl⟩ := hρ
    exact Run.rel (Run.ret (by get_elem_tactic_extensible) ⟨m, ps, rfl, m1, m5, p7, ok⟩)
end LW
end

section
set_option maxHeartbeats 4000000
namespace LW
open PySem L2 EV
local macro_rules | `(tactic| get_elem_tactic_extensible) => `(tactic| first
  | ((with_reducible apply Ev.var); exact rfl)
  | with_reducible exact Ev.c
  | assumption
  | ((with_reducible apply Ev.add) <;> get_elem_tactic_extensible)
  | ((with_reducible apply Ev.sub) <;> get_elem_tactic_extensible)
  | ((with_reducible apply Ev.mulR) <;> get_elem_tactic_extensible)
  | ((with_reducible apply Ev.mulL) <;> get_elem_tactic_extensible)
  | ((with_reducible apply Ev.mod) <;> get_elem_tactic_extensible)
  | ((with_reducible apply Ev.fdiv) <;> get_elem_tactic_extensible)
  | ((with_reducible apply Ev.pow) <;> get_elem_tactic_extensible)
  | ((with_reducible apply Ev.neg) <;> get_elem_tactic_extensible)
  | ((with_reducible apply Ev.lt) <;> get_elem_tactic_extensible)
  | ((with_reducible apply Ev.le) <;> get_elem_tactic_extensible)
  | ((with_reducible apply Ev.gt) <;> get_elem_tactic_extensible)
  | ((with_reducible apply Ev.ge) <;> get_elem_tactic_extensible)
  | ((with_reducible apply Ev.eqI) <;> get_elem_tactic_extensible)
  | ((with_reducible apply Ev.neI) <;> get_elem_tactic_extensible)
  | ((with_reducible apply Ev.isN) <;> get_elem_tactic_extensible)
  | ((with_reducible apply Ev.notN) <;> get_elem_tactic_extensible)
  | ((with_reducible apply Ev.notP) <;> get_elem_tactic_extensible)
  | ((with_reducible apply Ev.andP) <;> get_elem_tactic_extensible)
  | ((with_reducible apply Ev.orP) <;> get_elem_tactic_extensible)
  | ((with_reducible apply Ev.int_) <;> get_elem_tactic_extensible)
  | ((with_reducible apply Ev.intB) <;> get_elem_tactic_extensible)
  | ((with_reducible apply Ev.lenL) <;> get_elem_tactic_extensible)
  | ((with_reducible apply Ev.lenT) <;> get_elem_tactic_extensible)
  | ((with_reducible apply Ev.lenS) <;> get_elem_tactic_extensible)
  | ((with_reducible apply Ev.min_) <;> get_elem_tactic_extensible)
  | ((with_reducible apply Ev.max_) <;> get_elem_tactic_extensible)
  | ((with_reducible apply Ev.abs_) <;> get_elem_tactic_extensible)
  | ((with_reducible apply Ev.tupleL) <;> get_elem_tactic_extensible)
  | ((with_reducible apply Ev.tupleT) <;> get_elem_tactic_extensible)
  | ((with_reducible apply EvL.listL) <;> get_elem_tactic_extensible)
  | ((with_reducible apply EvL.listT) <;> get_elem_tactic_extensible)
  | ((with_reducible apply Ev.ixL) <;> get_elem_tactic_extensible)
  | ((with_reducible apply Ev.ixT) <;> get_elem_tactic_extensible)
  | ((with_reducible apply Ev.ixM) <;> get_elem_tactic_extensible)
  | ((with_reducible apply Ev.ixMT) <;> get_elem_tactic_extensible)
  | ((with_reducible apply Ev.tup) <;> get_elem_tactic_extensible)
  | ((with_reducible apply Ev.vL) <;> get_elem_tactic_extensible)
  | with_reducible exact EvL.nil
  | ((with_reducible apply EvL.cons) <;> get_elem_tactic_extensible)
  | ((with_reducible apply EvL.lenOk) <;> get_elem_tactic_extensible)
  | ((with_reducible apply EvL.range1) <;> get_elem_tactic_extensible)
  | ((with_reducible apply EvL.seqL) <;> get_elem_tactic_extensible)
  | ((with_reducible apply EvL.seqT) <;> get_elem_tactic_extensible)
  | ((with_reducible apply EvL.seqS) <;> get_elem_tactic_extensible)
  | (intro; get_elem_tactic_extensible)
  | exact (show GetElem?.getElem? (List.cons _ _) _ = some _ from rfl)
  | omega
  | (simp only [List.length_map, List.length_append, List.length_replicate, List.length_cons, List.length_nil, List.length_range] <;> omega))
theorem range0_map (n : Nat) : rangeD 0 n = (List.range n).map fun k => D.int ((k : Nat) : Int) := by
  unfold rangeD
  congr 1
  funext k
  rw [Int.zero_add]
theorem filterMap_some {α β : Type} (f : α → β) (xs : List α) : xs.filterMap (fun x => some (f x)) = xs.map f := by
  induction xs with
  | nil => rfl
  | cons x xs ih => simp [List.filterMap_cons, ih]
theorem map_zero (n : Nat) : (List.range n).map (fun _ => D.int 0) = (List.replicate n (0 : Int)).map D.int := by
  rw [List.map_replicate]
  apply List.ext_getElem
  · simp
  · intro i h1 h2
    simp
/-- [e for k in range(n)] -/
theorem EvL.lcr {fi : FL} {fe : FE} {v : Nat} {vs : List Nat} {ρ : EV.Env} {n : Nat} (o : Nat → D) (hi : EvL fi ρ (rangeD 0 n)) (hl : n ≤ 90000) (h : ∀ k, k < n → Ev fe ((mask (wipeE ρ vs)).set v (.v (.int (k : Nat)))) (o k)) : EvL (nLc fi (nmG v) vYes fe vs) ρ ((List.range n).map o) := by
  have q := EvL.lc (fi := fi) (fg := nmG v) (ft := vYes) (fe := fe) (vs := vs) (ρ := ρ) (List.range n) (fun k => D.int ((k : Nat) : Int)) (fun k => some (o k)) (by rw [← range0_map]; exact hi) (by simpa using hl) (fun k hk => item_yes rfl (h k (List.mem_range.mp hk)))
  rw [filterMap_some] at q
  exact q
/-- the counts -/
def NNs (n : Nat) (cs : List Int) : Prop := cs.length = n ∧ ∀ c ∈ cs, 0 ≤ c
theorem NNs.at {n : Nat} {cs : List Int} (h : NNs n cs) {k : Int} (h0 : 0 ≤ k) (h1 : k < n) : 0 ≤ at_ cs k := h.2 _ (at_mem h0 (by rw [h.1]; exact h1))
theorem map_set (cs : List Int) (k : Nat) (c : Int) : (cs.map D.int).set k (.int c) = (cs.set k c).map D.int := by rw [List.map_set]
theorem NNs.set {n : Nat} {cs : List Int} (h : NNs n cs) {k : Nat} {c : Int} (hc : 0 ≤ c) : NNs n (cs.set k c) := ⟨by rw [List.length_set]; exact h.1, fun x hx => by
  rcases List.mem_or_eq_of_mem_set hx with hx | hx
  · exact h.2 x hx
  · rw [hx]; exact hc⟩
def Bits (n : Nat) (bs : List Int) : Prop := bs.length = n ∧ ∀ b ∈ bs, b = 0 ∨ b = 1
theorem Bits.at {n : Nat} {bs : List Int} (h : Bits n bs) {k : Int} (h0 : 0 ≤ k) (h1 : k < n) : at_ bs k = 0 ∨ at_ bs k = 1 := h.2 _ (at_mem h0 (by rw [h.1]; exact h1))
theorem law_fed_ok (mills : Int) (ps : List (Int × Int)) (bs : List Int) (S : D) (m1 : 1 ≤ mills) (m2 : mills ≤ 1000) (ok : PairsOk mills ps) (hp : ps.length ≤ 1000) (hb : Bits ps.length bs) (hS : S = .lst (bs.map D.int) ∨ S = .tup (bs.map D.int)) :
    ∃ cs : List Int, sem_law_fed [.int mills, .lst (ps.map pairD), S] = some (.ok (.lst (cs.map D.int))) ∧ NNs mills.toNat cs := by
  suffices H : Run g_law_fed [.v (.int mills), .v (.lst (ps.map pairD)), .v S, .no, .no, .no] (Ret fun d => ∃ cs : List Int, d = .lst (cs.map D.int) ∧ NNs mills.toNat cs) by
    obtain ⟨d, h, cs, rfl, q⟩ := sem_ret (n := 6) (ds := [.int mills, .lst (ps.map pairD), S]) H
    exact ⟨cs, h, q⟩
  have hx : ∀ (ρ : EV.Env) (j : Nat), j < ps.length → ρ[2]? = some (.v S) → ρ[4]? = some (.v (.int j)) → Ev (v2 ixD (vVar 2) (vVar 4)) ρ (.int (at_ bs j)) := fun ρ j hj h2 h4 => by
    rcases hS with rfl | rfl
    · exact Ev.ixM (A := D.int) (Ev.var h2) (Ev.var h4) (by omega) (by rw [hb.1]; omega)
    · exact Ev.ixMT (A := D.int) (Ev.var h2) (Ev.var h4) (by omega) (by rw [hb.1]; omega)
  refine Run.seq (Run.own (EvL.lcr (fun _ => .int 0) (EvL.range1 (by get_elem_tactic_extensible) (by omega)) (by omega) fun k hk => by get_elem_tactic_extensible) (by simp) ?_)
  rw [map_zero]
  refine Run.seq (Run.for (fun n ρ => ∃ (cs : List Int) (a b : Sl), NNs mills.toNat cs ∧ ρ = [.v (.int mills), .v (.lst (ps.map pairD)), .v S, .own (cs.map D.int), a, b]) (EvL.range1 (by get_elem_tactic_extensible) (by rw [List.length_map]; omega)) ⟨List.replicate mills.toNat 0, .no, .no, ⟨by simp, fun c hc => by rw [(List.mem_replicate.mp hc).2]; omega⟩, rfl⟩ (fun j d ρ hd hI => ?_) fun ρ hI => ?_)
  · obtain ⟨cs, a, b, nn, rfl⟩ := hI
    obtain ⟨rfl, hj⟩ := range0_get hd
    have hj : j < ps.length := by rw [List.length_map] at hj; omega
    have hm := ok _ (at_mem (xs := ps) (i := (j : Int)) (by omega) (by omega))
    have hbit := hb.at (k := (j : Int)) (by omega) (by omega)
    have hq : ∃ mi : Int, 0 ≤ mi ∧ mi < mills ∧ [D.int (at_ ps (j : Int)).1, D.int (at_ ps (j : Int)).2][(at_ bs (j : Int)).toNat]? = some (.int mi) := by
      rcases hbit with e | e
      · rw [e]; exact ⟨_, hm.1, hm.2.1, rfl⟩
      · rw [e]; exact ⟨_, hm.2.2.1, hm.2.2.2.1, rfl⟩
    obtain ⟨mi, i0, i1, hi⟩ := hq
    refine ⟨_, rfl, Run.seq (Run.set (d := .int mi) (Ev.ixT (ds := [D.int (at_ ps (j : Int)).1, D.int (at_ ps (j : Int)).2]) (Ev.ixM (A := pairD) (by get_elem_tactic_extensible) (by get_elem_tactic_extensible) (by omega) (by omega)) (hx _ j hj rfl rfl) (by omega) hi) ?_)⟩
    have c0 := nn.at (k := mi) i0 (by omega)
    refine Run.setIxA (xs := cs.map D.int) (k := mi) (d := .int (at_ cs mi + 1)) rfl (Ev.add (Ev.ixM (A := D.int) (by get_elem_tactic_extensible) (by get_elem_tactic_extensible) i0 (by rw [nn.1]; omega)) (by get_elem_tactic_extensible)) rfl (by get_elem_tactic_extensible) i0 (by rw [List.length_map, nn.1]; omega) ⟨cs.set mi.toNat (at_ cs mi + 1), _, _, nn.set (by omega), by rw [map_set]; rfl⟩
  · obtain ⟨cs, a, b, nn, rfl⟩ := hI
    exact Run.rel (Run.ret (by get_elem_tactic_extensible) ⟨cs, rfl, nn⟩)
end LW
end

section
set_option maxHeartbeats 4000000
namespace LW
open PySem L2 EV
local macro_rules | `(tactic| get_elem_tactic_extensible) => `(tactic| first
  | ((with_reducible apply Ev.var); exact rfl)
  | with_reducible exact Ev.c
  | assumption
  | ((with_reducible apply Ev.add) <;> get_elem_tactic_extensible)
  | ((with_reducible apply Ev.sub) <;> get_elem_tactic_extensible)
  | ((with_reducible apply Ev.mulR) <;> get_elem_tactic_extensible)
  | ((with_reducible apply Ev.mulL) <;> get_elem_tactic_extensible)
  | ((with_reducible apply Ev.mod) <;> get_elem_tactic_extensible)
  | ((with_reducible apply Ev.fdiv) <;> get_elem_tactic_extensible)
  | ((with_reducible apply Ev.pow) <;> get_elem_tactic_extensible)
  | ((with_reducible apply Ev.neg) <;> get_elem_tactic_extensible)
  | ((with_reducible apply Ev.lt) <;> get_elem_tactic_extensible)
  | ((with_reducible apply Ev.le) <;> get_elem_tactic_extensible)
  | ((with_reducible apply Ev.gt) <;> get_elem_tactic_extensible)
  | ((with_reducible apply Ev.ge) <;> get_elem_tactic_extensible)
  | ((with_reducible apply Ev.eqI) <;> get_elem_tactic_extensible)
  | ((with_reducible apply Ev.neI) <;> get_elem_tactic_extensible)
  | ((with_reducible apply Ev.isN) <;> get_elem_tactic_extensible)
  | ((with_reducible apply Ev.notN) <;> get_elem_tactic_extensible)
  | ((with_reducible apply Ev.notP) <;> get_elem_tactic_extensible)
  | ((with_reducible apply Ev.andP) <;> get_elem_tactic_extensible)
  | ((with_reducible apply Ev.orP) <;> get_elem_tactic_extensible)
  | ((with_reducible apply Ev.int_) <;> get_elem_tactic_extensible)
  | ((with_reducible apply Ev.intB) <;> get_elem_tactic_extensible)
  | ((with_reducible apply Ev.lenL) <;> get_elem_tactic_extensible)
  | ((with_reducible apply Ev.lenT) <;> get_elem_tactic_extensible)
  | ((with_reducible apply Ev.lenS) <;> get_elem_tactic_extensible)
  | ((with_reducible apply Ev.min_) <;> get_elem_tactic_extensible)
  | ((with_reducible apply Ev.max_) <;> get_elem_tactic_extensible)
  | ((with_reducible apply Ev.abs_) <;> get_elem_tactic_extensible)
  | ((with_reducible apply Ev.tupleL) <;> get_elem_tactic_extensible)
  | ((with_reducible apply Ev.tupleT) <;> get_elem_tactic_extensible)
  | ((with_reducible apply EvL.listL) <;> get_elem_tactic_extensible)
  | ((with_reducible apply EvL.listT) <;> get_elem_tactic_extensible)
  | ((with_reducible apply Ev.ixL) <;> get_elem_tactic_extensible)
  | ((with_reducible apply Ev.ixT) <;> get_elem_tactic_extensible)
  | ((with_reducible apply Ev.ixM) <;> get_elem_tactic_extensible)
  | ((with_reducible apply Ev.ixMT) <;> get_elem_tactic_extensible)
  | ((with_reducible apply Ev.tup) <;> get_elem_tactic_extensible)
  | ((with_reducible apply Ev.vL) <;> get_elem_tactic_extensible)
  | with_reducible exact EvL.nil
  | ((with_reducible apply EvL.cons) <;> get_elem_tactic_extensible)
  | ((with_reducible apply EvL.lenOk) <;> get_elem_tactic_extensible)
  | ((with_reducible apply EvL.range1) <;> get_elem_tactic_extensible)
  | ((with_reducible apply EvL.seqL) <;> get_elem_tactic_extensible)
  | ((with_reducible apply EvL.seqT) <;> get_elem_tactic_extensible)
  | ((with_reducible apply EvL.seqS) <;> get_elem_tactic_extensible)
  | (intro; get_elem_tactic_extensible)
  | exact (show GetElem?.getElem? (List.cons _ _) _ = some _ from rfl)
  | omega
  | (simp only [List.length_map, List.length_append, List.length_replicate, List.length_cons, List.length_nil, List.length_range] <;> omega))
def optD : Option Int → D
  | none => .non
  | some i => .int i
def letD (l : List Int) : D := .tup (l.map D.int)
def Pos (o : Option Int) : Prop := ∀ x, o = some x → 0 ≤ x
def lets4 : List (List Int) := [[0, 1], [0], [1], []]
def optB : D → Bool
  | .non => true
  | .int m => decide (0 ≤ m)
  | _ => false
theorem tblO_get {tb : List D} (h : tb.all optB = true) {i : Int} (hl : i.toNat < tb.length) : ∃ o : Option Int, tb[i.toNat]? = some (optD o) ∧ Pos o := by
  have hm : tb[i.toNat] ∈ tb := List.getElem_mem hl
  have q := List.all_eq_true.mp h _ hm
  rw [List.getElem?_eq_getElem hl]
  generalize tb[i.toNat] = d at q
  cases d with
  | int m => exact ⟨some m, rfl, fun x e => by cases e; exact of_decide_eq_true q⟩
  | non => exact ⟨none, rfl, fun x e => by cases e⟩
  | _ => cases q
theorem Ev.ix2 {fa fb : FE} {ρ : EV.Env} {d0 d1 : D} {P : Prop} {iP : Decidable P} (ha : Ev fa ρ (.lst [d0, d1])) (hb : Ev fb ρ (.int (if decide P then 1 else 0))) : Ev (v2 ixD fa fb) ρ (if P then d1 else d0) := by
  by_cases h : P
  · simp only [h, decide_true, if_true] at *
    exact Ev.ixL ha hb (by omega) rfl
  · simp only [h, decide_false, if_false] at *
    exact Ev.ixL ha hb (by omega) rfl
structure WOk (mills : Int) (ps : List (Int × Int)) (low : List Int) (high : List (Option Int)) (lets : List (List Int)) : Prop where
  m1 : 1 ≤ mills
  m2 : mills ≤ 24
  pl : ps.length ≤ 48
  ok : PairsOk mills ps
  lo : NNs mills.toNat low
  hl : high.length = mills.toNat
  hp : ∀ h ∈ high, Pos h
  ll : lets.length = ps.length
  lp : ∀ l ∈ lets, l ∈ lets4
def wD (mills : Int) (ps : List (Int × Int)) (low : List Int) (high : List (Option Int)) (lets : List (List Int)) (rest : List D) : D := .lst (.int mills :: .lst (ps.map pairD) :: .lst (low.map D.int) :: .lst (high.map optD) :: .lst (lets.map letD) :: rest)
def tbSlack : List D := [.int 0, .int 0, .int 1, .int 0, .int 1, .int 2, .int 0, .int 1]
def tbTop : List D := [.non, .int 1, .non, .int 0, .int 1, .int 2, .int 1, .non]
def tbTop2 : List D := [.int 0, .int 0, .int 0, .int 1]
theorem law_world_ok (mills : Int) (ps : List (Int × Int)) (r2 : Int) (row : List Int) (m1 : 1 ≤ mills) (m5 : mills ≤ 5) (p7 : ps.length ≤ 7) (ok : PairsOk mills ps) (hl : row.length = 25) :
    ∃ low high lets, sem_law_world [.lst [.int mills, .lst (ps.map pairD), .int r2], .lst (row.map D.int)] = some (.ok (wD mills ps low high lets [])) ∧ WOk mills ps low high lets := by
  suffices H : Run g_law_world [.v (.lst [.int mills, .lst (ps.map pairD), .int r2]), .v (.lst (row.map D.int)), .no, .no, .no, .no, .no, .no, .no, .no, .no, .no, .no] (Ret fun d => ∃ low high lets, d = wD mills ps low high lets [] ∧ WOk mills ps low high lets) by
    obtain ⟨d, h, low, high, lets, rfl, q⟩ := sem_ret (n := 13) (ds := [.lst [.int mills, .lst (ps.map pairD), .int r2], .lst (row.map D.int)]) H
    exact ⟨low, high, lets, h, q⟩
  generalize hV : D.lst [.int mills, .lst (ps.map pairD), .int r2] = V
  refine Run.sset (d := .int mills) (by subst hV; get_elem_tactic_extensible) (Run.sset (d := .lst (ps.map pairD)) (by subst hV; get_elem_tactic_extensible) ?_)
  refine Run.sown (EvL.lcr (fun k => .int (at_ row (18 + (k : Int)) % 2)) (EvL.range1 (by get_elem_tactic_extensible) (by rw [List.length_map]; omega)) (by rw [List.length_map]; omega) fun k hk => by
    rw [List.length_map] at hk
    get_elem_tactic_extensible) (by simp) ?_
  have eb : (List.range (Int.toNat ((ps.map pairD).length : Nat))).map (fun k : Nat => D.int (at_ row (18 + (k : Int)) % 2)) = ((List.range ps.length).map fun k : Nat => at_ row (18 + (k : Int)) % 2).map D.int := by
    rw [List.length_map, List.map_map]; rfl
  rw [eb]
  have hb0 : Bits ps.length ((List.range ps.length).map fun k : Nat => at_ row (18 + (k : Int)) % 2) := ⟨by simp, fun b hb => by
    obtain ⟨k, _, rfl⟩ := List.mem_map.mp hb
    omega⟩
  generalize (List.range ps.length).map (fun k : Nat => at_ row (18 + (k : Int)) % 2) = bs0 at hb0 ⊢
  refine Run.cut (fun ρ => ∃ (bs : List Int) (a : Sl), Bits ps.length bs ∧ ρ = [.v V, .v (.lst (row.map D.int)), .v (.int mills), .v (.lst (ps.map pairD)), .own (bs.map D.int), a, .no, .no, .no, .no, .no, .no, .no]) ?_ fun ρ hρ => ?_
  · refine Run.for (fun n ρ => ∃ (bs : List Int) (a : Sl), Bits ps.length bs ∧ ρ = [.v V, .v (.lst (row.map D.int)), .v (.int mills), .v (.lst (ps.map pairD)), .own (bs.map D.int), a, .no, .no, .no, .no, .no, .no, .no]) (EvL.range1 (by get_elem_tactic_extensible) (by rw [List.length_map]; omega)) ⟨bs0, .no, hb0, rfl⟩ (fun j d ρ hd hI => ?_) fun ρ hI => ?_
    · obtain ⟨bs, a, hb, rfl⟩ := hI
      obtain ⟨rfl, hj⟩ := range0_get hd
      have hj : j < ps.length := by rw [List.length_map] at hj; omega
      have set_ok : ∀ (bs : List Int) (v : Int), Bits ps.length bs → (v = 0 ∨ v = 1) → Bits ps.length (bs.set (Int.toNat (j : Int)) v) := fun bs v h hv => ⟨by rw [List.length_set]; exact h.1, fun x hx => by
        rcases List.mem_or_eq_of_mem_set hx with hx | hx
        · exact h.2 x hx
        · rw [hx]; exact hv⟩
      refine ⟨_, rfl, Run.cut (fun ρ => ∃ (bs : List Int), Bits ps.length bs ∧ ρ = [.v V, .v (.lst (row.map D.int)), .v (.int mills), .v (.lst (ps.map pairD)), .own (bs.map D.int), .v (.int j), .no, .no, .no, .no, .no, .no, .no]) ?_ fun ρ hρ => ?_⟩
      · refine Run.ifP (by subst hV; get_elem_tactic_extensible) (fun h => ?_) fun h => Run.next ⟨_, rfl, bs, hb, rfl⟩
        exact Run.setIxA (xs := bs.map D.int) (k := (j : Int)) (d := .int (at_ bs 0)) rfl (Ev.ixM (A := D.int) (by get_elem_tactic_extensible) (by get_elem_tactic_extensible) (by omega) (by rw [hb.1]; omega)) rfl (by get_elem_tactic_extensible) (by omega) (by rw [List.length_map, hb.1]; omega) ⟨_, rfl, _, set_ok bs (at_ bs 0) hb (hb.at (k := 0) (by omega) (by omega)), by rw [map_set]; rfl⟩
      · obtain ⟨bs, hb, rfl⟩ := hρ
        refine Run.ifP (by subst hV; get_elem_tactic_extensible) (fun h => ?_) fun h => Run.next ⟨bs, _, hb, rfl⟩
        exact Run.setIxA (xs := bs.map D.int) (k := (j : Int)) (d := .int (at_ bs ((j : Int) - 1))) rfl (Ev.ixM (A := D.int) (by get_elem_tactic_extensible) (by get_elem_tactic_extensible) (by omega) (by rw [hb.1]; omega)) rfl (by get_elem_tactic_extensible) (by omega) (by rw [List.length_map, hb.1]; omega) ⟨_, _, set_ok bs (at_ bs ((j : Int) - 1)) hb (hb.at (k := (j : Int) - 1) (by omega) (by omega)), by rw [map_set]; rfl⟩
    · obtain ⟨bs, a, hb, rfl⟩ := hI
      exact ⟨_, rfl, bs, a, hb, rfl⟩
  obtain ⟨bs, a, hb, rfl⟩ := hρ
  obtain ⟨cs, hc, nn⟩ := law_fed_ok mills ps bs (.lst (bs.map D.int)) m1 (by omega) ok (by omega) hb (.inl rfl)
  refine Run.srel (Run.sset (Ev.callP (ds := [.int mills, .lst (ps.map pairD), .lst (bs.map D.int)]) (by get_elem_tactic_extensible) EvL.nil ⟨rfl, rfl⟩ hc) (Run.sown (ds := []) (by get_elem_tactic_extensible) (show (7 : Nat) < 13 by decide) (Run.sown (ds := []) (by get_elem_tactic_extensible) (show (8 : Nat) < 13 by decide) ?_)))
  show Run (gSeq _ _) [.v V, .v (.lst (row.map D.int)), .v (.int mills), .v (.lst (ps.map pairD)), .v (.lst (bs.map D.int)), a, .v (.lst (cs.map D.int)), .own [], .own [], .no, .no, .no, .no] _
  refine Run.cut (fun ρ => ∃ (low : List Int) (hi : List (Option Int)) (x y z : Sl), NNs mills.toNat low ∧ hi.length = mills.toNat ∧ (∀ h ∈ hi, Pos h) ∧ ρ = [.v V, .v (.lst (row.map D.int)), .v (.int mills), .v (.lst (ps.map pairD)), .v (.lst (bs.map D.int)), a, .v (.lst (cs.map D.int)), .own (low.map D.int), .own (hi.map optD), x, y, z, .no]) ?_ fun ρ hρ => ?_
  · refine Run.for (fun n ρ => ∃ (low : List Int) (hi : List (Option Int)) (x y z : Sl), NNs n low ∧ hi.length = n ∧ (∀ h ∈ hi, Pos h) ∧ ρ = [.v V, .v (.lst (row.map D.int)), .v (.int mills), .v (.lst (ps.map pairD)), .v (.lst (bs.map D.int)), a, .v (.lst (cs.map D.int)), .own (low.map D.int), .own (hi.map optD), x, y, z, .no]) (EvL.range1 (by get_elem_tactic_extensible) (by omega)) ⟨[], [], .no, .no, .no, ⟨rfl, fun c hc => by simp at hc⟩, rfl, fun c hc => by simp at hc, rfl⟩ (fun j d ρ hd hI => ?_) fun ρ hI => ?_
    · obtain ⟨low, hi, x, y, z, nl, hh, hp, rfl⟩ := hI
      obtain ⟨rfl, hj⟩ := range0_get hd
      have hj5 : j < 5 := by omega
      have ls : tbSlack.length = 8 := rfl
      have lt : tbTop.length = 8 := rfl
      have lt2 : tbTop2.length = 4 := rfl
      obtain ⟨sl, hsl, _⟩ := tbl_get (tb := tbSlack) (fun _ => true) (by decide) (i := at_ row (1 + 2 * (j : Int)) % 8) (by omega)
      obtain ⟨tp, htp, ptp⟩ := tblO_get (tb := tbTop) (by decide) (i := at_ row (2 + 2 * (j : Int)) % 8) (by omega)
      obtain ⟨t2, ht2, pt2⟩ := tblO_get (tb := tbTop2) (by decide) (i := at_ row (2 + 2 * (j : Int)) % 4) (by omega)
      refine ⟨_, rfl, Run.sset (Ev.ixL (ds := tbSlack) (i := at_ row (1 + 2 * (j : Int)) % 8) (by get_elem_tactic_extensible) (by get_elem_tactic_extensible) (by omega) hsl) (Run.sset (Ev.ixL (ds := tbTop) (i := at_ row (2 + 2 * (j : Int)) % 8) (by get_elem_tactic_extensible) (by get_elem_tactic_extensible) (by omega) htp) ?_)⟩
      have cj := nn.at (k := (j : Int)) (by omega) (by omega)
      have hcs : cs.length = mills.toNat := nn.1
      refine Run.cut (fun ρ => ∃ s : Int, ρ = [.v V, .v (.lst (row.map D.int)), .v (.int mills), .v (.lst (ps.map pairD)), .v (.lst (bs.map D.int)), a, .v (.lst (cs.map D.int)), .own (low.map D.int), .own (hi.map optD), .v (.int j), .v (.int s), .v (optD tp), .no]) (Run.ifP (by get_elem_tactic_extensible) (fun h => Run.set (by get_elem_tactic_extensible) ⟨_, rfl, 0, rfl⟩) fun h => Run.next ⟨_, rfl, sl, rfl⟩) fun ρ hρ => ?_
      obtain ⟨s, rfl⟩ := hρ
      refine Run.cut (fun ρ => ∃ t : Option Int, Pos t ∧ ρ = [.v V, .v (.lst (row.map D.int)), .v (.int mills), .v (.lst (ps.map pairD)), .v (.lst (bs.map D.int)), a, .v (.lst (cs.map D.int)), .own (low.map D.int), .own (hi.map optD), .v (.int j), .v (.int s), .v (optD t), .no]) (Run.ifP (by get_elem_tactic_extensible) (fun h => Run.set (d := .int 1) (by get_elem_tactic_extensible) ⟨_, rfl, some 1, fun x e => by cases e; decide, rfl⟩) fun h => Run.next ⟨_, rfl, tp, ptp, rfl⟩) fun ρ hρ => ?_
      obtain ⟨t, pt, rfl⟩ := hρ
      refine Run.cut (fun ρ => ∃ t : Option Int, Pos t ∧ ρ = [.v V, .v (.lst (row.map D.int)), .v (.int mills), .v (.lst (ps.map pairD)), .v (.lst (bs.map D.int)), a, .v (.lst (cs.map D.int)), .own (low.map D.int), .own (hi.map optD), .v (.int j), .v (.int s), .v (optD t), .no]) (Run.ifP (by get_elem_tactic_extensible) (fun h => Run.set (d := .non) (by get_elem_tactic_extensible) ⟨_, rfl, none, fun x e => (by cases e), rfl⟩) fun h => Run.next ⟨_, rfl, t, pt, rfl⟩) fun ρ hρ => ?_
      obtain ⟨t, pt, rfl⟩ := hρ
      refine Run.sapp (xs := low.map D.int) (d := .int (max 0 (at_ cs (j : Int) - s))) rfl (by get_elem_tactic_extensible) (by rw [List.length_map, nl.1]; omega) ?_
      have nl1 : NNs (j + 1) (low ++ [max 0 (at_ cs (j : Int) - s)]) := ⟨by simp [nl.1], fun c hc => by
        rcases List.mem_append.mp hc with hc | hc
        · exact nl.2 c hc
        · rw [List.mem_singleton.mp hc]; omega⟩
      have em : low.map D.int ++ [D.int (max 0 (at_ cs (j : Int) - s))] = (low ++ [max 0 (at_ cs (j : Int) - s)]).map D.int := by rw [List.map_append]; rfl
      rw [em]
      generalize low ++ [max 0 (at_ cs (j : Int) - s)] = low1 at nl1 ⊢
      show Run (gSeq _ _) [.v V, .v (.lst (row.map D.int)), .v (.int mills), .v (.lst (ps.map pairD)), .v (.lst (bs.map D.int)), a, .v (.lst (cs.map D.int)), .own (low1.map D.int), .own (hi.map optD), .v (.int j), .v (.int s), .v (optD t), .no] _
      refine Run.cut (fun ρ => ∃ (low2 : List Int) (t : Option Int), NNs (j + 1) low2 ∧ Pos t ∧ ρ = [.v V, .v (.lst (row.map D.int)), .v (.int mills), .v (.lst (ps.map pairD)), .v (.lst (bs.map D.int)), a, .v (.lst (cs.map D.int)), .own (low2.map D.int), .own (hi.map optD), .v (.int j), .v (.int s), .v (optD t), .no]) ?_ fun ρ hρ => ?_
      · refine Run.ifP (by get_elem_tactic_extensible) (fun h => ?_) fun h => Run.next ⟨_, rfl, low1, t, nl1, pt, rfl⟩
        refine Run.ssetIx (xs := low1.map D.int) (k := (j : Int)) (d := .int 0) rfl (by get_elem_tactic_extensible) (by get_elem_tactic_extensible) (by omega) (by rw [List.length_map, nl1.1]; omega) ?_
        rw [map_set]
        exact Run.set (Ev.ixL (ds := tbTop2) (i := at_ row (2 + 2 * (j : Int)) % 4) (by get_elem_tactic_extensible) (by get_elem_tactic_extensible) (by omega) ht2) ⟨_, rfl, low1.set (Int.toNat j) 0, t2, nl1.set (by omega), pt2, rfl⟩
      obtain ⟨low2, t, nl2, pt, rfl⟩ := hρ
      refine Run.cut (fun ρ => ∃ t : Option Int, Pos t ∧ ρ = [.v V, .v (.lst (row.map D.int)), .v (.int mills), .v (.lst (ps.map pairD)), .v (.lst (bs.map D.int)), a, .v (.lst (cs.map D.int)), .own (low2.map D.int), .own (hi.map optD), .v (.int j), .v (.int s), .v (optD t), .no]) ?_ fun ρ hρ => ?_
      · cases t with
        | none => exact Run.ifP (P := False) (iP := instDecidableFalse) (by exact Ev.v2 (Ev.var rfl) .c rfl) (fun h => h.elim) fun h => Run.next ⟨_, rfl, none, pt, rfl⟩
        | some v =>
          have hv := pt v rfl
          exact Run.ifP (P := True) (iP := instDecidableTrue) (by exact Ev.v2 (Ev.var rfl) .c rfl) (fun h => Run.set (d := .int (at_ cs (j : Int) + v)) (Ev.add (Ev.ixM (A := D.int) (by get_elem_tactic_extensible) (by get_elem_tactic_extensible) (by omega) (by rw [hcs]; omega)) (Ev.var rfl)) ⟨_, rfl, some (at_ cs (j : Int) + v), fun x e => by cases e; omega, rfl⟩) fun h => (h trivial).elim
      obtain ⟨t, pt, rfl⟩ := hρ
      refine Run.app (xs := hi.map optD) (d := optD t) rfl (Ev.var rfl) (by rw [List.length_map, hh]; omega) ⟨low2, hi ++ [t], _, _, _, nl2, by simp [hh], fun h hm => ?_, by rw [List.map_append]; rfl⟩
      rcases List.mem_append.mp hm with hm | hm
      · exact hp h hm
      · rw [List.mem_singleton.mp hm]; exact pt
    · obtain ⟨low, hi, x, y, z, nl, hh, hp, rfl⟩ := hI
      rw [rangeD_length] at nl hh
      exact ⟨_, rfl, low, hi, x, y, z, nl, hh, hp, rfl⟩
  · obtain ⟨low, hi, x, y, z, nl, hh, hp, rfl⟩ := hρ
    refine Run.sown (ds := []) (by get_elem_tactic_extensible) (show (12 : Nat) < 13 by decide) ?_
    show Run (gSeq _ _) [.v V, .v (.lst (row.map D.int)), .v (.int mills), .v (.lst (ps.map pairD)), .v (.lst (bs.map D.int)), a, .v (.lst (cs.map D.int)), .own (low.map D.int), .own (hi.map optD), x, y, z, .own []] _
    refine Run.cut (fun ρ => ∃ (ls : List (List Int)) (a : Sl), ls.length = ps.length ∧ (∀ l ∈ ls, l ∈ lets4) ∧ ρ = [.v V, .v (.lst (row.map D.int)), .v (.int mills), .v (.lst (ps.map pairD)), .v (.lst (bs.map D.int)), a, .v (.lst (cs.map D.int)), .own (low.map D.int), .own (hi.map optD), x, y, z, .own (ls.map letD)]) ?_ fun ρ hρ => ?_
    · refine Run.for (fun n ρ => ∃ (ls : List (List Int)) (a : Sl), ls.length = n ∧ (∀ l ∈ ls, l ∈ lets4) ∧ ρ = [.v V, .v (.lst (row.map D.int)), .v (.int mills), .v (.lst (ps.map pairD)), .v (.lst (bs.map D.int)), a, .v (.lst (cs.map D.int)), .own (low.map D.int), .own (hi.map optD), x, y, z, .own (ls.map letD)]) (EvL.range1 (by get_elem_tactic_extensible) (by rw [List.length_map]; omega)) ⟨[], a, rfl, fun l hl => by simp at hl, rfl⟩ (fun j d ρ hd hI => ?_) fun ρ hI => ?_
      · obtain ⟨ls, a, h1, h2, rfl⟩ := hI
        obtain ⟨rfl, hj⟩ := range0_get hd
        have hj : j < ps.length := by rw [List.length_map] at hj; omega
        have hbl : bs.length = ps.length := hb.1
        have hbit := hb.at (k := (j : Int)) (by omega) (by omega)
        have e0 : (if at_ row (11 + (j : Int)) = 5 then D.tup [.int (at_ bs (j : Int))] else D.tup [.int 0, .int 1]) = letD (if at_ row (11 + (j : Int)) = 5 then [at_ bs (j : Int)] else [0, 1]) := by split <;> rfl
        refine ⟨_, rfl, Run.rel (Run.app (xs := ls.map letD) (d := letD (if at_ row (11 + (j : Int)) = 5 then [at_ bs (j : Int)] else [0, 1])) rfl ?_ (by rw [List.length_map]; omega) ⟨ls ++ [if at_ row (11 + (j : Int)) = 5 then [at_ bs (j : Int)] else [0, 1]], _, by simp [h1], fun l hl => ?_, by rw [List.map_append]; rfl⟩)⟩
        · rw [← e0]
          exact Ev.ix2 (d0 := .tup [.int 0, .int 1]) (d1 := .tup [.int (at_ bs (j : Int))]) (Ev.vL (EvL.lenOk (EvL.cons (Ev.tup (by get_elem_tactic_extensible) (by simp)) (EvL.cons (Ev.tup (EvL.cons (Ev.ixM (A := D.int) (by get_elem_tactic_extensible) (by get_elem_tactic_extensible) (by omega) (by omega)) .nil) (by simp)) .nil)) (by simp))) (Ev.intB (Ev.eqI (i := at_ row (11 + (j : Int))) (Ev.ixM (A := D.int) (by get_elem_tactic_extensible) (by get_elem_tactic_extensible) (by omega) (by omega)) (by get_elem_tactic_extensible)))
        · rcases List.mem_append.mp hl with hl | hl
          · exact h2 l hl
          · rw [List.mem_singleton.mp hl]
            split
            · rcases hbit with e | e <;> rw [e] <;> decide
            · decide
      · obtain ⟨ls, a, h1, h2, rfl⟩ := hI
        rw [rangeD_length, List.length_map] at h1
        exact ⟨_, rfl, ls, a, by omega, h2, rfl⟩
    · obtain ⟨ls, a, h1, h2, rfl⟩ := hρ
      refine Run.rel (Run.rel (Run.rel (Run.ret (d := wD mills ps low hi ls []) (by unfold wD; get_elem_tactic_extensible) ⟨low, hi, ls, rfl, ⟨m1, by omega, by omega, ok, nl, hh, hp, h1, h2⟩⟩)))
end LW
end

section
set_option maxHeartbeats 4000000
namespace LW
open PySem L2 EV
local macro_rules | `(tactic| get_elem_tactic_extensible) => `(tactic| first
  | ((with_reducible apply Ev.var); exact rfl)
  | with_reducible exact Ev.c
  | assumption
  | ((with_reducible apply Ev.add) <;> get_elem_tactic_extensible)
  | ((with_reducible apply Ev.sub) <;> get_elem_tactic_extensible)
  | ((with_reducible apply Ev.mulR) <;> get_elem_tactic_extensible)
  | ((with_reducible apply Ev.mulL) <;> get_elem_tactic_extensible)
  | ((with_reducible apply Ev.mod) <;> get_elem_tactic_extensible)
  | ((with_reducible apply Ev.fdiv) <;> get_elem_tactic_extensible)
  | ((with_reducible apply Ev.pow) <;> get_elem_tactic_extensible)
  | ((with_reducible apply Ev.neg) <;> get_elem_tactic_extensible)
  | ((with_reducible apply Ev.lt) <;> get_elem_tactic_extensible)
  | ((with_reducible apply Ev.le) <;> get_elem_tactic_extensible)
  | ((with_reducible apply Ev.gt) <;> get_elem_tactic_extensible)
  | ((with_reducible apply Ev.ge) <;> get_elem_tactic_extensible)
  | ((with_reducible apply Ev.eqI) <;> get_elem_tactic_extensible)
  | ((with_reducible apply Ev.neI) <;> get_elem_tactic_extensible)
  | ((with_reducible apply Ev.isN) <;> get_elem_tactic_extensible)
  | ((with_reducible apply Ev.notN) <;> get_elem_tactic_extensible)
  | ((with_reducible apply Ev.notP) <;> get_elem_tactic_extensible)
  | ((with_reducible apply Ev.andP) <;> get_elem_tactic_extensible)
  | ((with_reducible apply Ev.orP) <;> get_elem_tactic_extensible)
  | ((with_reducible apply Ev.int_) <;> get_elem_tactic_extensible)
  | ((with_reducible apply Ev.intB) <;> get_elem_tactic_extensible)
  | ((with_reducible apply Ev.lenL) <;> get_elem_tactic_extensible)
  | ((with_reducible apply Ev.lenT) <;> get_elem_tactic_extensible)
  | ((with_reducible apply Ev.lenS) <;> get_elem_tactic_extensible)
  | ((with_reducible apply Ev.min_) <;> get_elem_tactic_extensible)
  | ((with_reducible apply Ev.max_) <;> get_elem_tactic_extensible)
  | ((with_reducible apply Ev.abs_) <;> get_elem_tactic_extensible)
  | ((with_reducible apply Ev.tupleL) <;> get_elem_tactic_extensible)
  | ((with_reducible apply Ev.tupleT) <;> get_elem_tactic_extensible)
  | ((with_reducible apply EvL.listL) <;> get_elem_tactic_extensible)
  | ((with_reducible apply EvL.listT) <;> get_elem_tactic_extensible)
  | ((with_reducible apply Ev.ixL) <;> get_elem_tactic_extensible)
  | ((with_reducible apply Ev.ixT) <;> get_elem_tactic_extensible)
  | ((with_reducible apply Ev.ixM) <;> get_elem_tactic_extensible)
  | ((with_reducible apply Ev.ixMT) <;> get_elem_tactic_extensible)
  | ((with_reducible apply Ev.tup) <;> get_elem_tactic_extensible)
  | ((with_reducible apply Ev.vL) <;> get_elem_tactic_extensible)
  | with_reducible exact EvL.nil
  | ((with_reducible apply EvL.cons) <;> get_elem_tactic_extensible)
  | ((with_reducible apply EvL.lenOk) <;> get_elem_tactic_extensible)
  | ((with_reducible apply EvL.range1) <;> get_elem_tactic_extensible)
  | ((with_reducible apply EvL.seqL) <;> get_elem_tactic_extensible)
  | ((with_reducible apply EvL.seqT) <;> get_elem_tactic_extensible)
  | ((with_reducible apply EvL.seqS) <;> get_elem_tactic_extensible)
  | (intro; get_elem_tactic_extensible)
  | exact (show GetElem?.getElem? (List.cons _ _) _ = some _ from rfl)
  | omega
  | (simp only [List.length_map, List.length_append, List.length_replicate, List.length_cons, List.length_nil, List.length_range] <;> omega))
def szOk (sizes : List Int) : Bool := sizes.all (fun s => decide (0 < s) && decide (s < 1073741824)) && decide (sizes.length ≤ 1000)
/-- digits(cell(script, k), sizes) -/
theorem dig_cell {fs fk fz : FE} {ρ : EV.Env} {ns : List Int} {k : Int} (sizes : List Int) (hs : Ev fs ρ (.scr ns)) (hk : Ev fk ρ (.int k)) (h0 : 0 ≤ k) (hz : Ev fz ρ (.lst (sizes.map D.int))) (hp : szOk sizes = true) :
    ∃ row : List Int, Ev (vCallP 2 0 [0, 1] sem_law_digits [] (aCons (vCallP 2 0 [0, 1] sem_law_cell [] (aCons fs (aCons fk (aNil))) (aNil)) (aCons fz (aNil))) (aNil)) ρ (.lst (row.map D.int)) ∧ RowOk row sizes := by
  obtain ⟨z, hc⟩ := law_cell_ok ns k h0
  unfold szOk at hp
  rw [Bool.and_eq_true] at hp
  obtain ⟨row, hd, ok⟩ := law_digits_ok z sizes (fun s h => by
    have := List.all_eq_true.mp hp.1 s h
    rw [Bool.and_eq_true] at this
    exact ⟨of_decide_eq_true this.1, of_decide_eq_true this.2⟩) (of_decide_eq_true hp.2)
  exact ⟨row, Ev.callP (ds := [.int z, .lst (sizes.map D.int)]) (EvL.cons (Ev.callP (ds := [.scr ns, .int k]) (EvL.cons hs (EvL.cons hk .nil)) .nil ⟨rfl, rfl⟩ hc) (EvL.cons hz .nil)) .nil ⟨rfl, rfl⟩ hd, ok⟩
def sz1 : List Int := [24, 24, 6, 12, 12, 12, 12, 12, 12, 12, 12, 12, 12, 12, 12, 12, 12]
def sz2 : List Int := [8, 8, 8, 8, 8, 8, 8, 8, 8, 8, 8, 24, 24, 24, 24, 24, 24, 24, 2, 2, 2, 2, 2, 2, 2]
theorem law_drawn_ok (ns : List Int) (at0 upto : Int) (h0 : 0 ≤ at0) (hu : 0 ≤ upto) : ∃ mills ps low high lets, sem_law_drawn [.scr ns, .int at0, .int upto] = some (.ok (wD mills ps low high lets [])) ∧ WOk mills ps low high lets := by
  suffices H : Run g_law_drawn [.v (.scr ns), .v (.int at0), .v (.int upto), .no] (Ret fun d => ∃ mills ps low high lets, d = wD mills ps low high lets [] ∧ WOk mills ps low high lets) by
    obtain ⟨d, h, mills, ps, low, high, lets, rfl, q⟩ := sem_ret (n := 4) (ds := [.scr ns, .int at0, .int upto]) H
    exact ⟨mills, ps, low, high, lets, h, q⟩
  obtain ⟨row, er, ro⟩ := dig_cell (fs := vVar 0) (fk := vVar 1) (fz := vL (nAdd (vL (lenOk (aCons (vC (.int 24)) (aCons (vC (.int 24)) (aCons (vC (.int 6)) (aNil)))))) (vL (nRep (vL (lenOk (aCons (vC (.int 12)) (aCons (vC (.int 12)) (aNil))))) (vC (.int 7)))))) (ρ := [.v (.scr ns), .v (.int at0), .v (.int upto), .no]) sz1 (Ev.var rfl) (Ev.var rfl) h0 rfl (by decide)
  have l1 : sz1.length = 17 := rfl
  have b0 := ro.2 0 (by omega) (by rw [ro.1]; omega)
  have b1 := ro.2 1 (by omega) (by rw [ro.1]; omega)
  obtain ⟨mills, ps, hv, m1, m5, p7, ok⟩ := law_valley_ok row upto hu (by rw [ro.1]; rfl) b0 b1
  refine Run.sset (Ev.callP (ds := [.lst (row.map D.int), .int upto]) (EvL.cons er (EvL.cons (Ev.var rfl) .nil)) .nil ⟨rfl, rfl⟩ hv) ?_
  show Run _ [.v (.scr ns), .v (.int at0), .v (.int upto), .v (.lst [.int mills, .lst (ps.map pairD), .int (at_ row 2)])] _
  obtain ⟨row2, er2, ro2⟩ := dig_cell (fs := vVar 0) (fk := v2 addD (vVar 1) (vC (.int 1))) (fz := vL (nAdd (vL (nAdd (vL (nAdd (vL (lenOk (aCons (vC (.int 8)) (aNil)))) (vL (nRep (vL (lenOk (aCons (vC (.int 8)) (aCons (vC (.int 8)) (aNil))))) (vC (.int 5)))))) (vL (nRep (vL (lenOk (aCons (vC (.int 24)) (aNil)))) (vC (.int 7)))))) (vL (nRep (vL (lenOk (aCons (vC (.int 2)) (aNil)))) (vC (.int 7))))))
    (ρ := [.v (.scr ns), .v (.int at0), .v (.int upto), .v (.lst [.int mills, .lst (ps.map pairD), .int (at_ row 2)])]) sz2 (Ev.var rfl) (Ev.add (Ev.var rfl) Ev.c) (by omega) rfl (by decide)
  obtain ⟨low, high, lets, hw, wk⟩ := law_world_ok mills ps (at_ row 2) row2 m1 m5 p7 ok (by rw [ro2.1]; rfl)
  exact Run.ret (Ev.callP (ds := [.lst [.int mills, .lst (ps.map pairD), .int (at_ row 2)], .lst (row2.map D.int)]) (EvL.cons (Ev.var rfl) (EvL.cons er2 .nil)) .nil ⟨rfl, rfl⟩ hw) ⟨mills, ps, low, high, lets, rfl, wk⟩
end LW
end

section
set_option maxHeartbeats 4000000
namespace LW
open PySem L2 EV
local macro_rules | `(tactic| get_elem_tactic_extensible) => `(tactic| first
  | ((with_reducible apply Ev.var); exact rfl)
  | with_reducible exact Ev.c
  | assumption
  | ((with_reducible apply Ev.add) <;> get_elem_tactic_extensible)
  | ((with_reducible apply Ev.sub) <;> get_elem_tactic_extensible)
  | ((with_reducible apply Ev.mulR) <;> get_elem_tactic_extensible)
  | ((with_reducible apply Ev.mulL) <;> get_elem_tactic_extensible)
  | ((with_reducible apply Ev.mod) <;> get_elem_tactic_extensible)
  | ((with_reducible apply Ev.fdiv) <;> get_elem_tactic_extensible)
  | ((with_reducible apply Ev.pow) <;> get_elem_tactic_extensible)
  | ((with_reducible apply Ev.neg) <;> get_elem_tactic_extensible)
  | ((with_reducible apply Ev.lt) <;> get_elem_tactic_extensible)
  | ((with_reducible apply Ev.le) <;> get_elem_tactic_extensible)
  | ((with_reducible apply Ev.gt) <;> get_elem_tactic_extensible)
  | ((with_reducible apply Ev.ge) <;> get_elem_tactic_extensible)
  | ((with_reducible apply Ev.eqI) <;> get_elem_tactic_extensible)
  | ((with_reducible apply Ev.neI) <;> get_elem_tactic_extensible)
  | ((with_reducible apply Ev.isN) <;> get_elem_tactic_extensible)
  | ((with_reducible apply Ev.notN) <;> get_elem_tactic_extensible)
  | ((with_reducible apply Ev.notP) <;> get_elem_tactic_extensible)
  | ((with_reducible apply Ev.andP) <;> get_elem_tactic_extensible)
  | ((with_reducible apply Ev.orP) <;> get_elem_tactic_extensible)
  | ((with_reducible apply Ev.int_) <;> get_elem_tactic_extensible)
  | ((with_reducible apply Ev.intB) <;> get_elem_tactic_extensible)
  | ((with_reducible apply Ev.lenL) <;> get_elem_tactic_extensible)
  | ((with_reducible apply Ev.lenT) <;> get_elem_tactic_extensible)
  | ((with_reducible apply Ev.lenS) <;> get_elem_tactic_extensible)
  | ((with_reducible apply Ev.min_) <;> get_elem_tactic_extensible)
  | ((with_reducible apply Ev.max_) <;> get_elem_tactic_extensible)
  | ((with_reducible apply Ev.abs_) <;> get_elem_tactic_extensible)
  | ((with_reducible apply Ev.tupleL) <;> get_elem_tactic_extensible)
  | ((with_reducible apply Ev.tupleT) <;> get_elem_tactic_extensible)
  | ((with_reducible apply EvL.listL) <;> get_elem_tactic_extensible)
  | ((with_reducible apply EvL.listT) <;> get_elem_tactic_extensible)
  | ((with_reducible apply Ev.ixL) <;> get_elem_tactic_extensible)
  | ((with_reducible apply Ev.ixT) <;> get_elem_tactic_extensible)
  | ((with_reducible apply Ev.ixM) <;> get_elem_tactic_extensible)
  | ((with_reducible apply Ev.ixMT) <;> get_elem_tactic_extensible)
  | ((with_reducible apply Ev.tup) <;> get_elem_tactic_extensible)
  | ((with_reducible apply Ev.vL) <;> get_elem_tactic_extensible)
  | with_reducible exact EvL.nil
  | ((with_reducible apply EvL.cons) <;> get_elem_tactic_extensible)
  | ((with_reducible apply EvL.lenOk) <;> get_elem_tactic_extensible)
  | ((with_reducible apply EvL.range1) <;> get_elem_tactic_extensible)
  | ((with_reducible apply EvL.seqL) <;> get_elem_tactic_extensible)
  | ((with_reducible apply EvL.seqT) <;> get_elem_tactic_extensible)
  | ((with_reducible apply EvL.seqS) <;> get_elem_tactic_extensible)
  | (intro; get_elem_tactic_extensible)
  | exact (show GetElem?.getElem? (List.cons _ _) _ = some _ from rfl)
  | omega
  | (simp only [List.length_map, List.length_append, List.length_replicate, List.length_cons, List.length_nil, List.length_range] <;> omega))
theorem row_le {row sizes : List Int} (ro : RowOk row sizes) (b : Int) (h : sizes.all (fun s => decide (s ≤ b)) = true) {k : Int} (h0 : 0 ≤ k) (h1 : k < sizes.length) : 0 ≤ at_ row k ∧ at_ row k < b := by
  have q := ro.2 k h0 (by rw [ro.1]; exact h1)
  have := of_decide_eq_true (List.all_eq_true.mp h _ (at_mem (xs := sizes) h0 h1))
  omega
def sz3 : List Int := [4, 24, 24, 24, 24, 24, 24, 24, 24, 24, 24, 24, 24, 24, 24, 24, 24, 24]
def tbNeed : List D := [.int 0, .int 1, .int 0, .int 2, .int 0, .int 0, .int 1, .int 0, .int 3, .int 0, .int 1, .int 0, .int 0, .int 1, .int 0, .int 1, .int 2, .int 0, .int 4, .int 5, .int 6, .int 7, .int 8, .int 1]
def tbHigh : List D := [.non, .int 2, .int 3, .non, .int 4, .int 2, .non, .int 5, .int 3, .int 4, .non, .int 1, .int 3, .int 6, .int 0, .int 7, .int 8, .non, .int 1, .int 2, .int 3, .non, .int 2, .non]
def tbLet : List D := lets4.map letD
def tbSide : List D := [.int 1, .int 2, .int 1, .int 2, .int 3]
theorem let_get {i : Int} (h0 : 0 ≤ i) (h1 : i < 4) : ∃ l, tbLet[i.toNat]? = some (letD l) ∧ l ∈ lets4 := by
  have hl : i.toNat < lets4.length := by show i.toNat < 4; omega
  refine ⟨lets4[i.toNat], ?_, List.getElem_mem hl⟩
  unfold tbLet
  rw [List.getElem?_map, List.getElem?_eq_getElem hl]
  rfl
theorem law_free_ok (ns : List Int) : ∃ mills ps low high lets, sem_law_free [.scr ns] = some (.ok (wD mills ps low high lets [])) ∧ WOk mills ps low high lets := by
  suffices H : Run g_law_free [.v (.scr ns), .no, .no, .no, .no, .no, .no, .no, .no, .no, .no] (Ret fun d => ∃ mills ps low high lets, d = wD mills ps low high lets [] ∧ WOk mills ps low high lets) by
    obtain ⟨d, h, mills, ps, low, high, lets, rfl, q⟩ := sem_ret (n := 11) (ds := [.scr ns]) H
    exact ⟨mills, ps, low, high, lets, h, q⟩
  obtain ⟨row0, er, ro⟩ := dig_cell (fs := vVar 0) (fk := vC (.int 0)) (fz := vL (nAdd (vL (lenOk (aCons (vC (.int 24)) (aCons (vC (.int 24)) (aCons (vC (.int 6)) (aNil)))))) (vL (nRep (vL (lenOk (aCons (vC (.int 12)) (aCons (vC (.int 12)) (aNil))))) (vC (.int 7)))))) (ρ := [.v (.scr ns), .no, .no, .no, .no, .no, .no, .no, .no, .no, .no]) sz1 (Ev.var rfl) Ev.c (by omega) rfl (by decide)
  have b0 := ro.2 0 (by omega) (by rw [ro.1]; decide)
  have b1 := ro.2 1 (by omega) (by rw [ro.1]; decide)
  obtain ⟨mills, ps, hv, m1, m5, p7, ok⟩ := law_valley_ok row0 7 (by omega) (by rw [ro.1]; rfl) b0 b1
  refine Run.sset (Ev.callP (ds := [.lst (row0.map D.int), .int 7]) (EvL.cons er (EvL.cons Ev.c .nil)) .nil ⟨rfl, rfl⟩ hv) ?_
  generalize hV : D.lst [.int mills, .lst (ps.map pairD), .int (at_ row0 2)] = V
  show Run (gSeq _ _) [.v (.scr ns), .v V, .no, .no, .no, .no, .no, .no, .no, .no, .no] _
  obtain ⟨row, er2, ro2⟩ := dig_cell (fs := vVar 0) (fk := vC (.int 1)) (fz := vL (nAdd (vL (nAdd (vL (lenOk (aCons (vC (.int 4)) (aNil)))) (vL (nRep (vL (lenOk (aCons (vC (.int 24)) (aCons (vC (.int 24)) (aNil))))) (vC (.int 5)))))) (vL (nRep (vL (lenOk (aCons (vC (.int 24)) (aNil)))) (vC (.int 7))))))
    (ρ := [.v (.scr ns), .v V, .no, .no, .no, .no, .no, .no, .no, .no, .no]) sz3 (Ev.var rfl) Ev.c (by omega) rfl (by decide)
  have hl : row.length = 18 := ro2.1
  have le24 := fun {k : Int} (h0 : 0 ≤ k) (h1 : k < 18) => row_le ro2 24 (by decide) h0 h1
  refine Run.sset er2 (Run.sown (ds := []) (by get_elem_tactic_extensible) (show (3 : Nat) < 11 by decide) (Run.sown (ds := []) (by get_elem_tactic_extensible) (show (4 : Nat) < 11 by decide) ?_))
  show Run (gSeq _ _) [.v (.scr ns), .v V, .v (.lst (row.map D.int)), .own [], .own [], .no, .no, .no, .no, .no, .no] _
  refine Run.cut (fun ρ => ∃ (low : List Int) (hi : List (Option Int)) (x y z : Sl), NNs mills.toNat low ∧ hi.length = mills.toNat ∧ (∀ h ∈ hi, Pos h) ∧ ρ = [.v (.scr ns), .v V, .v (.lst (row.map D.int)), .own (low.map D.int), .own (hi.map optD), x, y, z, .no, .no, .no]) ?_ fun ρ hρ => ?_
  · refine Run.for (fun n ρ => ∃ (low : List Int) (hi : List (Option Int)) (x y z : Sl), NNs n low ∧ hi.length = n ∧ (∀ h ∈ hi, Pos h) ∧ ρ = [.v (.scr ns), .v V, .v (.lst (row.map D.int)), .own (low.map D.int), .own (hi.map optD), x, y, z, .no, .no, .no]) (EvL.range1 (j := mills) (by subst hV; get_elem_tactic_extensible) (by omega)) ⟨[], [], .no, .no, .no, ⟨rfl, fun c hc => by simp at hc⟩, rfl, fun c hc => by simp at hc, rfl⟩ (fun j d ρ hd hI => ?_) fun ρ hI => ?_
    · obtain ⟨low, hi, x, y, z, nl, hh, hp, rfl⟩ := hI
      obtain ⟨rfl, hj⟩ := range0_get hd
      have hj5 : j < 5 := by omega
      have la : tbNeed.length = 24 := rfl
      have lb : tbHigh.length = 24 := rfl
      have q1 := le24 (k := 1 + 2 * (j : Int)) (by omega) (by omega)
      have q2 := le24 (k := 2 + 2 * (j : Int)) (by omega) (by omega)
      obtain ⟨nd, hn, pn⟩ := tbl_get (tb := tbNeed) (fun m => decide (0 ≤ m)) (by decide) (i := at_ row (1 + 2 * (j : Int))) (by omega)
      have pn := of_decide_eq_true pn
      obtain ⟨tp, htp, ptp⟩ := tblO_get (tb := tbHigh) (by decide) (i := at_ row (2 + 2 * (j : Int))) (by omega)
      refine ⟨_, rfl, Run.sset (d := .int (at_ row (1 + 2 * (j : Int)))) (by get_elem_tactic_extensible) (Run.sapp (xs := low.map D.int) (d := .int nd) rfl (Ev.ixL (ds := tbNeed) (by get_elem_tactic_extensible) (Ev.var rfl) q1.1 hn) (by rw [List.length_map, nl.1]; omega) (Run.sset (d := .int (at_ row (2 + 2 * (j : Int)))) (by get_elem_tactic_extensible) (Run.sapp (xs := hi.map optD) (d := optD tp) rfl (Ev.ixL (ds := tbHigh) (by get_elem_tactic_extensible) (Ev.var rfl) q2.1 htp) (by rw [List.length_map, hh]; omega) ?_)))⟩
      have e1 : low.map D.int ++ [D.int nd] = (low ++ [nd]).map D.int := by rw [List.map_append]; rfl
      have e2 : hi.map optD ++ [optD tp] = (hi ++ [tp]).map optD := by rw [List.map_append]; rfl
      rw [e1, e2]
      have nl1 : NNs (j + 1) (low ++ [nd]) := ⟨by simp [nl.1], fun c hc => by
        rcases List.mem_append.mp hc with hc | hc
        · exact nl.2 c hc
        · rw [List.mem_singleton.mp hc]; exact pn⟩
      have hh1 : (hi ++ [tp]).length = j + 1 := by simp [hh]
      have hp1 : ∀ h ∈ hi ++ [tp], Pos h := fun h hm => by
        rcases List.mem_append.mp hm with hm | hm
        · exact hp h hm
        · rw [List.mem_singleton.mp hm]; exact ptp
      generalize low ++ [nd] = low1 at nl1 ⊢
      generalize hi ++ [tp] = hi1 at hh1 hp1 ⊢
      have c0 := nl1.at (k := (j : Int)) (by omega) (by omega)
      have hll := nl1.1
      generalize Sl.v (D.int (at_ row (1 + 2 * (j : Int)))) = y1
      generalize Sl.v (D.int (at_ row (2 + 2 * (j : Int)))) = z1
      show Run (gSeq _ _) [.v (.scr ns), .v V, .v (.lst (row.map D.int)), .own (low1.map D.int), .own (hi1.map optD), .v (.int j), y1, z1, .no, .no, .no] _
      refine Run.cut (fun ρ => ∃ low2, NNs (j + 1) low2 ∧ ρ = [.v (.scr ns), .v V, .v (.lst (row.map D.int)), .own (low2.map D.int), .own (hi1.map optD), .v (.int j), y1, z1, .no, .no, .no]) ?_ fun ρ hρ => ?_
      · refine Run.ifP (by get_elem_tactic_extensible) (fun h => ?_) fun h => Run.next ⟨_, rfl, low1, nl1, rfl⟩
        refine Run.setIxA (xs := low1.map D.int) (k := (j : Int)) (d := .int (min (at_ low1 (j : Int)) (1 + (j : Int) % 2))) rfl (by get_elem_tactic_extensible) rfl (by get_elem_tactic_extensible) (by omega) (by rw [List.length_map]; omega) ⟨_, rfl, _, nl1.set (k := Int.toNat j) (c := min (at_ low1 (j : Int)) (1 + (j : Int) % 2)) (by omega), by rw [map_set]; rfl⟩
      obtain ⟨low2, nl2, rfl⟩ := hρ
      refine Run.ifP (by get_elem_tactic_extensible) (fun h => ?_) fun h => Run.next ⟨low2, hi1, _, _, _, nl2, hh1, hp1, rfl⟩
      refine Run.setIx (xs := hi1.map optD) (k := (j : Int)) (d := .non) rfl (by get_elem_tactic_extensible) (by get_elem_tactic_extensible) (by omega) (by rw [List.length_map]; omega) ⟨low2, hi1.set (Int.toNat j) none, _, _, _, nl2, by rw [List.length_set]; exact hh1, fun h hm => ?_, by rw [List.map_set]; rfl⟩
      rcases List.mem_or_eq_of_mem_set hm with hm | hm
      · exact hp1 h hm
      · rw [hm]; exact fun x e => by cases e
    · obtain ⟨low, hi, x, y, z, nl, hh, hp, rfl⟩ := hI
      rw [rangeD_length] at nl hh
      exact ⟨_, rfl, low, hi, x, y, z, nl, hh, hp, rfl⟩
  · obtain ⟨low, hi, x, y, z, nl, hh, hp, rfl⟩ := hρ
    refine Run.sown (ds := []) (by get_elem_tactic_extensible) (show (8 : Nat) < 11 by decide) ?_
    show Run (gSeq _ _) [.v (.scr ns), .v V, .v (.lst (row.map D.int)), .own (low.map D.int), .own (hi.map optD), x, y, z, .own [], .no, .no] _
    refine Run.cut (fun ρ => ∃ (ls : List (List Int)) (a b : Sl), ls.length = ps.length ∧ (∀ l ∈ ls, l ∈ lets4) ∧ ρ = [.v (.scr ns), .v V, .v (.lst (row.map D.int)), .own (low.map D.int), .own (hi.map optD), x, y, z, .own (ls.map letD), a, b]) ?_ fun ρ hρ => ?_
    · refine Run.for (fun n ρ => ∃ (ls : List (List Int)) (a b : Sl), ls.length = n ∧ (∀ l ∈ ls, l ∈ lets4) ∧ ρ = [.v (.scr ns), .v V, .v (.lst (row.map D.int)), .own (low.map D.int), .own (hi.map optD), x, y, z, .own (ls.map letD), a, b]) (EvL.range1 (j := ((ps.map pairD).length : Nat)) (by subst hV; get_elem_tactic_extensible) (by rw [List.length_map]; omega)) ⟨[], .no, .no, rfl, fun l hl => by simp at hl, rfl⟩ (fun j d ρ hd hI => ?_) fun ρ hI => ?_
      · obtain ⟨ls, a, b, h1, h2, rfl⟩ := hI
        obtain ⟨rfl, hj⟩ := range0_get hd
        have hj : j < ps.length := by rw [List.length_map] at hj; omega
        have q := le24 (k := 11 + (j : Int)) (by omega) (by omega)
        have lsd : tbSide.length = 5 := rfl
        have key : ∃ l, l ∈ lets4 ∧ Ev (v2 ixD (vL (lenOk (aCons (vTup (aCons (vC (.int 0)) (aCons (vC (.int 1)) (aNil)))) (aCons (vTup (aCons (vC (.int 0)) (aNil))) (aCons (vTup (aCons (vC (.int 1)) (aNil))) (aCons (vTup (aNil)) (aNil))))))) (vIf (v2 gtD (vVar 10) (vC (.int 4))) (vC (.int 0)) (v2 ixD (vL (lenOk (aCons (vC (.int 1)) (aCons (vC (.int 2)) (aCons (vC (.int 1)) (aCons (vC (.int 2)) (aCons (vC (.int 3)) (aNil)))))))) (vVar 10))))
            [.v (.scr ns), .v V, .v (.lst (row.map D.int)), .own (low.map D.int), .own (hi.map optD), x, y, z, .own (ls.map letD), .v (.int j), .v (.int (at_ row (11 + (j : Int))))] (letD l) := by
          generalize at_ row (11 + (j : Int)) = sd at q
          by_cases h4 : 4 < sd
          · refine ⟨[0, 1], by decide, Ev.ixL (ds := tbLet) (i := 0) rfl ?_ (by omega) rfl⟩
            have := Ev.ifP (fc := v2 gtD (vVar 10) (vC (.int 4))) (fa := vC (.int 0)) (fb := v2 ixD (vL (lenOk (aCons (vC (.int 1)) (aCons (vC (.int 2)) (aCons (vC (.int 1)) (aCons (vC (.int 2)) (aCons (vC (.int 3)) (aNil)))))))) (vVar 10)) (ρ := [.v (.scr ns), .v V, .v (.lst (row.map D.int)), .own (low.map D.int), .own (hi.map optD), x, y, z, .own (ls.map letD), .v (.int j), .v (.int sd)]) (P := 4 < sd) (d := .int 0) (d' := .int 0) (by get_elem_tactic_extensible) (fun _ => Ev.c) (fun h => absurd h4 h)
            rw [if_pos h4] at this
            exact this
          · obtain ⟨m, hm, pm⟩ := tbl_get (tb := tbSide) (fun m => decide (0 ≤ m ∧ m < 4)) (by decide) (i := sd) (by omega)
            have pm := of_decide_eq_true pm
            obtain ⟨l, hl, h4l⟩ := let_get pm.1 pm.2
            refine ⟨l, h4l, Ev.ixL (ds := tbLet) (i := m) rfl ?_ pm.1 hl⟩
            have := Ev.ifP (fc := v2 gtD (vVar 10) (vC (.int 4))) (fa := vC (.int 0)) (fb := v2 ixD (vL (lenOk (aCons (vC (.int 1)) (aCons (vC (.int 2)) (aCons (vC (.int 1)) (aCons (vC (.int 2)) (aCons (vC (.int 3)) (aNil)))))))) (vVar 10)) (ρ := [.v (.scr ns), .v V, .v (.lst (row.map D.int)), .own (low.map D.int), .own (hi.map optD), x, y, z, .own (ls.map letD), .v (.int j), .v (.int sd)]) (P := 4 < sd) (d := .int 0) (d' := .int m) (by get_elem_tactic_extensible) (fun _ => Ev.c) (fun h => Ev.ixL (ds := tbSide) (i := sd) rfl (Ev.var rfl) q.1 hm)
            rw [if_neg h4] at this
            exact this
        obtain ⟨l, hl4, el⟩ := key
        refine ⟨_, rfl, Run.sset (d := .int (at_ row (11 + (j : Int)))) (by get_elem_tactic_extensible) (Run.app (xs := ls.map letD) (d := letD l) rfl el (by rw [List.length_map]; omega) ⟨ls ++ [l], _, _, by simp [h1], fun l' hl' => ?_, by rw [List.map_append]; rfl⟩)⟩
        rcases List.mem_append.mp hl' with hl' | hl'
        · exact h2 l' hl'
        · rw [List.mem_singleton.mp hl']; exact hl4
      · obtain ⟨ls, a, b, h1, h2, rfl⟩ := hI
        rw [rangeD_length, List.length_map] at h1
        exact ⟨_, rfl, ls, a, b, by omega, h2, rfl⟩
    · obtain ⟨ls, a, b, h1, h2, rfl⟩ := hρ
      refine Run.rel (Run.rel (Run.rel (Run.ret (d := wD mills ps low hi ls []) (by subst hV; unfold wD; get_elem_tactic_extensible) ⟨mills, ps, low, hi, ls, rfl, ⟨m1, by omega, by omega, ok, nl, hh, hp, h1, h2⟩⟩)))
end LW
end

section
set_option maxHeartbeats 4000000
namespace LW
open PySem L2 EV
local macro_rules | `(tactic| get_elem_tactic_extensible) => `(tactic| first
  | ((with_reducible apply Ev.var); exact rfl)
  | with_reducible exact Ev.c
  | assumption
  | ((with_reducible apply Ev.add) <;> get_elem_tactic_extensible)
  | ((with_reducible apply Ev.sub) <;> get_elem_tactic_extensible)
  | ((with_reducible apply Ev.mulR) <;> get_elem_tactic_extensible)
  | ((with_reducible apply Ev.mulL) <;> get_elem_tactic_extensible)
  | ((with_reducible apply Ev.mod) <;> get_elem_tactic_extensible)
  | ((with_reducible apply Ev.fdiv) <;> get_elem_tactic_extensible)
  | ((with_reducible apply Ev.pow) <;> get_elem_tactic_extensible)
  | ((with_reducible apply Ev.neg) <;> get_elem_tactic_extensible)
  | ((with_reducible apply Ev.lt) <;> get_elem_tactic_extensible)
  | ((with_reducible apply Ev.le) <;> get_elem_tactic_extensible)
  | ((with_reducible apply Ev.gt) <;> get_elem_tactic_extensible)
  | ((with_reducible apply Ev.ge) <;> get_elem_tactic_extensible)
  | ((with_reducible apply Ev.eqI) <;> get_elem_tactic_extensible)
  | ((with_reducible apply Ev.neI) <;> get_elem_tactic_extensible)
  | ((with_reducible apply Ev.isN) <;> get_elem_tactic_extensible)
  | ((with_reducible apply Ev.notN) <;> get_elem_tactic_extensible)
  | ((with_reducible apply Ev.notP) <;> get_elem_tactic_extensible)
  | ((with_reducible apply Ev.andP) <;> get_elem_tactic_extensible)
  | ((with_reducible apply Ev.orP) <;> get_elem_tactic_extensible)
  | ((with_reducible apply Ev.int_) <;> get_elem_tactic_extensible)
  | ((with_reducible apply Ev.intB) <;> get_elem_tactic_extensible)
  | ((with_reducible apply Ev.lenL) <;> get_elem_tactic_extensible)
  | ((with_reducible apply Ev.lenT) <;> get_elem_tactic_extensible)
  | ((with_reducible apply Ev.lenS) <;> get_elem_tactic_extensible)
  | ((with_reducible apply Ev.min_) <;> get_elem_tactic_extensible)
  | ((with_reducible apply Ev.max_) <;> get_elem_tactic_extensible)
  | ((with_reducible apply Ev.abs_) <;> get_elem_tactic_extensible)
  | ((with_reducible apply Ev.tupleL) <;> get_elem_tactic_extensible)
  | ((with_reducible apply Ev.tupleT) <;> get_elem_tactic_extensible)
  | ((with_reducible apply EvL.listL) <;> get_elem_tactic_extensible)
  | ((with_reducible apply EvL.listT) <;> get_elem_tactic_extensible)
  | ((with_reducible apply Ev.ixL) <;> get_elem_tactic_extensible)
  | ((with_reducible apply Ev.ixT) <;> get_elem_tactic_extensible)
  | ((with_reducible apply Ev.ixM) <;> get_elem_tactic_extensible)
  | ((with_reducible apply Ev.ixMT) <;> get_elem_tactic_extensible)
  | ((with_reducible apply Ev.tup) <;> get_elem_tactic_extensible)
  | ((with_reducible apply Ev.vL) <;> get_elem_tactic_extensible)
  | with_reducible exact EvL.nil
  | ((with_reducible apply EvL.cons) <;> get_elem_tactic_extensible)
  | ((with_reducible apply EvL.lenOk) <;> get_elem_tactic_extensible)
  | ((with_reducible apply EvL.range1) <;> get_elem_tactic_extensible)
  | ((with_reducible apply EvL.seqL) <;> get_elem_tactic_extensible)
  | ((with_reducible apply EvL.seqT) <;> get_elem_tactic_extensible)
  | ((with_reducible apply EvL.seqS) <;> get_elem_tactic_extensible)
  | (intro; get_elem_tactic_extensible)
  | exact (show GetElem?.getElem? (List.cons _ _) _ = some _ from rfl)
  | omega
  | (simp only [List.length_map, List.length_append, List.length_replicate, List.length_cons, List.length_nil, List.length_range] <;> omega))
theorem law_small_world_ok (ns : List Int) (c : Int) : ∃ mills ps low high lets, sem_law_small_world [.scr ns, .int c] = some (.ok (wD mills ps low high lets [])) ∧ WOk mills ps low high lets := by
  suffices H : Run g_law_small_world [.v (.scr ns), .v (.int c)] (Ret fun d => ∃ mills ps low high lets, d = wD mills ps low high lets [] ∧ WOk mills ps low high lets) by
    obtain ⟨d, h, mills, ps, low, high, lets, rfl, q⟩ := sem_ret (n := 2) (ds := [.scr ns, .int c]) H
    exact ⟨mills, ps, low, high, lets, h, q⟩
  refine Run.seq (Run.ifP (by get_elem_tactic_extensible) (fun h => ?_) fun h => ?_)
  · obtain ⟨mills, ps, low, high, lets, e, ok⟩ := law_free_ok ns
    exact Run.ret (Ev.callP (ds := [.scr ns]) (by get_elem_tactic_extensible) .nil ⟨rfl, rfl⟩ e) ⟨mills, ps, low, high, lets, rfl, ok⟩
  · refine Run.next ?_
    obtain ⟨mills, ps, low, high, lets, e, ok⟩ := law_drawn_ok ns 0 (if c % 16 = 15 then 1 else 7) (by omega) (by split <;> omega)
    have ei : (if c % 16 = 15 then D.int 1 else D.int 7) = D.int (if c % 16 = 15 then 1 else 7) := by split <;> rfl
    refine Run.ret (Ev.callP (ds := [.scr ns, .int 0, .int (if c % 16 = 15 then 1 else 7)]) (EvL.cons (by get_elem_tactic_extensible) (EvL.cons (by get_elem_tactic_extensible) (EvL.cons ?_ .nil))) .nil ⟨rfl, rfl⟩ e) ⟨mills, ps, low, high, lets, rfl, ok⟩
    rw [← ei]
    exact Ev.ix2 (by get_elem_tactic_extensible) (Ev.intB (Ev.eqI (by get_elem_tactic_extensible) (by get_elem_tactic_extensible)))
end LW
end

section
set_option maxHeartbeats 4000000
namespace LW
open PySem L2 EV
local macro_rules | `(tactic| get_elem_tactic_extensible) => `(tactic| first
  | ((with_reducible apply Ev.var); exact rfl)
  | with_reducible exact Ev.c
  | assumption
  | ((with_reducible apply Ev.add) <;> get_elem_tactic_extensible)
  | ((with_reducible apply Ev.sub) <;> get_elem_tactic_extensible)
  | ((with_reducible apply Ev.mulR) <;> get_elem_tactic_extensible)
  | ((with_reducible apply Ev.mulL) <;> get_elem_tactic_extensible)
  | ((with_reducible apply Ev.mod) <;> get_elem_tactic_extensible)
  | ((with_reducible apply Ev.fdiv) <;> get_elem_tactic_extensible)
  | ((with_reducible apply Ev.pow) <;> get_elem_tactic_extensible)
  | ((with_reducible apply Ev.neg) <;> get_elem_tactic_extensible)
  | ((with_reducible apply Ev.lt) <;> get_elem_tactic_extensible)
  | ((with_reducible apply Ev.le) <;> get_elem_tactic_extensible)
  | ((with_reducible apply Ev.gt) <;> get_elem_tactic_extensible)
  | ((with_reducible apply Ev.ge) <;> get_elem_tactic_extensible)
  | ((with_reducible apply Ev.eqI) <;> get_elem_tactic_extensible)
  | ((with_reducible apply Ev.neI) <;> get_elem_tactic_extensible)
  | ((with_reducible apply Ev.isN) <;> get_elem_tactic_extensible)
  | ((with_reducible apply Ev.notN) <;> get_elem_tactic_extensible)
  | ((with_reducible apply Ev.notP) <;> get_elem_tactic_extensible)
  | ((with_reducible apply Ev.andP) <;> get_elem_tactic_extensible)
  | ((with_reducible apply Ev.orP) <;> get_elem_tactic_extensible)
  | ((with_reducible apply Ev.int_) <;> get_elem_tactic_extensible)
  | ((with_reducible apply Ev.intB) <;> get_elem_tactic_extensible)
  | ((with_reducible apply Ev.lenL) <;> get_elem_tactic_extensible)
  | ((with_reducible apply Ev.lenT) <;> get_elem_tactic_extensible)
  | ((with_reducible apply Ev.lenS) <;> get_elem_tactic_extensible)
  | ((with_reducible apply Ev.min_) <;> get_elem_tactic_extensible)
  | ((with_reducible apply Ev.max_) <;> get_elem_tactic_extensible)
  | ((with_reducible apply Ev.abs_) <;> get_elem_tactic_extensible)
  | ((with_reducible apply Ev.tupleL) <;> get_elem_tactic_extensible)
  | ((with_reducible apply Ev.tupleT) <;> get_elem_tactic_extensible)
  | ((with_reducible apply EvL.listL) <;> get_elem_tactic_extensible)
  | ((with_reducible apply EvL.listT) <;> get_elem_tactic_extensible)
  | ((with_reducible apply Ev.ixL) <;> get_elem_tactic_extensible)
  | ((with_reducible apply Ev.ixT) <;> get_elem_tactic_extensible)
  | ((with_reducible apply Ev.ixM) <;> get_elem_tactic_extensible)
  | ((with_reducible apply Ev.ixMT) <;> get_elem_tactic_extensible)
  | ((with_reducible apply Ev.tup) <;> get_elem_tactic_extensible)
  | ((with_reducible apply Ev.vL) <;> get_elem_tactic_extensible)
  | with_reducible exact EvL.nil
  | ((with_reducible apply EvL.cons) <;> get_elem_tactic_extensible)
  | ((with_reducible apply EvL.lenOk) <;> get_elem_tactic_extensible)
  | ((with_reducible apply EvL.range1) <;> get_elem_tactic_extensible)
  | ((with_reducible apply EvL.seqL) <;> get_elem_tactic_extensible)
  | ((with_reducible apply EvL.seqT) <;> get_elem_tactic_extensible)
  | ((with_reducible apply EvL.seqS) <;> get_elem_tactic_extensible)
  | (intro; get_elem_tactic_extensible)
  | exact (show GetElem?.getElem? (List.cons _ _) _ = some _ from rfl)
  | omega
  | (simp only [List.length_map, List.length_append, List.length_replicate, List.length_cons, List.length_nil, List.length_range] <;> omega))
/-- frozen, a sequence of things that are frozen one level below -/
theorem frz_seq {α : Type} (sm : List D → Option R) (A B : α → D) (xs : List α) (hl : xs.length ≤ 90000) (h : ∀ x ∈ xs, sm [A x] = some (.ok (B x))) (S : D) (hS : S = .lst (xs.map A) ∨ S = .tup (xs.map A)) :
    semF 2 (g_frozen sm) [S] = some (.ok (.tup (xs.map B))) := by
  have hc : Ev (v1 (isD [.lst, .tup]) (vVar 0)) [.v S, .no] (.bl (decide True)) := by
    rcases hS with rfl | rfl <;> exact Ev.v1 (Ev.var rfl) rfl
  have hi : EvL (iSeq (vVar 0)) [.v S, .no] (xs.map A) := by
    rcases hS with rfl | rfl
    · exact EvL.seqL (Ev.var rfl)
    · exact EvL.seqT (Ev.var rfl)
  have hlc := EvL.lc (fi := iSeq (vVar 0)) (fg := nmG 1) (ft := vYes) (fe := vCallP 1 0 [0] sm [] (aCons (vVar 1) (aNil)) (aNil)) (vs := [1]) (ρ := [.v S, .no]) xs A (fun x => some (B x)) hi hl fun x hx =>
    item_yes (ρ1 := [.v S, .v (A x)]) rfl (Ev.callP (ds := [A x]) (EvL.cons (Ev.var rfl) .nil) .nil ⟨rfl, rfl⟩ (h x hx))
  rw [filterMap_some] at hlc
  suffices H : Run (g_frozen sm) [.v S, .no] (Ret fun d => d = .tup (xs.map B)) by
    obtain ⟨d, h, rfl⟩ := sem_ret (n := 2) (ds := [S]) H
    exact h
  exact Run.seq (Run.ifP hc (fun _ => Run.ret (Ev.tupleL (Ev.vL hlc)) rfl) fun h => (h trivial).elim)
theorem frz_int {sm : List D → Option R} (i : Int) : semF 2 (g_frozen sm) [.int i] = some (.ok (.int i)) := rfl
theorem frz_non {sm : List D → Option R} : semF 2 (g_frozen sm) [.non] = some (.ok .non) := rfl
theorem frozen_ints (S : D) (xs : List Int) (hl : xs.length ≤ 90000) (hS : S = .lst (xs.map D.int) ∨ S = .tup (xs.map D.int)) : sem_frozen [S] = some (.ok (.tup (xs.map D.int))) :=
  frz_seq sem_frozen_2 D.int D.int xs hl (fun x _ => frz_int x) S hS
theorem frozen_opts (S : D) (xs : List (Option Int)) (hl : xs.length ≤ 90000) (hS : S = .lst (xs.map optD) ∨ S = .tup (xs.map optD)) : sem_frozen [S] = some (.ok (.tup (xs.map optD))) :=
  frz_seq sem_frozen_2 optD optD xs hl (fun x _ => by cases x; exact frz_non; exact frz_int _) S hS
theorem frozen_pairs (S : D) (xs : List (Int × Int)) (hl : xs.length ≤ 90000) (hS : S = .lst (xs.map pairD) ∨ S = .tup (xs.map pairD)) : sem_frozen [S] = some (.ok (.tup (xs.map pairD))) :=
  frz_seq sem_frozen_2 pairD pairD xs hl (fun x _ => frz_seq sem_frozen_1 D.int D.int [x.1, x.2] (by simp) (fun y _ => frz_int y) _ (.inr rfl)) S hS
theorem frozen_lets (S : D) (xs : List (List Int)) (hl : xs.length ≤ 90000) (hx : ∀ l ∈ xs, l.length ≤ 90000) (hS : S = .lst (xs.map letD) ∨ S = .tup (xs.map letD)) : sem_frozen [S] = some (.ok (.tup (xs.map letD))) :=
  frz_seq sem_frozen_2 letD letD xs hl (fun x h => frz_seq sem_frozen_1 D.int D.int x (hx x h) (fun y _ => frz_int y) _ (.inr rfl)) S hS
end LW
end

section
set_option maxHeartbeats 4000000
namespace LW
open PySem L2 EV
local macro_rules | `(tactic| get_elem_tactic_extensible) => `(tactic| first
  | ((with_reducible apply Ev.var); exact rfl)
  | with_reducible exact Ev.c
  | assumption
  | ((with_reducible apply Ev.add) <;> get_elem_tactic_extensible)
  | ((with_reducible apply Ev.sub) <;> get_elem_tactic_extensible)
  | ((with_reducible apply Ev.mulR) <;> get_elem_tactic_extensible)
  | ((with_reducible apply Ev.mulL) <;> get_elem_tactic_extensible)
  | ((with_reducible apply Ev.mod) <;> get_elem_tactic_extensible)
  | ((with_reducible apply Ev.fdiv) <;> get_elem_tactic_extensible)
  | ((with_reducible apply Ev.pow) <;> get_elem_tactic_extensible)
  | ((with_reducible apply Ev.neg) <;> get_elem_tactic_extensible)
  | ((with_reducible apply Ev.lt) <;> get_elem_tactic_extensible)
  | ((with_reducible apply Ev.le) <;> get_elem_tactic_extensible)
  | ((with_reducible apply Ev.gt) <;> get_elem_tactic_extensible)
  | ((with_reducible apply Ev.ge) <;> get_elem_tactic_extensible)
  | ((with_reducible apply Ev.eqI) <;> get_elem_tactic_extensible)
  | ((with_reducible apply Ev.neI) <;> get_elem_tactic_extensible)
  | ((with_reducible apply Ev.isN) <;> get_elem_tactic_extensible)
  | ((with_reducible apply Ev.notN) <;> get_elem_tactic_extensible)
  | ((with_reducible apply Ev.notP) <;> get_elem_tactic_extensible)
  | ((with_reducible apply Ev.andP) <;> get_elem_tactic_extensible)
  | ((with_reducible apply Ev.orP) <;> get_elem_tactic_extensible)
  | ((with_reducible apply Ev.int_) <;> get_elem_tactic_extensible)
  | ((with_reducible apply Ev.intB) <;> get_elem_tactic_extensible)
  | ((with_reducible apply Ev.lenL) <;> get_elem_tactic_extensible)
  | ((with_reducible apply Ev.lenT) <;> get_elem_tactic_extensible)
  | ((with_reducible apply Ev.lenS) <;> get_elem_tactic_extensible)
  | ((with_reducible apply Ev.min_) <;> get_elem_tactic_extensible)
  | ((with_reducible apply Ev.max_) <;> get_elem_tactic_extensible)
  | ((with_reducible apply Ev.abs_) <;> get_elem_tactic_extensible)
  | ((with_reducible apply Ev.tupleL) <;> get_elem_tactic_extensible)
  | ((with_reducible apply Ev.tupleT) <;> get_elem_tactic_extensible)
  | ((with_reducible apply EvL.listL) <;> get_elem_tactic_extensible)
  | ((with_reducible apply EvL.listT) <;> get_elem_tactic_extensible)
  | ((with_reducible apply Ev.ixL) <;> get_elem_tactic_extensible)
  | ((with_reducible apply Ev.ixT) <;> get_elem_tactic_extensible)
  | ((with_reducible apply Ev.ixM) <;> get_elem_tactic_extensible)
  | ((with_reducible apply Ev.ixMT) <;> get_elem_tactic_extensible)
  | ((with_reducible apply Ev.tup) <;> get_elem_tactic_extensible)
  | ((with_reducible apply Ev.vL) <;> get_elem_tactic_extensible)
  | with_reducible exact EvL.nil
  | ((with_reducible apply EvL.cons) <;> get_elem_tactic_extensible)
  | ((with_reducible apply EvL.lenOk) <;> get_elem_tactic_extensible)
  | ((with_reducible apply EvL.range1) <;> get_elem_tactic_extensible)
  | ((with_reducible apply EvL.seqL) <;> get_elem_tactic_extensible)
  | ((with_reducible apply EvL.seqT) <;> get_elem_tactic_extensible)
  | ((with_reducible apply EvL.seqS) <;> get_elem_tactic_extensible)
  | (intro; get_elem_tactic_extensible)
  | exact (show GetElem?.getElem? (List.cons _ _) _ = some _ from rfl)
  | omega
  | (simp only [List.length_map, List.length_append, List.length_replicate, List.length_cons, List.length_nil, List.length_range] <;> omega))
theorem enum_get {ds : List D} {k : Nat} {d : D} (h : (enumFrom 0 ds)[k]? = some d) : ∃ e, ds[k]? = some e ∧ d = .tup [.int (k : Nat), e] := by
  have hl := (List.getElem?_eq_some_iff.mp h).1
  rw [enumFrom_length] at hl
  have q := enumFrom_get ds 0 k ds[k] (List.getElem?_eq_getElem hl)
  rw [h, Nat.zero_add] at q
  exact ⟨_, List.getElem?_eq_getElem hl, Option.some.inj q⟩
theorem bad_index_ok (n : Nat) : sem_bad_index [.lst (List.replicate n (.bl true)), .int n] = some (.ok .non) := by
  suffices H : Run g_bad_index [.v (.lst (List.replicate n (.bl true))), .v (.int n), .no, .no] (Ret fun d => d = .non) by
    obtain ⟨d, h, rfl⟩ := sem_ret (n := 4) (ds := [.lst (List.replicate n (.bl true)), .int n]) H
    exact h
  refine Run.cut (fun ρ => ∃ a b, ρ = [.v (.lst (List.replicate n (.bl true))), .v (.int n), a, b]) ?_ fun ρ hρ => ?_
  · refine Run.for (fun _ ρ => ∃ a b, ρ = [.v (.lst (List.replicate n (.bl true))), .v (.int n), a, b]) (EvL.enumL (Ev.var rfl)) ⟨.no, .no, rfl⟩ (fun k d ρ hd hI => ?_) fun ρ hI => ?_
    · obtain ⟨a, b, rfl⟩ := hI
      obtain ⟨e, he, rfl⟩ := enum_get hd
      have hk := (List.getElem?_eq_some_iff.mp he).1
      rw [List.length_replicate] at hk
      have ee : e = .bl true := (List.mem_replicate.mp (List.mem_of_getElem? he)).2
      subst ee
      refine ⟨_, rfl, Run.ifP (P := (n : Int) ≤ (k : Int) ∨ ¬ True) (Ev.orP (Ev.ge (Ev.var rfl) (Ev.var rfl)) fun _ => Ev.notP (P := True) (Ev.var rfl)) (fun h => ?_) fun _ => Run.next ⟨_, _, rfl⟩⟩
      rcases h with h | h
      · omega
      · exact (h trivial).elim
    · obtain ⟨a, b, rfl⟩ := hI
      exact ⟨_, rfl, a, b, rfl⟩
  · obtain ⟨a, b, rfl⟩ := hρ
    refine Run.seq (Run.ifP (Ev.lt (Ev.lenL (Ev.var rfl)) (Ev.var rfl)) (fun h => ?_) fun _ => Run.next (Run.ret Ev.c rfl))
    rw [List.length_replicate] at h
    omega
end LW
end

section
set_option maxHeartbeats 4000000
namespace LW
open PySem L2 EV
local macro_rules | `(tactic| get_elem_tactic_extensible) => `(tactic| first
  | ((with_reducible apply Ev.var); exact rfl)
  | with_reducible exact Ev.c
  | assumption
  | ((with_reducible apply Ev.add) <;> get_elem_tactic_extensible)
  | ((with_reducible apply Ev.sub) <;> get_elem_tactic_extensible)
  | ((with_reducible apply Ev.mulR) <;> get_elem_tactic_extensible)
  | ((with_reducible apply Ev.mulL) <;> get_elem_tactic_extensible)
  | ((with_reducible apply Ev.mod) <;> get_elem_tactic_extensible)
  | ((with_reducible apply Ev.fdiv) <;> get_elem_tactic_extensible)
  | ((with_reducible apply Ev.pow) <;> get_elem_tactic_extensible)
  | ((with_reducible apply Ev.neg) <;> get_elem_tactic_extensible)
  | ((with_reducible apply Ev.lt) <;> get_elem_tactic_extensible)
  | ((with_reducible apply Ev.le) <;> get_elem_tactic_extensible)
  | ((with_reducible apply Ev.gt) <;> get_elem_tactic_extensible)
  | ((with_reducible apply Ev.ge) <;> get_elem_tactic_extensible)
  | ((with_reducible apply Ev.eqI) <;> get_elem_tactic_extensible)
  | ((with_reducible apply Ev.neI) <;> get_elem_tactic_extensible)
  | ((with_reducible apply Ev.isN) <;> get_elem_tactic_extensible)
  | ((with_reducible apply Ev.notN) <;> get_elem_tactic_extensible)
  | ((with_reducible apply Ev.notP) <;> get_elem_tactic_extensible)
  | ((with_reducible apply Ev.andP) <;> get_elem_tactic_extensible)
  | ((with_reducible apply Ev.orP) <;> get_elem_tactic_extensible)
  | ((with_reducible apply Ev.int_) <;> get_elem_tactic_extensible)
  | ((with_reducible apply Ev.intB) <;> get_elem_tactic_extensible)
  | ((with_reducible apply Ev.lenL) <;> get_elem_tactic_extensible)
  | ((with_reducible apply Ev.lenT) <;> get_elem_tactic_extensible)
  | ((with_reducible apply Ev.lenS) <;> get_elem_tactic_extensible)
  | ((with_reducible apply Ev.min_) <;> get_elem_tactic_extensible)
  | ((with_reducible apply Ev.max_) <;> get_elem_tactic_extensible)
  | ((with_reducible apply Ev.abs_) <;> get_elem_tactic_extensible)
  | ((with_reducible apply Ev.tupleL) <;> get_elem_tactic_extensible)
  | ((with_reducible apply Ev.tupleT) <;> get_elem_tactic_extensible)
  | ((with_reducible apply EvL.listL) <;> get_elem_tactic_extensible)
  | ((with_reducible apply EvL.listT) <;> get_elem_tactic_extensible)
  | ((with_reducible apply Ev.ixL) <;> get_elem_tactic_extensible)
  | ((with_reducible apply Ev.ixT) <;> get_elem_tactic_extensible)
  | ((with_reducible apply Ev.ixM) <;> get_elem_tactic_extensible)
  | ((with_reducible apply Ev.ixMT) <;> get_elem_tactic_extensible)
  | ((with_reducible apply Ev.tup) <;> get_elem_tactic_extensible)
  | ((with_reducible apply Ev.vL) <;> get_elem_tactic_extensible)
  | with_reducible exact EvL.nil
  | ((with_reducible apply EvL.cons) <;> get_elem_tactic_extensible)
  | ((with_reducible apply EvL.lenOk) <;> get_elem_tactic_extensible)
  | ((with_reducible apply EvL.range1) <;> get_elem_tactic_extensible)
  | ((with_reducible apply EvL.seqL) <;> get_elem_tactic_extensible)
  | ((with_reducible apply EvL.seqT) <;> get_elem_tactic_extensible)
  | ((with_reducible apply EvL.seqS) <;> get_elem_tactic_extensible)
  | (intro; get_elem_tactic_extensible)
  | exact (show GetElem?.getElem? (List.cons _ _) _ = some _ from rfl)
  | omega
  | (simp only [List.length_map, List.length_append, List.length_replicate, List.length_cons, List.length_nil, List.length_range] <;> omega))
def landD (mills : Int) (ps : List (Int × Int)) : D := .obj 7 [.int mills, .tup (ps.map pairD)]
theorem map_true {α : Type} (xs : List α) : xs.map (fun _ => D.bl true) = List.replicate xs.length (D.bl true) := by
  apply List.ext_getElem
  · simp
  · intro i h1 h2
    simp
/-- all([.. for x in xs]) each True -/
theorem lc_true {α : Type} {fe : FE} {v : Nat} {vs : List Nat} {ρ : EV.Env} {fi : FL} (xs : List α) (A : α → D) (hi : EvL fi ρ (xs.map A)) (hl : xs.length ≤ 90000) (h : ∀ x ∈ xs, Ev fe ((mask (wipeE ρ vs)).set v (.v (A x))) (.bl true)) : EvL (nLc fi (nmG v) vYes fe vs) ρ (List.replicate xs.length (.bl true)) := by
  have q := EvL.lc (fi := fi) (fg := nmG v) (ft := vYes) (fe := fe) (vs := vs) (ρ := ρ) xs A (fun _ => some (.bl true)) hi hl (fun x hx => item_yes rfl (h x hx))
  rw [filterMap_some, map_true] at q
  exact q
theorem bl_true {f : FE} {ρ : EV.Env} {P : Prop} {iP : Decidable P} (h : Ev f ρ (.bl (decide P))) (hp : P) : Ev f ρ (.bl true) := by
  rw [decide_eq_true hp] at h
  exact h
theorem check_needs_ok (mills : Int) (ps : List (Int × Int)) (low : List Int) (m0 : 0 ≤ mills) (m2 : mills ≤ 1000) (nn : NNs mills.toNat low) : sem_check_needs [landD mills ps, .tup (low.map D.int)] = some (.ok .non) := by
  suffices H : Run g_check_needs [.v (landD mills ps), .v (.tup (low.map D.int)), .no, .no] (Ret fun d => d = .non) by
    obtain ⟨d, h, rfl⟩ := sem_ret (n := 4) (ds := [landD mills ps, .tup (low.map D.int)]) H
    exact h
  have hl : (mills.toNat : Int) = mills := by omega
  refine Run.sset (d := .non) (Ev.callP (ds := [.lst (List.replicate low.length (.bl true)), .int mills]) (EvL.cons (Ev.vL (lc_true low D.int (EvL.seqT (Ev.var rfl)) (by rw [nn.1]; omega) fun x hx => ?_)) (EvL.cons (Ev.v1 (Ev.var rfl) rfl) .nil)) .nil ⟨rfl, rfl⟩ (by
    have q := bad_index_ok low.length
    rw [nn.1, hl] at q
    rw [nn.1]
    exact q)) (Run.ifP (P := False) (iP := instDecidableFalse) (Ev.v2 (Ev.var rfl) Ev.c rfl) (fun h => h.elim) fun _ => Run.next rfl)
  exact bl_true (Ev.andP (P := True) (Q := 0 ≤ x) (Ev.v2 (Ev.var rfl) Ev.c rfl) fun _ => Ev.ge (Ev.var rfl) Ev.c) ⟨trivial, nn.2 x hx⟩
theorem check_limits_ok (mills : Int) (ps : List (Int × Int)) (high : List (Option Int)) (m0 : 0 ≤ mills) (m2 : mills ≤ 1000) (hh : high.length = mills.toNat) (hp : ∀ h ∈ high, Pos h) : sem_check_limits [landD mills ps, .tup (high.map optD)] = some (.ok .non) := by
  suffices H : Run g_check_limits [.v (landD mills ps), .v (.tup (high.map optD)), .no, .no] (Ret fun d => d = .non) by
    obtain ⟨d, h, rfl⟩ := sem_ret (n := 4) (ds := [landD mills ps, .tup (high.map optD)]) H
    exact h
  have hl : (mills.toNat : Int) = mills := by omega
  refine Run.sset (d := .non) (Ev.callP (ds := [.lst (List.replicate high.length (.bl true)), .int mills]) (EvL.cons (Ev.vL (lc_true high optD (EvL.seqT (Ev.var rfl)) (by rw [hh]; omega) fun x hx => ?_)) (EvL.cons (Ev.v1 (Ev.var rfl) rfl) .nil)) .nil ⟨rfl, rfl⟩ (by
    have q := bad_index_ok high.length
    rw [hh, hl] at q
    rw [hh]
    exact q)) (Run.ifP (P := False) (iP := instDecidableFalse) (Ev.v2 (Ev.var rfl) Ev.c rfl) (fun h => h.elim) fun _ => Run.next rfl)
  cases x with
  | none => exact bl_true (Ev.orP (P := True) (Q := True) (iP := instDecidableTrue) (iQ := instDecidableTrue) (Ev.v2 (Ev.var rfl) Ev.c rfl) fun h => absurd trivial h) (.inl trivial)
  | some v => exact bl_true (Ev.orP (P := False) (Q := 0 ≤ v) (Ev.v2 (Ev.var rfl) Ev.c rfl) fun _ => Ev.ge (Ev.var rfl) Ev.c) (.inr (hp _ hx v rfl))
theorem check_pairs_ok (mills : Int) (ps : List (Int × Int)) (ok : PairsOk mills ps) : sem_check_pairs [.int mills, .tup (ps.map pairD)] = some (.ok .non) := by
  suffices H : Run g_check_pairs [.v (.int mills), .v (.tup (ps.map pairD)), .no, .no, .no] (Ret fun d => d = .non) by
    obtain ⟨d, h, rfl⟩ := sem_ret (n := 5) (ds := [.int mills, .tup (ps.map pairD)]) H
    exact h
  refine Run.for (fun _ ρ => ∃ a b c, ρ = [.v (.int mills), .v (.tup (ps.map pairD)), a, b, c]) (EvL.enumT (Ev.var rfl)) ⟨.no, .no, .no, rfl⟩ (fun k d ρ hd hI => ?_) fun ρ hI => rfl
  obtain ⟨a, b, c, rfl⟩ := hI
  obtain ⟨e, he, rfl⟩ := enum_get hd
  rw [List.getElem?_map] at he
  obtain ⟨p, hp, rfl⟩ := Option.map_eq_some_iff.mp he
  have hm := ok p (List.mem_of_getElem? hp)
  refine ⟨_, rfl, Run.ifP (P := p.1 < 0 ∨ mills ≤ p.1 ∨ p.2 < 0 ∨ mills ≤ p.2 ∨ p.1 = p.2) (by get_elem_tactic_extensible) (fun h => ?_) fun _ => Run.next ⟨_, _, _, rfl⟩⟩
  omega
end LW
end

section
set_option maxHeartbeats 4000000
namespace LW
open PySem L2 EV
local macro_rules | `(tactic| get_elem_tactic_extensible) => `(tactic| first
  | ((with_reducible apply Ev.var); exact rfl)
  | with_reducible exact Ev.c
  | assumption
  | ((with_reducible apply Ev.add) <;> get_elem_tactic_extensible)
  | ((with_reducible apply Ev.sub) <;> get_elem_tactic_extensible)
  | ((with_reducible apply Ev.mulR) <;> get_elem_tactic_extensible)
  | ((with_reducible apply Ev.mulL) <;> get_elem_tactic_extensible)
  | ((with_reducible apply Ev.mod) <;> get_elem_tactic_extensible)
  | ((with_reducible apply Ev.fdiv) <;> get_elem_tactic_extensible)
  | ((with_reducible apply Ev.pow) <;> get_elem_tactic_extensible)
  | ((with_reducible apply Ev.neg) <;> get_elem_tactic_extensible)
  | ((with_reducible apply Ev.lt) <;> get_elem_tactic_extensible)
  | ((with_reducible apply Ev.le) <;> get_elem_tactic_extensible)
  | ((with_reducible apply Ev.gt) <;> get_elem_tactic_extensible)
  | ((with_reducible apply Ev.ge) <;> get_elem_tactic_extensible)
  | ((with_reducible apply Ev.eqI) <;> get_elem_tactic_extensible)
  | ((with_reducible apply Ev.neI) <;> get_elem_tactic_extensible)
  | ((with_reducible apply Ev.isN) <;> get_elem_tactic_extensible)
  | ((with_reducible apply Ev.notN) <;> get_elem_tactic_extensible)
  | ((with_reducible apply Ev.notP) <;> get_elem_tactic_extensible)
  | ((with_reducible apply Ev.andP) <;> get_elem_tactic_extensible)
  | ((with_reducible apply Ev.orP) <;> get_elem_tactic_extensible)
  | ((with_reducible apply Ev.int_) <;> get_elem_tactic_extensible)
  | ((with_reducible apply Ev.intB) <;> get_elem_tactic_extensible)
  | ((with_reducible apply Ev.lenL) <;> get_elem_tactic_extensible)
  | ((with_reducible apply Ev.lenT) <;> get_elem_tactic_extensible)
  | ((with_reducible apply Ev.lenS) <;> get_elem_tactic_extensible)
  | ((with_reducible apply Ev.min_) <;> get_elem_tactic_extensible)
  | ((with_reducible apply Ev.max_) <;> get_elem_tactic_extensible)
  | ((with_reducible apply Ev.abs_) <;> get_elem_tactic_extensible)
  | ((with_reducible apply Ev.tupleL) <;> get_elem_tactic_extensible)
  | ((with_reducible apply Ev.tupleT) <;> get_elem_tactic_extensible)
  | ((with_reducible apply EvL.listL) <;> get_elem_tactic_extensible)
  | ((with_reducible apply EvL.listT) <;> get_elem_tactic_extensible)
  | ((with_reducible apply Ev.ixL) <;> get_elem_tactic_extensible)
  | ((with_reducible apply Ev.ixT) <;> get_elem_tactic_extensible)
  | ((with_reducible apply Ev.ixM) <;> get_elem_tactic_extensible)
  | ((with_reducible apply Ev.ixMT) <;> get_elem_tactic_extensible)
  | ((with_reducible apply Ev.tup) <;> get_elem_tactic_extensible)
  | ((with_reducible apply Ev.vL) <;> get_elem_tactic_extensible)
  | with_reducible exact EvL.nil
  | ((with_reducible apply EvL.cons) <;> get_elem_tactic_extensible)
  | ((with_reducible apply EvL.lenOk) <;> get_elem_tactic_extensible)
  | ((with_reducible apply EvL.range1) <;> get_elem_tactic_extensible)
  | ((with_reducible apply EvL.seqL) <;> get_elem_tactic_extensible)
  | ((with_reducible apply EvL.seqT) <;> get_elem_tactic_extensible)
  | ((with_reducible apply EvL.seqS) <;> get_elem_tactic_extensible)
  | (intro; get_elem_tactic_extensible)
  | exact (show GetElem?.getElem? (List.cons _ _) _ = some _ from rfl)
  | omega
  | (simp only [List.length_map, List.length_append, List.length_replicate, List.length_cons, List.length_nil, List.length_range] <;> omega))
theorem check_sides_ok (mills : Int) (ps : List (Int × Int)) (lets : List (List Int)) (hl : lets.length = ps.length) (h2 : ps.length ≤ 1000) (hp : ∀ l ∈ lets, l ∈ lets4) : sem_check_sides [landD mills ps, .tup (lets.map letD)] = some (.ok .non) := by
  suffices H : Run g_check_sides [.v (landD mills ps), .v (.tup (lets.map letD)), .no, .no] (Ret fun d => d = .non) by
    obtain ⟨d, h, rfl⟩ := sem_ret (n := 4) (ds := [landD mills ps, .tup (lets.map letD)]) H
    exact h
  refine Run.sset (d := .non) (Ev.callP (ds := [.lst (List.replicate lets.length (.bl true)), .int ((ps.map pairD).length : Nat)]) (EvL.cons (Ev.vL (lc_true lets letD (EvL.seqT (Ev.var rfl)) (by omega) fun x hx => ?_)) (EvL.cons (Ev.lenT (Ev.v1 (Ev.var rfl) rfl)) .nil)) .nil ⟨rfl, rfl⟩ (by
    have q := bad_index_ok lets.length
    rw [hl] at q ⊢
    rw [List.length_map]
    exact q)) (Run.ifP (P := False) (iP := instDecidableFalse) (Ev.v2 (Ev.var rfl) Ev.c rfl) (fun h => h.elim) fun _ => Run.next rfl)
  have hx4 := hp x hx
  simp only [lets4, List.mem_cons, List.not_mem_nil, or_false] at hx4
  rcases hx4 with rfl | rfl | rfl | rfl <;> exact Ev.v2 (Ev.var rfl) Ev.c rfl
theorem sem_ins {ci n : Nat} {g : FS} {ds : List D} {fs : List D} (h : Run g (Sl.ins ci [] :: (ds.map Sl.v ++ List.replicate (n - 1 - ds.length) Sl.no)) fun o => ∃ ρ, o = .nx ρ ∧ ρ[(0 : Nat)]? = some (.ins ci fs)) : semI ci n g ds = some (.ok (.obj ci fs)) := by
  obtain ⟨o, e, ρ, rfl, h0⟩ := h
  unfold semI
  rw [e]
  simp only [h0, if_true]
theorem Valley_ok (mills : Int) (ps : List (Int × Int)) (ok : PairsOk mills ps) (hl : ps.length ≤ 1000) (S : D) (hS : S = .lst (ps.map pairD) ∨ S = .tup (ps.map pairD)) : sem_Valley__init [.int mills, S] = some (.ok (landD mills ps)) := by
  refine sem_ins (n := 4) (ds := [.int mills, S]) ?_
  show Run g_Valley__init [.ins 7 [], .v (.int mills), .v S, .no] _
  have ef := frozen_pairs S ps (by omega) hS
  refine Run.sset (Ev.callP (ds := [S]) (EvL.cons (Ev.var rfl) .nil) .nil ⟨rfl, rfl⟩ ef) (Run.sdrop (Ev.callP (ds := [.int mills, .tup (ps.map pairD)]) (EvL.cons (Ev.var rfl) (EvL.cons (Ev.var rfl) .nil)) .nil ⟨rfl, rfl⟩ (check_pairs_ok mills ps ok)) ?_)
  exact Run.sfld (xs := []) rfl rfl (Ev.var rfl) (Run.fld (xs := [.int mills]) rfl rfl (Ev.var rfl) ⟨_, rfl, rfl⟩)
end LW
end

section
set_option maxHeartbeats 4000000
namespace LW
open PySem L2 EV
local macro_rules | `(tactic| get_elem_tactic_extensible) => `(tactic| first
  | ((with_reducible apply Ev.var); exact rfl)
  | with_reducible exact Ev.c
  | assumption
  | ((with_reducible apply Ev.add) <;> get_elem_tactic_extensible)
  | ((with_reducible apply Ev.sub) <;> get_elem_tactic_extensible)
  | ((with_reducible apply Ev.mulR) <;> get_elem_tactic_extensible)
  | ((with_reducible apply Ev.mulL) <;> get_elem_tactic_extensible)
  | ((with_reducible apply Ev.mod) <;> get_elem_tactic_extensible)
  | ((with_reducible apply Ev.fdiv) <;> get_elem_tactic_extensible)
  | ((with_reducible apply Ev.pow) <;> get_elem_tactic_extensible)
  | ((with_reducible apply Ev.neg) <;> get_elem_tactic_extensible)
  | ((with_reducible apply Ev.lt) <;> get_elem_tactic_extensible)
  | ((with_reducible apply Ev.le) <;> get_elem_tactic_extensible)
  | ((with_reducible apply Ev.gt) <;> get_elem_tactic_extensible)
  | ((with_reducible apply Ev.ge) <;> get_elem_tactic_extensible)
  | ((with_reducible apply Ev.eqI) <;> get_elem_tactic_extensible)
  | ((with_reducible apply Ev.neI) <;> get_elem_tactic_extensible)
  | ((with_reducible apply Ev.isN) <;> get_elem_tactic_extensible)
  | ((with_reducible apply Ev.notN) <;> get_elem_tactic_extensible)
  | ((with_reducible apply Ev.notP) <;> get_elem_tactic_extensible)
  | ((with_reducible apply Ev.andP) <;> get_elem_tactic_extensible)
  | ((with_reducible apply Ev.orP) <;> get_elem_tactic_extensible)
  | ((with_reducible apply Ev.int_) <;> get_elem_tactic_extensible)
  | ((with_reducible apply Ev.intB) <;> get_elem_tactic_extensible)
  | ((with_reducible apply Ev.lenL) <;> get_elem_tactic_extensible)
  | ((with_reducible apply Ev.lenT) <;> get_elem_tactic_extensible)
  | ((with_reducible apply Ev.lenS) <;> get_elem_tactic_extensible)
  | ((with_reducible apply Ev.min_) <;> get_elem_tactic_extensible)
  | ((with_reducible apply Ev.max_) <;> get_elem_tactic_extensible)
  | ((with_reducible apply Ev.abs_) <;> get_elem_tactic_extensible)
  | ((with_reducible apply Ev.tupleL) <;> get_elem_tactic_extensible)
  | ((with_reducible apply Ev.tupleT) <;> get_elem_tactic_extensible)
  | ((with_reducible apply EvL.listL) <;> get_elem_tactic_extensible)
  | ((with_reducible apply EvL.listT) <;> get_elem_tactic_extensible)
  | ((with_reducible apply Ev.ixL) <;> get_elem_tactic_extensible)
  | ((with_reducible apply Ev.ixT) <;> get_elem_tactic_extensible)
  | ((with_reducible apply Ev.ixM) <;> get_elem_tactic_extensible)
  | ((with_reducible apply Ev.ixMT) <;> get_elem_tactic_extensible)
  | ((with_reducible apply Ev.tup) <;> get_elem_tactic_extensible)
  | ((with_reducible apply Ev.vL) <;> get_elem_tactic_extensible)
  | with_reducible exact EvL.nil
  | ((with_reducible apply EvL.cons) <;> get_elem_tactic_extensible)
  | ((with_reducible apply EvL.lenOk) <;> get_elem_tactic_extensible)
  | ((with_reducible apply EvL.range1) <;> get_elem_tactic_extensible)
  | ((with_reducible apply EvL.seqL) <;> get_elem_tactic_extensible)
  | ((with_reducible apply EvL.seqT) <;> get_elem_tactic_extensible)
  | ((with_reducible apply EvL.seqS) <;> get_elem_tactic_extensible)
  | (intro; get_elem_tactic_extensible)
  | exact (show GetElem?.getElem? (List.cons _ _) _ = some _ from rfl)
  | omega
  | (simp only [List.length_map, List.length_append, List.length_replicate, List.length_cons, List.length_nil, List.length_range] <;> omega))
def seasonD (land : D) (low : List Int) (high : List (Option Int)) (lets : List (List Int)) : D := .obj 6 [land, .tup (low.map D.int), .tup (high.map optD), .tup (lets.map letD)]
theorem lets_len {lets : List (List Int)} (hp : ∀ l ∈ lets, l ∈ lets4) : ∀ l ∈ lets, l.length ≤ 90000 := fun l hl => by
  have hx4 := hp l hl
  simp only [lets4, List.mem_cons, List.not_mem_nil, or_false] at hx4
  rcases hx4 with rfl | rfl | rfl | rfl <;> decide
theorem Season_ok {mills : Int} {ps : List (Int × Int)} {low : List Int} {high : List (Option Int)} {lets : List (List Int)} (w : WOk mills ps low high lets) : sem_Season__init [landD mills ps, .lst (low.map D.int), .lst (high.map optD), .lst (lets.map letD)] = some (.ok (seasonD (landD mills ps) low high lets)) := by
  refine sem_ins (n := 6) (ds := [landD mills ps, .lst (low.map D.int), .lst (high.map optD), .lst (lets.map letD)]) ?_
  show Run g_Season__init [.ins 6 [], .v (landD mills ps), .v (.lst (low.map D.int)), .v (.lst (high.map optD)), .v (.lst (lets.map letD)), .no] _
  have m1 := w.m1
  have m2 := w.m2
  have e1 := frozen_ints (.lst (low.map D.int)) low (by rw [w.lo.1]; omega) (.inl rfl)
  have e2 := frozen_opts (.lst (high.map optD)) high (by rw [w.hl]; omega) (.inl rfl)
  have e3 := frozen_lets (.lst (lets.map letD)) lets (by rw [w.ll]; have := w.pl; omega) (lets_len w.lp) (.inl rfl)
  have c1 := check_needs_ok mills ps low (by omega) (by omega) w.lo
  have c2 := check_limits_ok mills ps high (by omega) (by omega) w.hl w.hp
  have c3 := check_sides_ok mills ps lets w.ll (by have := w.pl; omega) w.lp
  have no : ∀ (i : Nat) (x : FE) (ρ : EV.Env) (d : D), ρ[i]? = some (.v d) → d.isNon = false → Ev (v2 isNonD (vVar i) (vC .non)) ρ (.bl (decide False)) := fun i x ρ d h hd => Ev.v2 (Ev.var h) Ev.c (by show some (D.bl d.isNon) = _; rw [hd]; rfl)
  refine Run.seq (Run.ifP (P := False) (no 2 (vVar 0) _ _ rfl rfl) (fun h => h.elim) fun _ => Run.next ?_)
  refine Run.seq (Run.ifP (P := False) (no 3 (vVar 0) _ _ rfl rfl) (fun h => h.elim) fun _ => Run.next ?_)
  refine Run.seq (Run.ifP (P := False) (no 4 (vVar 0) _ _ rfl rfl) (fun h => h.elim) fun _ => Run.next ?_)
  refine Run.sfld (xs := []) rfl rfl (Ev.var rfl) (Run.sfld (xs := [landD mills ps]) rfl rfl (Ev.callP (ds := [.lst (low.map D.int)]) (EvL.cons (Ev.var rfl) .nil) .nil ⟨rfl, rfl⟩ e1) ?_)
  refine Run.sfld (xs := [landD mills ps, .tup (low.map D.int)]) rfl rfl (Ev.callP (ds := [.lst (high.map optD)]) (EvL.cons (Ev.var rfl) .nil) .nil ⟨rfl, rfl⟩ e2) ?_
  refine Run.sfld (xs := [landD mills ps, .tup (low.map D.int), .tup (high.map optD)]) rfl rfl (Ev.callP (ds := [.lst (lets.map letD)]) (EvL.cons (Ev.var rfl) .nil) .nil ⟨rfl, rfl⟩ e3) ?_
  refine Run.sdropA (Ev.callP (ds := [landD mills ps, .tup (low.map D.int)]) (EvL.cons (Ev.var rfl) (EvL.cons (Ev.v1 (Ev.var rfl) rfl) .nil)) .nil ⟨rfl, rfl⟩ c1) rfl ?_
  refine Run.sdropA (Ev.callP (ds := [landD mills ps, .tup (high.map optD)]) (EvL.cons (Ev.var rfl) (EvL.cons (Ev.v1 (Ev.var rfl) rfl) .nil)) .nil ⟨rfl, rfl⟩ c2) rfl ?_
  exact Run.dropA (Ev.callP (ds := [landD mills ps, .tup (lets.map letD)]) (EvL.cons (Ev.var rfl) (EvL.cons (Ev.v1 (Ev.var rfl) rfl) .nil)) .nil ⟨rfl, rfl⟩ c3) rfl ⟨_, rfl, rfl⟩
end LW
end

section
set_option maxHeartbeats 4000000
namespace LW
open PySem L2 EV
local macro_rules | `(tactic| get_elem_tactic_extensible) => `(tactic| first
  | ((with_reducible apply Ev.var); exact rfl)
  | with_reducible exact Ev.c
  | assumption
  | ((with_reducible apply Ev.add) <;> get_elem_tactic_extensible)
  | ((with_reducible apply Ev.sub) <;> get_elem_tactic_extensible)
  | ((with_reducible apply Ev.mulR) <;> get_elem_tactic_extensible)
  | ((with_reducible apply Ev.mulL) <;> get_elem_tactic_extensible)
  | ((with_reducible apply Ev.mod) <;> get_elem_tactic_extensible)
  | ((with_reducible apply Ev.fdiv) <;> get_elem_tactic_extensible)
  | ((with_reducible apply Ev.pow) <;> get_elem_tactic_extensible)
  | ((with_reducible apply Ev.neg) <;> get_elem_tactic_extensible)
  | ((with_reducible apply Ev.lt) <;> get_elem_tactic_extensible)
  | ((with_reducible apply Ev.le) <;> get_elem_tactic_extensible)
  | ((with_reducible apply Ev.gt) <;> get_elem_tactic_extensible)
  | ((with_reducible apply Ev.ge) <;> get_elem_tactic_extensible)
  | ((with_reducible apply Ev.eqI) <;> get_elem_tactic_extensible)
  | ((with_reducible apply Ev.neI) <;> get_elem_tactic_extensible)
  | ((with_reducible apply Ev.isN) <;> get_elem_tactic_extensible)
  | ((with_reducible apply Ev.notN) <;> get_elem_tactic_extensible)
  | ((with_reducible apply Ev.notP) <;> get_elem_tactic_extensible)
  | ((with_reducible apply Ev.andP) <;> get_elem_tactic_extensible)
  | ((with_reducible apply Ev.orP) <;> get_elem_tactic_extensible)
  | ((with_reducible apply Ev.int_) <;> get_elem_tactic_extensible)
  | ((with_reducible apply Ev.intB) <;> get_elem_tactic_extensible)
  | ((with_reducible apply Ev.lenL) <;> get_elem_tactic_extensible)
  | ((with_reducible apply Ev.lenT) <;> get_elem_tactic_extensible)
  | ((with_reducible apply Ev.lenS) <;> get_elem_tactic_extensible)
  | ((with_reducible apply Ev.min_) <;> get_elem_tactic_extensible)
  | ((with_reducible apply Ev.max_) <;> get_elem_tactic_extensible)
  | ((with_reducible apply Ev.abs_) <;> get_elem_tactic_extensible)
  | ((with_reducible apply Ev.tupleL) <;> get_elem_tactic_extensible)
  | ((with_reducible apply Ev.tupleT) <;> get_elem_tactic_extensible)
  | ((with_reducible apply EvL.listL) <;> get_elem_tactic_extensible)
  | ((with_reducible apply EvL.listT) <;> get_elem_tactic_extensible)
  | ((with_reducible apply Ev.ixL) <;> get_elem_tactic_extensible)
  | ((with_reducible apply Ev.ixT) <;> get_elem_tactic_extensible)
  | ((with_reducible apply Ev.ixM) <;> get_elem_tactic_extensible)
  | ((with_reducible apply Ev.ixMT) <;> get_elem_tactic_extensible)
  | ((with_reducible apply Ev.tup) <;> get_elem_tactic_extensible)
  | ((with_reducible apply Ev.vL) <;> get_elem_tactic_extensible)
  | with_reducible exact EvL.nil
  | ((with_reducible apply EvL.cons) <;> get_elem_tactic_extensible)
  | ((with_reducible apply EvL.lenOk) <;> get_elem_tactic_extensible)
  | ((with_reducible apply EvL.range1) <;> get_elem_tactic_extensible)
  | ((with_reducible apply EvL.seqL) <;> get_elem_tactic_extensible)
  | ((with_reducible apply EvL.seqT) <;> get_elem_tactic_extensible)
  | ((with_reducible apply EvL.seqS) <;> get_elem_tactic_extensible)
  | (intro; get_elem_tactic_extensible)
  | exact (show GetElem?.getElem? (List.cons _ _) _ = some _ from rfl)
  | omega
  | (simp only [List.length_map, List.length_append, List.length_replicate, List.length_cons, List.length_nil, List.length_range] <;> omega))
theorem law_season_ok {mills : Int} {ps : List (Int × Int)} {low : List Int} {high : List (Option Int)} {lets : List (List Int)} (rest : List D) (w : WOk mills ps low high lets) : sem_law_season [wD mills ps low high lets rest] = some (.ok (seasonD (landD mills ps) low high lets)) := by
  suffices H : Run g_law_season [.v (wD mills ps low high lets rest)] (Ret fun d => d = seasonD (landD mills ps) low high lets) by
    obtain ⟨d, h, rfl⟩ := sem_ret (n := 1) (ds := [wD mills ps low high lets rest]) H
    exact h
  have eV := Valley_ok mills ps w.ok (by have := w.pl; omega) (.lst (ps.map pairD)) (.inl rfl)
  have eS := Season_ok w
  unfold wD
  refine Run.ret (Ev.callP (ds := [landD mills ps]) (es := [.lst (low.map D.int), .lst (high.map optD), .lst (lets.map letD)]) (EvL.cons (Ev.callP (ds := [.int mills, .lst (ps.map pairD)]) (EvL.cons (Ev.ixL (Ev.var rfl) Ev.c (by omega) rfl) (EvL.cons (Ev.vL (EvL.listL (Ev.ixL (Ev.var rfl) Ev.c (by omega) rfl))) .nil)) .nil ⟨rfl, rfl⟩ eV) .nil)
    (EvL.cons (Ev.vL (EvL.listL (Ev.ixL (Ev.var rfl) Ev.c (by omega) rfl))) (EvL.cons (Ev.vL (EvL.listL (Ev.ixL (Ev.var rfl) Ev.c (by omega) rfl))) (EvL.cons (Ev.vL (EvL.listL (Ev.ixL (Ev.var rfl) Ev.c (by omega) rfl))) .nil))) ⟨rfl, rfl⟩ eS) rfl
end LW
end

section
set_option maxHeartbeats 4000000
namespace LW
open PySem L2 EV
local macro_rules | `(tactic| get_elem_tactic_extensible) => `(tactic| first
  | ((with_reducible apply Ev.var); exact rfl)
  | with_reducible exact Ev.c
  | assumption
  | ((with_reducible apply Ev.add) <;> get_elem_tactic_extensible)
  | ((with_reducible apply Ev.sub) <;> get_elem_tactic_extensible)
  | ((with_reducible apply Ev.mulR) <;> get_elem_tactic_extensible)
  | ((with_reducible apply Ev.mulL) <;> get_elem_tactic_extensible)
  | ((with_reducible apply Ev.mod) <;> get_elem_tactic_extensible)
  | ((with_reducible apply Ev.fdiv) <;> get_elem_tactic_extensible)
  | ((with_reducible apply Ev.pow) <;> get_elem_tactic_extensible)
  | ((with_reducible apply Ev.neg) <;> get_elem_tactic_extensible)
  | ((with_reducible apply Ev.lt) <;> get_elem_tactic_extensible)
  | ((with_reducible apply Ev.le) <;> get_elem_tactic_extensible)
  | ((with_reducible apply Ev.gt) <;> get_elem_tactic_extensible)
  | ((with_reducible apply Ev.ge) <;> get_elem_tactic_extensible)
  | ((with_reducible apply Ev.eqI) <;> get_elem_tactic_extensible)
  | ((with_reducible apply Ev.neI) <;> get_elem_tactic_extensible)
  | ((with_reducible apply Ev.isN) <;> get_elem_tactic_extensible)
  | ((with_reducible apply Ev.notN) <;> get_elem_tactic_extensible)
  | ((with_reducible apply Ev.notP) <;> get_elem_tactic_extensible)
  | ((with_reducible apply Ev.andP) <;> get_elem_tactic_extensible)
  | ((with_reducible apply Ev.orP) <;> get_elem_tactic_extensible)
  | ((with_reducible apply Ev.int_) <;> get_elem_tactic_extensible)
  | ((with_reducible apply Ev.intB) <;> get_elem_tactic_extensible)
  | ((with_reducible apply Ev.lenL) <;> get_elem_tactic_extensible)
  | ((with_reducible apply Ev.lenT) <;> get_elem_tactic_extensible)
  | ((with_reducible apply Ev.lenS) <;> get_elem_tactic_extensible)
  | ((with_reducible apply Ev.min_) <;> get_elem_tactic_extensible)
  | ((with_reducible apply Ev.max_) <;> get_elem_tactic_extensible)
  | ((with_reducible apply Ev.abs_) <;> get_elem_tactic_extensible)
  | ((with_reducible apply Ev.tupleL) <;> get_elem_tactic_extensible)
  | ((with_reducible apply Ev.tupleT) <;> get_elem_tactic_extensible)
  | ((with_reducible apply EvL.listL) <;> get_elem_tactic_extensible)
  | ((with_reducible apply EvL.listT) <;> get_elem_tactic_extensible)
  | ((with_reducible apply Ev.ixL) <;> get_elem_tactic_extensible)
  | ((with_reducible apply Ev.ixT) <;> get_elem_tactic_extensible)
  | ((with_reducible apply Ev.ixM) <;> get_elem_tactic_extensible)
  | ((with_reducible apply Ev.ixMT) <;> get_elem_tactic_extensible)
  | ((with_reducible apply Ev.tup) <;> get_elem_tactic_extensible)
  | ((with_reducible apply Ev.vL) <;> get_elem_tactic_extensible)
  | with_reducible exact EvL.nil
  | ((with_reducible apply EvL.cons) <;> get_elem_tactic_extensible)
  | ((with_reducible apply EvL.lenOk) <;> get_elem_tactic_extensible)
  | ((with_reducible apply EvL.range1) <;> get_elem_tactic_extensible)
  | ((with_reducible apply EvL.seqL) <;> get_elem_tactic_extensible)
  | ((with_reducible apply EvL.seqT) <;> get_elem_tactic_extensible)
  | ((with_reducible apply EvL.seqS) <;> get_elem_tactic_extensible)
  | (intro; get_elem_tactic_extensible)
  | exact (show GetElem?.getElem? (List.cons _ _) _ = some _ from rfl)
  | omega
  | (simp only [List.length_map, List.length_append, List.length_replicate, List.length_cons, List.length_nil, List.length_range] <;> omega))
mutual
theorem eqv_refl : ∀ (n : Nat) (d : D), D.pl n d = true → D.eqv d d = true
  | _, .non, _ => by simp [D.eqv]
  | _, .bl b, _ => by simp [D.eqv]
  | _, .int i, _ => by simp [D.eqv]
  | _, .str s, _ => by simp [D.eqv]
  | n + 1, .tup xs, h => by
    simp only [D.eqv]
    exact eqvs_refl n xs (by simpa [D.pl] using h)
  | n + 1, .lst xs, h => by
    simp only [D.eqv]
    exact eqvs_refl n xs (by simpa [D.pl] using h)
  | 0, .tup _, h => by simp [D.pl] at h
  | 0, .lst _, h => by simp [D.pl] at h
  | n, .obj _ _, h => by cases n <;> simp [D.pl] at h
  | n, .scr _, h => by cases n <;> simp [D.pl] at h
theorem eqvs_refl : ∀ (n : Nat) (xs : List D), D.pls n xs = true → D.eqvs xs xs = true
  | _, [], _ => by simp [D.eqvs]
  | n, x :: xs, h => by
    rw [D.pls, Bool.and_eq_true] at h
    simp only [D.eqvs, Bool.and_eq_true]
    exact ⟨eqv_refl n x h.1, eqvs_refl n xs h.2⟩
end
theorem pls_map {α : Type} {n : Nat} {A : α → D} (h : ∀ x, D.pl n (A x) = true) (xs : List α) : D.pls n (xs.map A) = true := pls_all.mpr fun d hd => by
  obtain ⟨x, _, rfl⟩ := List.mem_map.mp hd
  exact h x
theorem pl_int (n : Nat) (i : Int) : D.pl n (.int i) = true := by cases n <;> rfl
theorem pl_opt (n : Nat) (o : Option Int) : D.pl n (optD o) = true := by cases o <;> cases n <;> rfl
theorem pl_tup {n : Nat} {xs : List D} (h : D.pls n xs = true) : D.pl (n + 1) (.tup xs) = true := by simpa [D.pl] using h
theorem pl_lst {n : Nat} {xs : List D} (h : D.pls n xs = true) : D.pl (n + 1) (.lst xs) = true := by simpa [D.pl] using h
theorem pl_let (n : Nat) (l : List Int) : D.pl (n + 1) (letD l) = true := pl_tup (pls_map (pl_int n) l)
theorem pl_pair (n : Nat) (p : Int × Int) : D.pl (n + 1) (pairD p) = true := pl_tup (pls_map (A := D.int) (pl_int n) [p.1, p.2])
end LW
end

section
set_option maxHeartbeats 4000000
namespace LW
open PySem L2 EV
local macro_rules | `(tactic| get_elem_tactic_extensible) => `(tactic| first
  | ((with_reducible apply Ev.var); exact rfl)
  | with_reducible exact Ev.c
  | assumption
  | ((with_reducible apply Ev.add) <;> get_elem_tactic_extensible)
  | ((with_reducible apply Ev.sub) <;> get_elem_tactic_extensible)
  | ((with_reducible apply Ev.mulR) <;> get_elem_tactic_extensible)
  | ((with_reducible apply Ev.mulL) <;> get_elem_tactic_extensible)
  | ((with_reducible apply Ev.mod) <;> get_elem_tactic_extensible)
  | ((with_reducible apply Ev.fdiv) <;> get_elem_tactic_extensible)
  | ((with_reducible apply Ev.pow) <;> get_elem_tactic_extensible)
  | ((with_reducible apply Ev.neg) <;> get_elem_tactic_extensible)
  | ((with_reducible apply Ev.lt) <;> get_elem_tactic_extensible)
  | ((with_reducible apply Ev.le) <;> get_elem_tactic_extensible)
  | ((with_reducible apply Ev.gt) <;> get_elem_tactic_extensible)
  | ((with_reducible apply Ev.ge) <;> get_elem_tactic_extensible)
  | ((with_reducible apply Ev.eqI) <;> get_elem_tactic_extensible)
  | ((with_reducible apply Ev.neI) <;> get_elem_tactic_extensible)
  | ((with_reducible apply Ev.isN) <;> get_elem_tactic_extensible)
  | ((with_reducible apply Ev.notN) <;> get_elem_tactic_extensible)
  | ((with_reducible apply Ev.notP) <;> get_elem_tactic_extensible)
  | ((with_reducible apply Ev.andP) <;> get_elem_tactic_extensible)
  | ((with_reducible apply Ev.orP) <;> get_elem_tactic_extensible)
  | ((with_reducible apply Ev.int_) <;> get_elem_tactic_extensible)
  | ((with_reducible apply Ev.intB) <;> get_elem_tactic_extensible)
  | ((with_reducible apply Ev.lenL) <;> get_elem_tactic_extensible)
  | ((with_reducible apply Ev.lenT) <;> get_elem_tactic_extensible)
  | ((with_reducible apply Ev.lenS) <;> get_elem_tactic_extensible)
  | ((with_reducible apply Ev.min_) <;> get_elem_tactic_extensible)
  | ((with_reducible apply Ev.max_) <;> get_elem_tactic_extensible)
  | ((with_reducible apply Ev.abs_) <;> get_elem_tactic_extensible)
  | ((with_reducible apply Ev.tupleL) <;> get_elem_tactic_extensible)
  | ((with_reducible apply Ev.tupleT) <;> get_elem_tactic_extensible)
  | ((with_reducible apply EvL.listL) <;> get_elem_tactic_extensible)
  | ((with_reducible apply EvL.listT) <;> get_elem_tactic_extensible)
  | ((with_reducible apply Ev.ixL) <;> get_elem_tactic_extensible)
  | ((with_reducible apply Ev.ixT) <;> get_elem_tactic_extensible)
  | ((with_reducible apply Ev.ixM) <;> get_elem_tactic_extensible)
  | ((with_reducible apply Ev.ixMT) <;> get_elem_tactic_extensible)
  | ((with_reducible apply Ev.tup) <;> get_elem_tactic_extensible)
  | ((with_reducible apply Ev.vL) <;> get_elem_tactic_extensible)
  | with_reducible exact EvL.nil
  | ((with_reducible apply EvL.cons) <;> get_elem_tactic_extensible)
  | ((with_reducible apply EvL.lenOk) <;> get_elem_tactic_extensible)
  | ((with_reducible apply EvL.range1) <;> get_elem_tactic_extensible)
  | ((with_reducible apply EvL.seqL) <;> get_elem_tactic_extensible)
  | ((with_reducible apply EvL.seqT) <;> get_elem_tactic_extensible)
  | ((with_reducible apply EvL.seqS) <;> get_elem_tactic_extensible)
  | (intro; get_elem_tactic_extensible)
  | exact (show GetElem?.getElem? (List.cons _ _) _ = some _ from rfl)
  | omega
  | (simp only [List.length_map, List.length_append, List.length_replicate, List.length_cons, List.length_nil, List.length_range] <;> omega))
theorem law_sharing_ok {mills : Int} {ps : List (Int × Int)} {low low' : List Int} {high high' : List (Option Int)} {lets lets' : List (List Int)} (b : Bool) (w : WOk mills ps low high lets) : sem_law_sharing [seasonD (landD mills ps) low' high' lets', wD mills ps low high lets [], .bl b] = some (.ok (seasonD (landD mills ps) low high lets)) := by
  suffices H : Run g_law_sharing [.v (seasonD (landD mills ps) low' high' lets'), .v (wD mills ps low high lets []), .v (.bl b), .no] (Ret fun d => d = seasonD (landD mills ps) low high lets) by
    obtain ⟨d, h, rfl⟩ := sem_ret (n := 4) (ds := [seasonD (landD mills ps) low' high' lets', wD mills ps low high lets [], .bl b]) H
    exact h
  have eV := Valley_ok mills ps w.ok (by have := w.pl; omega) (.lst (ps.map pairD)) (.inl rfl)
  have eS := Season_ok w
  have e1 : Ev (vIf (vVar 2) (v1 (fldD 6 0) (vVar 0)) (vCallP 2 0 [0, 1] sem_Valley__init [] (aCons (v2 ixD (vVar 1) (vC (.int 0))) (aCons (vL (nCall listD (aCons (v2 ixD (vVar 1) (vC (.int 1))) (aNil)))) (aNil))) (aNil))) [.v (seasonD (landD mills ps) low' high' lets'), .v (wD mills ps low high lets []), .v (.bl b), .no] (landD mills ps) := by
    cases b with
    | true => rfl
    | false =>
      have e2 : Ev (vCallP 2 0 [0, 1] sem_Valley__init [] (aCons (v2 ixD (vVar 1) (vC (.int 0))) (aCons (vL (nCall listD (aCons (v2 ixD (vVar 1) (vC (.int 1))) (aNil)))) (aNil))) (aNil)) [.v (seasonD (landD mills ps) low' high' lets'), .v (wD mills ps low high lets []), .v (.bl false), .no] (landD mills ps) :=
        Ev.callP (ds := [.int mills, .lst (ps.map pairD)]) (EvL.cons (Ev.ixL (Ev.var rfl) Ev.c (by omega) rfl) (EvL.cons (Ev.vL (EvL.listL (Ev.ixL (Ev.var rfl) Ev.c (by omega) rfl))) .nil)) .nil ⟨rfl, rfl⟩ eV
      exact e2
  refine Run.sset e1 ?_
  refine Run.ret (Ev.callP (ds := [landD mills ps]) (es := [.lst (low.map D.int), .lst (high.map optD), .lst (lets.map letD)]) (EvL.cons (Ev.var rfl) .nil)
    (EvL.cons (Ev.vL (EvL.listL (Ev.ixL (Ev.var rfl) Ev.c (by omega) rfl))) (EvL.cons (Ev.vL (EvL.listL (Ev.ixL (Ev.var rfl) Ev.c (by omega) rfl))) (EvL.cons (Ev.vL (EvL.listL (Ev.ixL (Ev.var rfl) Ev.c (by omega) rfl))) .nil))) ⟨rfl, rfl⟩ eS) rfl
theorem law_whole_int (i : Int) : sem_law_whole [.int i] = some (.ok (.bl true)) := rfl
theorem law_whole_non : sem_law_whole [.non] = some (.ok (.bl false)) := rfl
theorem law_kept_ok {mills : Int} {ps : List (Int × Int)} {low : List Int} {high : List (Option Int)} {lets : List (List Int)} (rest : List D) : sem_law_kept [seasonD (landD mills ps) low high lets, wD mills ps low high lets rest] = some (.ok (.bl true)) := by
  suffices H : Run g_law_kept [.v (seasonD (landD mills ps) low high lets), .v (wD mills ps low high lets rest)] (Ret fun d => d = .bl true) by
    obtain ⟨d, h, rfl⟩ := sem_ret (n := 2) (ds := [seasonD (landD mills ps) low high lets, wD mills ps low high lets rest]) H
    exact h
  have p1 : D.pl 8 (.tup (ps.map pairD)) = true := pl_tup (pls_map (pl_pair 6) ps)
  have p2 : D.pl 8 (.tup (low.map D.int)) = true := pl_tup (pls_map (pl_int 7) low)
  have p3 : D.pl 8 (.tup (high.map optD)) = true := pl_tup (pls_map (pl_opt 7) high)
  have p4 : D.pl 8 (.tup (lets.map letD)) = true := pl_tup (pls_map (pl_let 6) lets)
  have eq : ∀ {fa fb : FE} {ρ : EV.Env} {d : D}, Ev fa ρ d → Ev fb ρ d → D.pl 8 d = true → Ev (v2 eqD fa fb) ρ (.bl (decide True)) := fun ha hb hp => by
    have := Ev.eq ha hb hp hp
    rw [eqv_refl 8 _ hp] at this
    exact this
  have ne : ∀ {fa fb : FE} {ρ : EV.Env} {d : D}, Ev fa ρ d → Ev fb ρ d → D.pl 8 d = true → Ev (v2 neD fa fb) ρ (.bl (decide False)) := fun ha hb hp => by
    have := Ev.ne ha hb hp hp
    rw [eqv_refl 8 _ hp] at this
    exact this
  refine Run.seq (Run.ifP (P := False ∨ False) (Ev.orP (ne (d := .int mills) (Ev.v1 (Ev.v1 (Ev.var rfl) rfl) rfl) (Ev.ixL (Ev.var rfl) Ev.c (by omega) rfl) rfl) fun _ => ne (Ev.v1 (Ev.v1 (Ev.var rfl) rfl) rfl) (Ev.tupleL (Ev.ixL (Ev.var rfl) Ev.c (by omega) rfl)) p1) (fun h => h.elim id id |>.elim) fun _ => Run.next ?_)
  exact Run.ret (bl_true (Ev.andP (eq (Ev.v1 (Ev.var rfl) rfl) (Ev.tupleL (Ev.ixL (Ev.var rfl) Ev.c (by omega) rfl)) p2) fun _ => Ev.andP (eq (Ev.v1 (Ev.var rfl) rfl) (Ev.tupleL (Ev.ixL (Ev.var rfl) Ev.c (by omega) rfl)) p3) fun _ => eq (Ev.v1 (Ev.var rfl) rfl) (Ev.tupleL (Ev.ixL (Ev.var rfl) Ev.c (by omega) rfl)) p4) ⟨trivial, trivial, trivial⟩) rfl
end LW
end

section
set_option maxHeartbeats 4000000
namespace LW
open PySem L2 EV
local macro_rules | `(tactic| get_elem_tactic_extensible) => `(tactic| first
  | ((with_reducible apply Ev.var); exact rfl)
  | with_reducible exact Ev.c
  | assumption
  | ((with_reducible apply Ev.add) <;> get_elem_tactic_extensible)
  | ((with_reducible apply Ev.sub) <;> get_elem_tactic_extensible)
  | ((with_reducible apply Ev.mulR) <;> get_elem_tactic_extensible)
  | ((with_reducible apply Ev.mulL) <;> get_elem_tactic_extensible)
  | ((with_reducible apply Ev.mod) <;> get_elem_tactic_extensible)
  | ((with_reducible apply Ev.fdiv) <;> get_elem_tactic_extensible)
  | ((with_reducible apply Ev.pow) <;> get_elem_tactic_extensible)
  | ((with_reducible apply Ev.neg) <;> get_elem_tactic_extensible)
  | ((with_reducible apply Ev.lt) <;> get_elem_tactic_extensible)
  | ((with_reducible apply Ev.le) <;> get_elem_tactic_extensible)
  | ((with_reducible apply Ev.gt) <;> get_elem_tactic_extensible)
  | ((with_reducible apply Ev.ge) <;> get_elem_tactic_extensible)
  | ((with_reducible apply Ev.eqI) <;> get_elem_tactic_extensible)
  | ((with_reducible apply Ev.neI) <;> get_elem_tactic_extensible)
  | ((with_reducible apply Ev.isN) <;> get_elem_tactic_extensible)
  | ((with_reducible apply Ev.notN) <;> get_elem_tactic_extensible)
  | ((with_reducible apply Ev.notP) <;> get_elem_tactic_extensible)
  | ((with_reducible apply Ev.andP) <;> get_elem_tactic_extensible)
  | ((with_reducible apply Ev.orP) <;> get_elem_tactic_extensible)
  | ((with_reducible apply Ev.int_) <;> get_elem_tactic_extensible)
  | ((with_reducible apply Ev.intB) <;> get_elem_tactic_extensible)
  | ((with_reducible apply Ev.lenL) <;> get_elem_tactic_extensible)
  | ((with_reducible apply Ev.lenT) <;> get_elem_tactic_extensible)
  | ((with_reducible apply Ev.lenS) <;> get_elem_tactic_extensible)
  | ((with_reducible apply Ev.min_) <;> get_elem_tactic_extensible)
  | ((with_reducible apply Ev.max_) <;> get_elem_tactic_extensible)
  | ((with_reducible apply Ev.abs_) <;> get_elem_tactic_extensible)
  | ((with_reducible apply Ev.tupleL) <;> get_elem_tactic_extensible)
  | ((with_reducible apply Ev.tupleT) <;> get_elem_tactic_extensible)
  | ((with_reducible apply EvL.listL) <;> get_elem_tactic_extensible)
  | ((with_reducible apply EvL.listT) <;> get_elem_tactic_extensible)
  | ((with_reducible apply Ev.ixL) <;> get_elem_tactic_extensible)
  | ((with_reducible apply Ev.ixT) <;> get_elem_tactic_extensible)
  | ((with_reducible apply Ev.ixM) <;> get_elem_tactic_extensible)
  | ((with_reducible apply Ev.ixMT) <;> get_elem_tactic_extensible)
  | ((with_reducible apply Ev.tup) <;> get_elem_tactic_extensible)
  | ((with_reducible apply Ev.vL) <;> get_elem_tactic_extensible)
  | with_reducible exact EvL.nil
  | ((with_reducible apply EvL.cons) <;> get_elem_tactic_extensible)
  | ((with_reducible apply EvL.lenOk) <;> get_elem_tactic_extensible)
  | ((with_reducible apply EvL.range1) <;> get_elem_tactic_extensible)
  | ((with_reducible apply EvL.seqL) <;> get_elem_tactic_extensible)
  | ((with_reducible apply EvL.seqT) <;> get_elem_tactic_extensible)
  | ((with_reducible apply EvL.seqS) <;> get_elem_tactic_extensible)
  | (intro; get_elem_tactic_extensible)
  | exact (show GetElem?.getElem? (List.cons _ _) _ = some _ from rfl)
  | omega
  | (simp only [List.length_map, List.length_append, List.length_replicate, List.length_cons, List.length_nil, List.length_range] <;> omega))
theorem law_single_ok (rule X : D) (wd : Str) (b : Bool) (h1 : sem_is_obstacle [rule, .lst [.str wd, X]] = some (.ok (.bl b))) (h2 : sem_is_obstacle [rule, .tup [.str wd, X]] = some (.ok (.bl b))) (hp : D.pl 8 (.lst [.str wd, X]) = true) : sem_law_single [rule, .str wd, X, .bl b] = some (.ok (.bl true)) := by
  suffices H : Run g_law_single [.v rule, .v (.str wd), .v X, .v (.bl b), .no, .no, .no] (Ret fun d => d = .bl true) by
    obtain ⟨d, h, rfl⟩ := sem_ret (n := 7) (ds := [rule, .str wd, X, .bl b]) H
    exact h
  refine Run.sset (d := .lst [.str wd, X]) (Ev.vL (EvL.lenOk (EvL.cons (Ev.var rfl) (EvL.cons (Ev.var rfl) .nil)) (by simp))) ?_
  refine Run.sset (Ev.callP (ds := [rule, .lst [.str wd, X]]) (EvL.cons (Ev.var rfl) (EvL.cons (Ev.var rfl) .nil)) .nil ⟨rfl, rfl⟩ h1) ?_
  refine Run.sset (Ev.callP (ds := []) (es := [.tup [.str wd, X], rule]) .nil (EvL.cons (Ev.tup (EvL.cons (Ev.var rfl) (EvL.cons (Ev.var rfl) .nil)) (by simp)) (EvL.cons (Ev.var rfl) .nil)) ⟨rfl, rfl⟩ h2) ?_
  have e3 : ∀ ρ : EV.Env, ρ[4]? = some (.v (.lst [.str wd, X])) → ρ[1]? = some (.v (.str wd)) → ρ[2]? = some (.v X) → Ev (v2 neD (vVar 4) (vL (lenOk (aCons (vVar 1) (aCons (vVar 2) (aNil)))))) ρ (.bl (decide False)) := fun ρ r4 r1 r2 => by
    have := Ev.ne (Ev.var r4) (Ev.vL (EvL.lenOk (EvL.cons (Ev.var r1) (EvL.cons (Ev.var r2) .nil)) (by simp))) hp hp
    rw [eqv_refl 8 _ hp] at this
    exact this
  refine Run.seq (Run.ifP (P := ¬ True ∨ ¬ True ∨ False) (Ev.orP (Ev.notP (P := True) (Ev.v1 (Ev.var rfl) rfl)) fun _ => Ev.orP (Ev.notP (P := True) (Ev.v1 (Ev.var rfl) rfl)) fun _ => e3 _ rfl rfl rfl) (fun h => ?_) fun _ => Run.next ?_)
  · rcases h with h | h | h
    · exact (h trivial).elim
    · exact (h trivial).elim
    · exact h.elim
  · have eb : ∀ (f : FE) (ρ : EV.Env), Ev f ρ (.bl b) → ρ[3]? = some (.v (.bl b)) → Ev (v2 eqD f (vVar 3)) ρ (.bl (decide True)) := fun f ρ hf r3 => Ev.v2 hf (Ev.var r3) (by cases b <;> rfl)
    exact Run.ret (bl_true (Ev.andP (eb _ _ (Ev.var rfl) rfl) fun _ => eb _ _ (Ev.var rfl) rfl) ⟨trivial, trivial⟩) rfl
end LW
end

section
set_option maxHeartbeats 4000000
namespace LW
open PySem L2 EV
local macro_rules | `(tactic| get_elem_tactic_extensible) => `(tactic| first
  | ((with_reducible apply Ev.var); exact rfl)
  | with_reducible exact Ev.c
  | assumption
  | ((with_reducible apply Ev.add) <;> get_elem_tactic_extensible)
  | ((with_reducible apply Ev.sub) <;> get_elem_tactic_extensible)
  | ((with_reducible apply Ev.mulR) <;> get_elem_tactic_extensible)
  | ((with_reducible apply Ev.mulL) <;> get_elem_tactic_extensible)
  | ((with_reducible apply Ev.mod) <;> get_elem_tactic_extensible)
  | ((with_reducible apply Ev.fdiv) <;> get_elem_tactic_extensible)
  | ((with_reducible apply Ev.pow) <;> get_elem_tactic_extensible)
  | ((with_reducible apply Ev.neg) <;> get_elem_tactic_extensible)
  | ((with_reducible apply Ev.lt) <;> get_elem_tactic_extensible)
  | ((with_reducible apply Ev.le) <;> get_elem_tactic_extensible)
  | ((with_reducible apply Ev.gt) <;> get_elem_tactic_extensible)
  | ((with_reducible apply Ev.ge) <;> get_elem_tactic_extensible)
  | ((with_reducible apply Ev.eqI) <;> get_elem_tactic_extensible)
  | ((with_reducible apply Ev.neI) <;> get_elem_tactic_extensible)
  | ((with_reducible apply Ev.isN) <;> get_elem_tactic_extensible)
  | ((with_reducible apply Ev.notN) <;> get_elem_tactic_extensible)
  | ((with_reducible apply Ev.notP) <;> get_elem_tactic_extensible)
  | ((with_reducible apply Ev.andP) <;> get_elem_tactic_extensible)
  | ((with_reducible apply Ev.orP) <;> get_elem_tactic_extensible)
  | ((with_reducible apply Ev.int_) <;> get_elem_tactic_extensible)
  | ((with_reducible apply Ev.intB) <;> get_elem_tactic_extensible)
  | ((with_reducible apply Ev.lenL) <;> get_elem_tactic_extensible)
  | ((with_reducible apply Ev.lenT) <;> get_elem_tactic_extensible)
  | ((with_reducible apply Ev.lenS) <;> get_elem_tactic_extensible)
  | ((with_reducible apply Ev.min_) <;> get_elem_tactic_extensible)
  | ((with_reducible apply Ev.max_) <;> get_elem_tactic_extensible)
  | ((with_reducible apply Ev.abs_) <;> get_elem_tactic_extensible)
  | ((with_reducible apply Ev.tupleL) <;> get_elem_tactic_extensible)
  | ((with_reducible apply Ev.tupleT) <;> get_elem_tactic_extensible)
  | ((with_reducible apply EvL.listL) <;> get_elem_tactic_extensible)
  | ((with_reducible apply EvL.listT) <;> get_elem_tactic_extensible)
  | ((with_reducible apply Ev.ixL) <;> get_elem_tactic_extensible)
  | ((with_reducible apply Ev.ixT) <;> get_elem_tactic_extensible)
  | ((with_reducible apply Ev.ixM) <;> get_elem_tactic_extensible)
  | ((with_reducible apply Ev.ixMT) <;> get_elem_tactic_extensible)
  | ((with_reducible apply Ev.tup) <;> get_elem_tactic_extensible)
  | ((with_reducible apply Ev.vL) <;> get_elem_tactic_extensible)
  | with_reducible exact EvL.nil
  | ((with_reducible apply EvL.cons) <;> get_elem_tactic_extensible)
  | ((with_reducible apply EvL.lenOk) <;> get_elem_tactic_extensible)
  | ((with_reducible apply EvL.range1) <;> get_elem_tactic_extensible)
  | ((with_reducible apply EvL.seqL) <;> get_elem_tactic_extensible)
  | ((with_reducible apply EvL.seqT) <;> get_elem_tactic_extensible)
  | ((with_reducible apply EvL.seqS) <;> get_elem_tactic_extensible)
  | (intro; get_elem_tactic_extensible)
  | exact (show GetElem?.getElem? (List.cons _ _) _ = some _ from rfl)
  | omega
  | (simp only [List.length_map, List.length_append, List.length_replicate, List.length_cons, List.length_nil, List.length_range] <;> omega))
theorem str_eq {f : FE} {ρ : EV.Env} {x y : Str} (h : Ev f ρ (.str x)) (hx : D.pl 8 (.str x) = true) (hy : D.pl 8 (.str y) = true) : Ev (v2 eqD f (vC (.str y))) ρ (.bl (decide (x = y))) := by
  have := Ev.eq h Ev.c hx hy
  have e : D.eqv (.str x) (.str y) = decide (x = y) := by
    simp only [D.eqv]
    rw [Bool.eq_iff_iff]
    simp
  rw [e] at this
  exact this
theorem obstacle_sluice {land : D} {low : List Int} {high : List (Option Int)} {lets : List (List Int)} (k : Int) (h0 : 0 ≤ k) (h1 : k < lets.length) (V : D) (hV : V = .lst [.str "sluice", .int k] ∨ V = .tup [.str "sluice", .int k]) : sem_is_obstacle [seasonD land low high lets, V] = some (.ok (.bl (decide ((at_ lets k).length = 0)))) := by
  suffices H : Run g_is_obstacle [.v (seasonD land low high lets), .v V, .no, .no, .no, .no] (Ret fun d => d = .bl (decide ((at_ lets k).length = 0))) by
    obtain ⟨d, h, rfl⟩ := sem_ret (n := 6) (ds := [seasonD land low high lets, V]) H
    exact h
  refine Run.seq (Run.asg (Ev.var rfl) (ρ' := [.v (seasonD land low high lets), .v V, .v (.str "sluice"), .v (.int k), .no, .no]) (by rcases hV with rfl | rfl <;> rfl) ?_)
  refine Run.seq (Run.ifP (str_eq (Ev.var rfl) (by decide +kernel) (by decide +kernel)) (fun _ => ?_) fun h => absurd rfl h)
  have e : (decide (((at_ lets k).map D.int).length = (0 : Int))) = decide ((at_ lets k).length = 0) := by
    rw [List.length_map, Bool.eq_iff_iff]
    simp
  refine Run.ret (d := .bl (decide (((at_ lets k).map D.int).length = (0 : Int)))) (Ev.eqI (Ev.lenT (Ev.ixMT (A := letD) (Ev.v1 (Ev.var rfl) rfl) (Ev.var rfl) h0 h1)) Ev.c) (by show D.bl _ = D.bl _; rw [e])
end LW
end

section
set_option maxHeartbeats 4000000
namespace LW
open PySem L2 EV
local macro_rules | `(tactic| get_elem_tactic_extensible) => `(tactic| first
  | ((with_reducible apply Ev.var); exact rfl)
  | with_reducible exact Ev.c
  | assumption
  | ((with_reducible apply Ev.add) <;> get_elem_tactic_extensible)
  | ((with_reducible apply Ev.sub) <;> get_elem_tactic_extensible)
  | ((with_reducible apply Ev.mulR) <;> get_elem_tactic_extensible)
  | ((with_reducible apply Ev.mulL) <;> get_elem_tactic_extensible)
  | ((with_reducible apply Ev.mod) <;> get_elem_tactic_extensible)
  | ((with_reducible apply Ev.fdiv) <;> get_elem_tactic_extensible)
  | ((with_reducible apply Ev.pow) <;> get_elem_tactic_extensible)
  | ((with_reducible apply Ev.neg) <;> get_elem_tactic_extensible)
  | ((with_reducible apply Ev.lt) <;> get_elem_tactic_extensible)
  | ((with_reducible apply Ev.le) <;> get_elem_tactic_extensible)
  | ((with_reducible apply Ev.gt) <;> get_elem_tactic_extensible)
  | ((with_reducible apply Ev.ge) <;> get_elem_tactic_extensible)
  | ((with_reducible apply Ev.eqI) <;> get_elem_tactic_extensible)
  | ((with_reducible apply Ev.neI) <;> get_elem_tactic_extensible)
  | ((with_reducible apply Ev.isN) <;> get_elem_tactic_extensible)
  | ((with_reducible apply Ev.notN) <;> get_elem_tactic_extensible)
  | ((with_reducible apply Ev.notP) <;> get_elem_tactic_extensible)
  | ((with_reducible apply Ev.andP) <;> get_elem_tactic_extensible)
  | ((with_reducible apply Ev.orP) <;> get_elem_tactic_extensible)
  | ((with_reducible apply Ev.int_) <;> get_elem_tactic_extensible)
  | ((with_reducible apply Ev.intB) <;> get_elem_tactic_extensible)
  | ((with_reducible apply Ev.lenL) <;> get_elem_tactic_extensible)
  | ((with_reducible apply Ev.lenT) <;> get_elem_tactic_extensible)
  | ((with_reducible apply Ev.lenS) <;> get_elem_tactic_extensible)
  | ((with_reducible apply Ev.min_) <;> get_elem_tactic_extensible)
  | ((with_reducible apply Ev.max_) <;> get_elem_tactic_extensible)
  | ((with_reducible apply Ev.abs_) <;> get_elem_tactic_extensible)
  | ((with_reducible apply Ev.tupleL) <;> get_elem_tactic_extensible)
  | ((with_reducible apply Ev.tupleT) <;> get_elem_tactic_extensible)
  | ((with_reducible apply EvL.listL) <;> get_elem_tactic_extensible)
  | ((with_reducible apply EvL.listT) <;> get_elem_tactic_extensible)
  | ((with_reducible apply Ev.ixL) <;> get_elem_tactic_extensible)
  | ((with_reducible apply Ev.ixT) <;> get_elem_tactic_extensible)
  | ((with_reducible apply Ev.ixM) <;> get_elem_tactic_extensible)
  | ((with_reducible apply Ev.ixMT) <;> get_elem_tactic_extensible)
  | ((with_reducible apply Ev.tup) <;> get_elem_tactic_extensible)
  | ((with_reducible apply Ev.vL) <;> get_elem_tactic_extensible)
  | with_reducible exact EvL.nil
  | ((with_reducible apply EvL.cons) <;> get_elem_tactic_extensible)
  | ((with_reducible apply EvL.lenOk) <;> get_elem_tactic_extensible)
  | ((with_reducible apply EvL.range1) <;> get_elem_tactic_extensible)
  | ((with_reducible apply EvL.seqL) <;> get_elem_tactic_extensible)
  | ((with_reducible apply EvL.seqT) <;> get_elem_tactic_extensible)
  | ((with_reducible apply EvL.seqS) <;> get_elem_tactic_extensible)
  | (intro; get_elem_tactic_extensible)
  | exact (show GetElem?.getElem? (List.cons _ _) _ = some _ from rfl)
  | omega
  | (simp only [List.length_map, List.length_append, List.length_replicate, List.length_cons, List.length_nil, List.length_range] <;> omega))
def overD (o : Option Int) (need : Int) : Bool := match o with
  | none => false
  | some l => decide (l < need)
theorem over_ev {f fb : FE} {ρ : EV.Env} {o : Option Int} {n : Int} (h : Ev f ρ (optD o)) (hb : Ev fb ρ (.int n)) : Ev (vAnd (v2 notNonD f (vC .non)) (v2 ltD f fb)) ρ (.bl (overD o n)) := by
  cases o with
  | none =>
    have := Ev.andP (P := False) (Q := False) (iP := instDecidableFalse) (iQ := instDecidableFalse) (fa := v2 notNonD f (vC .non)) (fb := v2 ltD f fb) (Ev.v2 h Ev.c rfl) fun h => h.elim
    exact this
  | some l =>
    have := Ev.andP (P := True) (Q := l < n) (fa := v2 notNonD f (vC .non)) (Ev.v2 h Ev.c rfl) fun _ => Ev.lt h hb
    have e : decide (True ∧ l < n) = overD (some l) n := by simp [overD]
    rw [e] at this
    exact this
theorem obstacle_mill {land : D} {low : List Int} {high : List (Option Int)} {lets : List (List Int)} (k : Int) (h0 : 0 ≤ k) (h1 : k < high.length) (h2 : k < low.length) (V : D) (hV : V = .lst [.str "mill", .int k] ∨ V = .tup [.str "mill", .int k]) : sem_is_obstacle [seasonD land low high lets, V] = some (.ok (.bl (overD (at_ high k) (at_ low k)))) := by
  suffices H : Run g_is_obstacle [.v (seasonD land low high lets), .v V, .no, .no, .no, .no] (Ret fun d => d = .bl (overD (at_ high k) (at_ low k))) by
    obtain ⟨d, h, rfl⟩ := sem_ret (n := 6) (ds := [seasonD land low high lets, V]) H
    exact h
  refine Run.seq (Run.asg (Ev.var rfl) (ρ' := [.v (seasonD land low high lets), .v V, .v (.str "mill"), .v (.int k), .no, .no]) (by rcases hV with rfl | rfl <;> rfl) ?_)
  refine Run.seq (Run.ifP (str_eq (Ev.var rfl) (by decide +kernel) (by decide +kernel)) (fun h => absurd h (by decide +kernel)) fun _ => Run.next ?_)
  refine Run.seq (Run.ifP (str_eq (Ev.var rfl) (by decide +kernel) (by decide +kernel)) (fun _ => ?_) fun h => absurd rfl h)
  exact Run.sset (d := optD (at_ high k)) (Ev.ixMT (A := optD) (Ev.v1 (Ev.var rfl) rfl) (Ev.var rfl) h0 h1) (Run.ret (over_ev (Ev.var rfl) (Ev.ixMT (A := D.int) (Ev.v1 (Ev.var rfl) rfl) (Ev.var rfl) h0 h2)) rfl)
end LW
end

section
set_option maxHeartbeats 4000000
namespace LW
open PySem L2 EV
local macro_rules | `(tactic| get_elem_tactic_extensible) => `(tactic| first
  | ((with_reducible apply Ev.var); exact rfl)
  | with_reducible exact Ev.c
  | assumption
  | ((with_reducible apply Ev.add) <;> get_elem_tactic_extensible)
  | ((with_reducible apply Ev.sub) <;> get_elem_tactic_extensible)
  | ((with_reducible apply Ev.mulR) <;> get_elem_tactic_extensible)
  | ((with_reducible apply Ev.mulL) <;> get_elem_tactic_extensible)
  | ((with_reducible apply Ev.mod) <;> get_elem_tactic_extensible)
  | ((with_reducible apply Ev.fdiv) <;> get_elem_tactic_extensible)
  | ((with_reducible apply Ev.pow) <;> get_elem_tactic_extensible)
  | ((with_reducible apply Ev.neg) <;> get_elem_tactic_extensible)
  | ((with_reducible apply Ev.lt) <;> get_elem_tactic_extensible)
  | ((with_reducible apply Ev.le) <;> get_elem_tactic_extensible)
  | ((with_reducible apply Ev.gt) <;> get_elem_tactic_extensible)
  | ((with_reducible apply Ev.ge) <;> get_elem_tactic_extensible)
  | ((with_reducible apply Ev.eqI) <;> get_elem_tactic_extensible)
  | ((with_reducible apply Ev.neI) <;> get_elem_tactic_extensible)
  | ((with_reducible apply Ev.isN) <;> get_elem_tactic_extensible)
  | ((with_reducible apply Ev.notN) <;> get_elem_tactic_extensible)
  | ((with_reducible apply Ev.notP) <;> get_elem_tactic_extensible)
  | ((with_reducible apply Ev.andP) <;> get_elem_tactic_extensible)
  | ((with_reducible apply Ev.orP) <;> get_elem_tactic_extensible)
  | ((with_reducible apply Ev.int_) <;> get_elem_tactic_extensible)
  | ((with_reducible apply Ev.intB) <;> get_elem_tactic_extensible)
  | ((with_reducible apply Ev.lenL) <;> get_elem_tactic_extensible)
  | ((with_reducible apply Ev.lenT) <;> get_elem_tactic_extensible)
  | ((with_reducible apply Ev.lenS) <;> get_elem_tactic_extensible)
  | ((with_reducible apply Ev.min_) <;> get_elem_tactic_extensible)
  | ((with_reducible apply Ev.max_) <;> get_elem_tactic_extensible)
  | ((with_reducible apply Ev.abs_) <;> get_elem_tactic_extensible)
  | ((with_reducible apply Ev.tupleL) <;> get_elem_tactic_extensible)
  | ((with_reducible apply Ev.tupleT) <;> get_elem_tactic_extensible)
  | ((with_reducible apply EvL.listL) <;> get_elem_tactic_extensible)
  | ((with_reducible apply EvL.listT) <;> get_elem_tactic_extensible)
  | ((with_reducible apply Ev.ixL) <;> get_elem_tactic_extensible)
  | ((with_reducible apply Ev.ixT) <;> get_elem_tactic_extensible)
  | ((with_reducible apply Ev.ixM) <;> get_elem_tactic_extensible)
  | ((with_reducible apply Ev.ixMT) <;> get_elem_tactic_extensible)
  | ((with_reducible apply Ev.tup) <;> get_elem_tactic_extensible)
  | ((with_reducible apply Ev.vL) <;> get_elem_tactic_extensible)
  | with_reducible exact EvL.nil
  | ((with_reducible apply EvL.cons) <;> get_elem_tactic_extensible)
  | ((with_reducible apply EvL.lenOk) <;> get_elem_tactic_extensible)
  | ((with_reducible apply EvL.range1) <;> get_elem_tactic_extensible)
  | ((with_reducible apply EvL.seqL) <;> get_elem_tactic_extensible)
  | ((with_reducible apply EvL.seqT) <;> get_elem_tactic_extensible)
  | ((with_reducible apply EvL.seqS) <;> get_elem_tactic_extensible)
  | (intro; get_elem_tactic_extensible)
  | exact (show GetElem?.getElem? (List.cons _ _) _ = some _ from rfl)
  | omega
  | (simp only [List.length_map, List.length_append, List.length_replicate, List.length_cons, List.length_nil, List.length_range] <;> omega))
theorem law_singles_ok {mills : Int} {ps : List (Int × Int)} {low : List Int} {high : List (Option Int)} {lets : List (List Int)} (rest : List D) (w : WOk mills ps low high lets) : sem_law_singles [seasonD (landD mills ps) low high lets, wD mills ps low high lets rest] = some (.ok (.bl true)) := by
  suffices H : Run g_law_singles [.v (seasonD (landD mills ps) low high lets), .v (wD mills ps low high lets rest), .no, .no, .no] (Ret fun d => d = .bl true) by
    obtain ⟨d, h, rfl⟩ := sem_ret (n := 5) (ds := [seasonD (landD mills ps) low high lets, wD mills ps low high lets rest]) H
    exact h
  have m1 := w.m1
  have m2 := w.m2
  have pl := w.pl
  have ll := w.ll
  have hll := w.lo.1
  have hhl := w.hl
  refine Run.cut (fun ρ => ∃ a b c, ρ = [.v (seasonD (landD mills ps) low high lets), .v (wD mills ps low high lets rest), a, b, c]) ?_ fun ρ hρ => ?_
  · refine Run.for (fun _ ρ => ∃ a b c, ρ = [.v (seasonD (landD mills ps) low high lets), .v (wD mills ps low high lets rest), a, b, c]) (EvL.range1 (j := ((ps.map pairD).length : Nat)) (Ev.lenL (Ev.ixL (Ev.var rfl) Ev.c (by omega) rfl)) (by rw [List.length_map]; omega)) ⟨.no, .no, .no, rfl⟩ (fun k d ρ hd hI => ?_) fun ρ hI => ?_
    · obtain ⟨a, b, c, rfl⟩ := hI
      obtain ⟨rfl, hk⟩ := range0_get hd
      have hk : k < ps.length := by rw [List.length_map] at hk; omega
      have e : (decide (((at_ lets (k : Int)).map D.int).length = (0 : Int))) = decide ((at_ lets (k : Int)).length = 0) := by
        rw [List.length_map, Bool.eq_iff_iff]
        simp
      have hs := law_single_ok (seasonD (landD mills ps) low high lets) (.int k) "sluice" _ (obstacle_sluice (land := landD mills ps) (low := low) (high := high) (lets := lets) (k : Int) (by omega) (by omega) _ (.inl rfl)) (obstacle_sluice (k : Int) (by omega) (by omega) _ (.inr rfl)) (pl_lst (n := 7) (by rw [D.pls, D.pls, D.pls, pl_int]; decide +kernel))
      have e2 : Ev (vCallP 4 0 [0, 1, 2, 3] sem_law_single [] (aCons (vVar 0) (aCons (vC (.str "sluice")) (aCons (vVar 2) (aCons (v2 eqD (vCall lenD (aCons (v2 ixD (v2 ixD (vVar 1) (vC (.int 4))) (vVar 2)) (aNil))) (vC (.int 0))) (aNil))))) (aNil)) [.v (seasonD (landD mills ps) low high lets), .v (wD mills ps low high lets rest), .v (.int k), b, c] (.bl (decide True)) :=
        Ev.callP (ds := [seasonD (landD mills ps) low high lets, .str "sluice", .int k, .bl (decide (((at_ lets (k : Int)).map D.int).length = (0 : Int)))]) (EvL.cons (Ev.var rfl) (EvL.cons Ev.c (EvL.cons (Ev.var rfl) (EvL.cons (Ev.eqI (Ev.lenT (Ev.ixM (A := letD) (Ev.ixL (Ev.var rfl) Ev.c (by omega) rfl) (Ev.var rfl) (by omega) (by omega))) Ev.c) .nil)))) .nil ⟨rfl, rfl⟩ (by rw [e]; exact hs)
      exact ⟨_, rfl, Run.ifP (Ev.notP e2) (fun h => (h trivial).elim) fun _ => Run.next ⟨_, _, _, rfl⟩⟩
    · obtain ⟨a, b, c, rfl⟩ := hI
      exact ⟨_, rfl, a, b, c, rfl⟩
  · obtain ⟨a, b, c, rfl⟩ := hρ
    refine Run.cut (fun ρ => ∃ a b c, ρ = [.v (seasonD (landD mills ps) low high lets), .v (wD mills ps low high lets rest), a, b, c]) ?_ fun ρ hρ => Run.ret Ev.c rfl
    refine Run.for (fun _ ρ => ∃ a b c, ρ = [.v (seasonD (landD mills ps) low high lets), .v (wD mills ps low high lets rest), a, b, c]) (EvL.range1 (j := mills) (Ev.ixL (Ev.var rfl) Ev.c (by omega) rfl) (by omega)) ⟨a, b, c, rfl⟩ (fun k d ρ hd hI => ?_) fun ρ hI => ?_
    · obtain ⟨a, b, c, rfl⟩ := hI
      obtain ⟨rfl, hk⟩ := range0_get hd
      have hs := law_single_ok (seasonD (landD mills ps) low high lets) (.int k) "mill" _ (obstacle_mill (land := landD mills ps) (low := low) (high := high) (lets := lets) (k : Int) (by omega) (by omega) (by omega) _ (.inl rfl)) (obstacle_mill (k : Int) (by omega) (by omega) (by omega) _ (.inr rfl)) (pl_lst (n := 7) (by rw [D.pls, D.pls, D.pls, pl_int]; decide +kernel))
      refine ⟨_, rfl, Run.sset (over_ev (Ev.ixM (A := optD) (Ev.ixL (Ev.var rfl) Ev.c (by omega) rfl) (Ev.var rfl) (by omega) (by omega)) (Ev.ixM (A := D.int) (Ev.ixL (Ev.var rfl) Ev.c (by omega) rfl) (Ev.var rfl) (by omega) (by omega))) ?_⟩
      exact Run.ifP (Ev.notP (P := True) (Ev.callP (ds := [seasonD (landD mills ps) low high lets, .str "mill", .int k, .bl (overD (at_ high (k : Int)) (at_ low (k : Int)))]) (EvL.cons (Ev.var rfl) (EvL.cons Ev.c (EvL.cons (Ev.var rfl) (EvL.cons (Ev.var rfl) .nil)))) .nil ⟨rfl, rfl⟩ hs)) (fun h => (h trivial).elim) fun _ => Run.next ⟨_, _, _, rfl⟩
    · obtain ⟨a, b, c, rfl⟩ := hI
      exact ⟨_, rfl, a, b, c, rfl⟩
end LW
end

section
set_option maxHeartbeats 4000000
namespace LW
open PySem L2 EV
local macro_rules | `(tactic| get_elem_tactic_extensible) => `(tactic| first
  | ((with_reducible apply Ev.var); exact rfl)
  | with_reducible exact Ev.c
  | assumption
  | ((with_reducible apply Ev.add) <;> get_elem_tactic_extensible)
  | ((with_reducible apply Ev.sub) <;> get_elem_tactic_extensible)
  | ((with_reducible apply Ev.mulR) <;> get_elem_tactic_extensible)
  | ((with_reducible apply Ev.mulL) <;> get_elem_tactic_extensible)
  | ((with_reducible apply Ev.mod) <;> get_elem_tactic_extensible)
  | ((with_reducible apply Ev.fdiv) <;> get_elem_tactic_extensible)
  | ((with_reducible apply Ev.pow) <;> get_elem_tactic_extensible)
  | ((with_reducible apply Ev.neg) <;> get_elem_tactic_extensible)
  | ((with_reducible apply Ev.lt) <;> get_elem_tactic_extensible)
  | ((with_reducible apply Ev.le) <;> get_elem_tactic_extensible)
  | ((with_reducible apply Ev.gt) <;> get_elem_tactic_extensible)
  | ((with_reducible apply Ev.ge) <;> get_elem_tactic_extensible)
  | ((with_reducible apply Ev.eqI) <;> get_elem_tactic_extensible)
  | ((with_reducible apply Ev.neI) <;> get_elem_tactic_extensible)
  | ((with_reducible apply Ev.isN) <;> get_elem_tactic_extensible)
  | ((with_reducible apply Ev.notN) <;> get_elem_tactic_extensible)
  | ((with_reducible apply Ev.notP) <;> get_elem_tactic_extensible)
  | ((with_reducible apply Ev.andP) <;> get_elem_tactic_extensible)
  | ((with_reducible apply Ev.orP) <;> get_elem_tactic_extensible)
  | ((with_reducible apply Ev.int_) <;> get_elem_tactic_extensible)
  | ((with_reducible apply Ev.intB) <;> get_elem_tactic_extensible)
  | ((with_reducible apply Ev.lenL) <;> get_elem_tactic_extensible)
  | ((with_reducible apply Ev.lenT) <;> get_elem_tactic_extensible)
  | ((with_reducible apply Ev.lenS) <;> get_elem_tactic_extensible)
  | ((with_reducible apply Ev.min_) <;> get_elem_tactic_extensible)
  | ((with_reducible apply Ev.max_) <;> get_elem_tactic_extensible)
  | ((with_reducible apply Ev.abs_) <;> get_elem_tactic_extensible)
  | ((with_reducible apply Ev.tupleL) <;> get_elem_tactic_extensible)
  | ((with_reducible apply Ev.tupleT) <;> get_elem_tactic_extensible)
  | ((with_reducible apply EvL.listL) <;> get_elem_tactic_extensible)
  | ((with_reducible apply EvL.listT) <;> get_elem_tactic_extensible)
  | ((with_reducible apply Ev.ixL) <;> get_elem_tactic_extensible)
  | ((with_reducible apply Ev.ixT) <;> get_elem_tactic_extensible)
  | ((with_reducible apply Ev.ixM) <;> get_elem_tactic_extensible)
  | ((with_reducible apply Ev.ixMT) <;> get_elem_tactic_extensible)
  | ((with_reducible apply Ev.tup) <;> get_elem_tactic_extensible)
  | ((with_reducible apply Ev.vL) <;> get_elem_tactic_extensible)
  | with_reducible exact EvL.nil
  | ((with_reducible apply EvL.cons) <;> get_elem_tactic_extensible)
  | ((with_reducible apply EvL.lenOk) <;> get_elem_tactic_extensible)
  | ((with_reducible apply EvL.range1) <;> get_elem_tactic_extensible)
  | ((with_reducible apply EvL.seqL) <;> get_elem_tactic_extensible)
  | ((with_reducible apply EvL.seqT) <;> get_elem_tactic_extensible)
  | ((with_reducible apply EvL.seqS) <;> get_elem_tactic_extensible)
  | (intro; get_elem_tactic_extensible)
  | exact (show GetElem?.getElem? (List.cons _ _) _ = some _ from rfl)
  | omega
  | (simp only [List.length_map, List.length_append, List.length_replicate, List.length_cons, List.length_nil, List.length_range] <;> omega))
theorem any_int (x : Int) : ∀ G : List Int, ((G.map D.int).any fun z => D.eqv z (.int x)) = decide (x ∈ G)
  | [] => by simp
  | g :: G => by
    rw [List.map_cons, List.any_cons, any_int x G]
    simp only [D.eqv]
    rw [Bool.eq_iff_iff]
    simp only [Bool.or_eq_true, beq_iff_eq, decide_eq_true_eq, List.mem_cons]
    constructor
    · rintro (h | h)
      · exact .inl h.symm
      · exact .inr h
    · rintro (h | h)
      · exact .inl h.symm
      · exact .inr h
theorem in_ints {f fb : FE} {ρ : EV.Env} {x : Int} {G : List Int} {V : D} (ha : Ev f ρ (.int x)) (hb : Ev fb ρ V) (hV : V = .lst (G.map D.int) ∨ V = .tup (G.map D.int)) : Ev (v2 inD f fb) ρ (.bl (decide (x ∈ G))) := by
  have := Ev.in_ ha hb hV (pl_int 8 x) (pls_map (pl_int 8) G)
  rw [any_int] at this
  exact this
def mE (p : Int × Int) (s : Int) : Int := if s = 0 then p.1 else p.2
def insN (p : Int × Int) (l : List Int) (G : List Int) : Nat := (l.filter fun s => decide (mE p s ∈ G)).length
theorem lets_bits {l : List Int} (h : l ∈ lets4) : ∀ s ∈ l, s = 0 ∨ s = 1 := by
  simp only [lets4, List.mem_cons, List.not_mem_nil, or_false] at h
  rcases h with rfl | rfl | rfl | rfl <;> simp
theorem pair_at {f fb : FE} {ρ : EV.Env} {p : Int × Int} {s : Int} (ha : Ev f ρ (pairD p)) (hb : Ev fb ρ (.int s)) (hs : s = 0 ∨ s = 1) : Ev (v2 ixD f fb) ρ (.int (mE p s)) := by
  rcases hs with rfl | rfl
  · exact Ev.ixT (ds := [.int p.1, .int p.2]) ha hb (by omega) rfl
  · exact Ev.ixT (ds := [.int p.1, .int p.2]) ha hb (by omega) rfl
theorem filterMap_if {α : Type} (f : α → D) (q : α → Prop) [DecidablePred q] (xs : List α) : xs.filterMap (fun x => if q x then some (f x) else none) = (xs.filter fun x => decide (q x)).map f := by
  induction xs with
  | nil => rfl
  | cons x xs ih =>
    by_cases h : q x
    · simp [List.filterMap_cons, List.filter_cons, h, ih]
    · simp [List.filterMap_cons, List.filter_cons, h, ih]
end LW
end

section
set_option maxHeartbeats 4000000
namespace LW
open PySem L2 EV
local macro_rules | `(tactic| get_elem_tactic_extensible) => `(tactic| first
  | ((with_reducible apply Ev.var); exact rfl)
  | with_reducible exact Ev.c
  | assumption
  | ((with_reducible apply Ev.add) <;> get_elem_tactic_extensible)
  | ((with_reducible apply Ev.sub) <;> get_elem_tactic_extensible)
  | ((with_reducible apply Ev.mulR) <;> get_elem_tactic_extensible)
  | ((with_reducible apply Ev.mulL) <;> get_elem_tactic_extensible)
  | ((with_reducible apply Ev.mod) <;> get_elem_tactic_extensible)
  | ((with_reducible apply Ev.fdiv) <;> get_elem_tactic_extensible)
  | ((with_reducible apply Ev.pow) <;> get_elem_tactic_extensible)
  | ((with_reducible apply Ev.neg) <;> get_elem_tactic_extensible)
  | ((with_reducible apply Ev.lt) <;> get_elem_tactic_extensible)
  | ((with_reducible apply Ev.le) <;> get_elem_tactic_extensible)
  | ((with_reducible apply Ev.gt) <;> get_elem_tactic_extensible)
  | ((with_reducible apply Ev.ge) <;> get_elem_tactic_extensible)
  | ((with_reducible apply Ev.eqI) <;> get_elem_tactic_extensible)
  | ((with_reducible apply Ev.neI) <;> get_elem_tactic_extensible)
  | ((with_reducible apply Ev.isN) <;> get_elem_tactic_extensible)
  | ((with_reducible apply Ev.notN) <;> get_elem_tactic_extensible)
  | ((with_reducible apply Ev.notP) <;> get_elem_tactic_extensible)
  | ((with_reducible apply Ev.andP) <;> get_elem_tactic_extensible)
  | ((with_reducible apply Ev.orP) <;> get_elem_tactic_extensible)
  | ((with_reducible apply Ev.int_) <;> get_elem_tactic_extensible)
  | ((with_reducible apply Ev.intB) <;> get_elem_tactic_extensible)
  | ((with_reducible apply Ev.lenL) <;> get_elem_tactic_extensible)
  | ((with_reducible apply Ev.lenT) <;> get_elem_tactic_extensible)
  | ((with_reducible apply Ev.lenS) <;> get_elem_tactic_extensible)
  | ((with_reducible apply Ev.min_) <;> get_elem_tactic_extensible)
  | ((with_reducible apply Ev.max_) <;> get_elem_tactic_extensible)
  | ((with_reducible apply Ev.abs_) <;> get_elem_tactic_extensible)
  | ((with_reducible apply Ev.tupleL) <;> get_elem_tactic_extensible)
  | ((with_reducible apply Ev.tupleT) <;> get_elem_tactic_extensible)
  | ((with_reducible apply EvL.listL) <;> get_elem_tactic_extensible)
  | ((with_reducible apply EvL.listT) <;> get_elem_tactic_extensible)
  | ((with_reducible apply Ev.ixL) <;> get_elem_tactic_extensible)
  | ((with_reducible apply Ev.ixT) <;> get_elem_tactic_extensible)
  | ((with_reducible apply Ev.ixM) <;> get_elem_tactic_extensible)
  | ((with_reducible apply Ev.ixMT) <;> get_elem_tactic_extensible)
  | ((with_reducible apply Ev.tup) <;> get_elem_tactic_extensible)
  | ((with_reducible apply Ev.vL) <;> get_elem_tactic_extensible)
  | with_reducible exact EvL.nil
  | ((with_reducible apply EvL.cons) <;> get_elem_tactic_extensible)
  | ((with_reducible apply EvL.lenOk) <;> get_elem_tactic_extensible)
  | ((with_reducible apply EvL.range1) <;> get_elem_tactic_extensible)
  | ((with_reducible apply EvL.seqL) <;> get_elem_tactic_extensible)
  | ((with_reducible apply EvL.seqT) <;> get_elem_tactic_extensible)
  | ((with_reducible apply EvL.seqS) <;> get_elem_tactic_extensible)
  | (intro; get_elem_tactic_extensible)
  | exact (show GetElem?.getElem? (List.cons _ _) _ = some _ from rfl)
  | omega
  | (simp only [List.length_map, List.length_append, List.length_replicate, List.length_cons, List.length_nil, List.length_range] <;> omega))
def canN (ps : List (Int × Int)) (lets : List (List Int)) (G : List Int) : Nat → Int
  | 0 => 0
  | n + 1 => canN ps lets G n + if 0 < insN (at_ ps (n : Int)) (at_ lets (n : Int)) G then 1 else 0
def mustN (ps : List (Int × Int)) (lets : List (List Int)) (G : List Int) : Nat → Int
  | 0 => 0
  | n + 1 => mustN ps lets G n + if 0 < insN (at_ ps (n : Int)) (at_ lets (n : Int)) G ∧ insN (at_ ps (n : Int)) (at_ lets (n : Int)) G = (at_ lets (n : Int)).length then 1 else 0
def wantN (low : List Int) (G : List Int) : Nat → Int
  | 0 => 0
  | n + 1 => if (n : Int) ∈ G then wantN low G n + at_ low (n : Int) else wantN low G n
def addO : Option Int → Option Int → Option Int
  | some a, some b => some (a + b)
  | _, _ => none
def bearN (high : List (Option Int)) (G : List Int) : Nat → Option Int
  | 0 => some 0
  | n + 1 => if (n : Int) ∈ G then addO (bearN high G n) (at_ high (n : Int)) else bearN high G n
theorem ends_ev {mills : Int} {ps : List (Int × Int)} {low : List Int} {high : List (Option Int)} {lets : List (List Int)} {rest : List D} (w : WOk mills ps low high lets) (k : Nat) (hk : k < ps.length) (V a b c d e f g h i : Sl) :
    Ev (vL (nLc (iSeq (v2 ixD (v2 ixD (vVar 0) (vC (.int 4))) (vVar 4))) (nmG 10) (vYes) (v2 ixD (v2 ixD (v2 ixD (vVar 0) (vC (.int 1))) (vVar 4)) (vVar 10)) [10])) [.v (wD mills ps low high lets rest), V, a, b, .v (.int (k : Nat)), c, d, e, f, g, h] (.lst (((at_ lets (k : Int)).map (mE (at_ ps (k : Int)))).map D.int)) := by
  have ll := w.ll
  have hm := w.lp _ (at_mem (xs := lets) (i := (k : Int)) (by omega) (by omega))
  have q := EvL.lc (fi := iSeq (v2 ixD (v2 ixD (vVar 0) (vC (.int 4))) (vVar 4))) (fg := nmG 10) (ft := vYes) (fe := v2 ixD (v2 ixD (v2 ixD (vVar 0) (vC (.int 1))) (vVar 4)) (vVar 10)) (vs := [10]) (ρ := [.v (wD mills ps low high lets rest), V, a, b, .v (.int (k : Nat)), c, d, e, f, g, h])
    (at_ lets (k : Int)) D.int (fun s => some (.int (mE (at_ ps (k : Int)) s))) (EvL.seqT (Ev.ixM (A := letD) (Ev.ixL (Ev.var rfl) Ev.c (by omega) rfl) (Ev.var rfl) (by omega) (by omega))) (lets_len w.lp _ (at_mem (xs := lets) (by omega) (by omega))) fun s hs =>
    item_yes rfl (pair_at (Ev.ixM (A := pairD) (Ev.ixL (Ev.var rfl) Ev.c (by omega) rfl) (Ev.var rfl) (by omega) (by omega)) (Ev.var rfl) (lets_bits hm s hs))
  rw [filterMap_some] at q
  have := Ev.vL q
  rw [List.map_map]
  exact this
end LW
end

section
set_option maxHeartbeats 4000000
namespace LW
open PySem L2 EV
local macro_rules | `(tactic| get_elem_tactic_extensible) => `(tactic| first
  | ((with_reducible apply Ev.var); exact rfl)
  | with_reducible exact Ev.c
  | assumption
  | ((with_reducible apply Ev.add) <;> get_elem_tactic_extensible)
  | ((with_reducible apply Ev.sub) <;> get_elem_tactic_extensible)
  | ((with_reducible apply Ev.mulR) <;> get_elem_tactic_extensible)
  | ((with_reducible apply Ev.mulL) <;> get_elem_tactic_extensible)
  | ((with_reducible apply Ev.mod) <;> get_elem_tactic_extensible)
  | ((with_reducible apply Ev.fdiv) <;> get_elem_tactic_extensible)
  | ((with_reducible apply Ev.pow) <;> get_elem_tactic_extensible)
  | ((with_reducible apply Ev.neg) <;> get_elem_tactic_extensible)
  | ((with_reducible apply Ev.lt) <;> get_elem_tactic_extensible)
  | ((with_reducible apply Ev.le) <;> get_elem_tactic_extensible)
  | ((with_reducible apply Ev.gt) <;> get_elem_tactic_extensible)
  | ((with_reducible apply Ev.ge) <;> get_elem_tactic_extensible)
  | ((with_reducible apply Ev.eqI) <;> get_elem_tactic_extensible)
  | ((with_reducible apply Ev.neI) <;> get_elem_tactic_extensible)
  | ((with_reducible apply Ev.isN) <;> get_elem_tactic_extensible)
  | ((with_reducible apply Ev.notN) <;> get_elem_tactic_extensible)
  | ((with_reducible apply Ev.notP) <;> get_elem_tactic_extensible)
  | ((with_reducible apply Ev.andP) <;> get_elem_tactic_extensible)
  | ((with_reducible apply Ev.orP) <;> get_elem_tactic_extensible)
  | ((with_reducible apply Ev.int_) <;> get_elem_tactic_extensible)
  | ((with_reducible apply Ev.intB) <;> get_elem_tactic_extensible)
  | ((with_reducible apply Ev.lenL) <;> get_elem_tactic_extensible)
  | ((with_reducible apply Ev.lenT) <;> get_elem_tactic_extensible)
  | ((with_reducible apply Ev.lenS) <;> get_elem_tactic_extensible)
  | ((with_reducible apply Ev.min_) <;> get_elem_tactic_extensible)
  | ((with_reducible apply Ev.max_) <;> get_elem_tactic_extensible)
  | ((with_reducible apply Ev.abs_) <;> get_elem_tactic_extensible)
  | ((with_reducible apply Ev.tupleL) <;> get_elem_tactic_extensible)
  | ((with_reducible apply Ev.tupleT) <;> get_elem_tactic_extensible)
  | ((with_reducible apply EvL.listL) <;> get_elem_tactic_extensible)
  | ((with_reducible apply EvL.listT) <;> get_elem_tactic_extensible)
  | ((with_reducible apply Ev.ixL) <;> get_elem_tactic_extensible)
  | ((with_reducible apply Ev.ixT) <;> get_elem_tactic_extensible)
  | ((with_reducible apply Ev.ixM) <;> get_elem_tactic_extensible)
  | ((with_reducible apply Ev.ixMT) <;> get_elem_tactic_extensible)
  | ((with_reducible apply Ev.tup) <;> get_elem_tactic_extensible)
  | ((with_reducible apply Ev.vL) <;> get_elem_tactic_extensible)
  | with_reducible exact EvL.nil
  | ((with_reducible apply EvL.cons) <;> get_elem_tactic_extensible)
  | ((with_reducible apply EvL.lenOk) <;> get_elem_tactic_extensible)
  | ((with_reducible apply EvL.range1) <;> get_elem_tactic_extensible)
  | ((with_reducible apply EvL.seqL) <;> get_elem_tactic_extensible)
  | ((with_reducible apply EvL.seqT) <;> get_elem_tactic_extensible)
  | ((with_reducible apply EvL.seqS) <;> get_elem_tactic_extensible)
  | (intro; get_elem_tactic_extensible)
  | exact (show GetElem?.getElem? (List.cons _ _) _ = some _ from rfl)
  | omega
  | (simp only [List.length_map, List.length_append, List.length_replicate, List.length_cons, List.length_nil, List.length_range] <;> omega))
theorem sem_retL {n : Nat} {g : FS} {ds xs : List D} (h : Run g (ds.map Sl.v ++ List.replicate (n - ds.length) Sl.no) fun o => o = .rl xs) : semL n g ds = some (.ok xs) := by
  obtain ⟨o, e, rfl⟩ := h
  unfold semL
  rw [e]
theorem law_numbers_ok {mills : Int} {ps : List (Int × Int)} {low : List Int} {high : List (Option Int)} {lets : List (List Int)} (rest : List D) (w : WOk mills ps low high lets) (G : List Int) (V : D) (hV : V = .lst (G.map D.int) ∨ V = .tup (G.map D.int)) :
    semL_law_numbers [wD mills ps low high lets rest, V] = some (.ok [.int (canN ps lets G ps.length), .int (mustN ps lets G ps.length), .int (wantN low G mills.toNat), optD (bearN high G mills.toNat)]) := by
  refine sem_retL (n := 11) (ds := [wD mills ps low high lets rest, V]) ?_
  show Run g_law_numbers [.v (wD mills ps low high lets rest), .v V, .no, .no, .no, .no, .no, .no, .no, .no, .no] _
  have m1 := w.m1
  have m2 := w.m2
  have pl := w.pl
  have ll := w.ll
  have hll := w.lo.1
  have hhl := w.hl
  refine Run.sset (d := .int 0) Ev.c (Run.sset (d := .int 0) Ev.c ?_)
  refine Run.cut (fun ρ => ∃ x4 x5 x6 x9 x10, ρ = [.v (wD mills ps low high lets rest), .v V, .v (.int (canN ps lets G ps.length)), .v (.int (mustN ps lets G ps.length)), x4, x5, x6, .no, .no, x9, x10]) ?_ fun ρ hρ => ?_
  · refine Run.for (fun n ρ => ∃ x4 x5 x6 x9 x10, ρ = [.v (wD mills ps low high lets rest), .v V, .v (.int (canN ps lets G n)), .v (.int (mustN ps lets G n)), x4, x5, x6, .no, .no, x9, x10]) (EvL.range1 (j := ((ps.map pairD).length : Nat)) (Ev.lenL (Ev.ixL (Ev.var rfl) Ev.c (by omega) rfl)) (by rw [List.length_map]; omega)) ⟨.no, .no, .no, .no, .no, rfl⟩ (fun k d ρ hd hI => ?_) fun ρ hI => ?_
    · obtain ⟨x4, x5, x6, x9, x10, rfl⟩ := hI
      obtain ⟨rfl, hk⟩ := range0_get hd
      have hk : k < ps.length := by rw [List.length_map] at hk; omega
      refine ⟨_, rfl, Run.sset (ends_ev w k hk (.v V) _ _ _ _ _ _ _ _ .no) ?_⟩
      have hi := EvL.lc (fi := iSeq (vVar 5)) (fg := nmG 9) (ft := v2 inD (vVar 9) (vVar 1)) (fe := vVar 9) (vs := [9]) (ρ := [.v (wD mills ps low high lets rest), .v V, .v (.int (canN ps lets G k)), .v (.int (mustN ps lets G k)), .v (.int k), .v (.lst (((at_ lets (k : Int)).map (mE (at_ ps (k : Int)))).map D.int)), x6, .no, .no, x9, x10])
        ((at_ lets (k : Int)).map (mE (at_ ps (k : Int)))) D.int (fun x => if x ∈ G then some (.int x) else none) (EvL.seqL (Ev.var rfl)) (by rw [List.length_map]; exact lets_len w.lp _ (at_mem (xs := lets) (by omega) (by omega))) fun x hx => item_if rfl (in_ints (Ev.var rfl) (Ev.var rfl) hV) fun _ => Ev.var rfl
      rw [filterMap_if D.int (fun x => x ∈ G)] at hi
      have hn : ((List.map D.int (((at_ lets (k : Int)).map (mE (at_ ps (k : Int)))).filter fun x => decide (x ∈ G))).length : Int) = (insN (at_ ps (k : Int)) (at_ lets (k : Int)) G : Nat) := by
        unfold insN
        rw [List.length_map, List.filter_map, List.length_map]
        rfl
      have hi2 := Ev.lenL (Ev.vL hi)
      rw [hn] at hi2
      refine Run.sset hi2 ?_
      generalize hF : insN (at_ ps (k : Int)) (at_ lets (k : Int)) G = F
      have el : (((at_ lets (k : Int)).map (mE (at_ ps (k : Int)))).map D.int).length = (at_ lets (k : Int)).length := by rw [List.length_map, List.length_map]
      generalize ((at_ lets (k : Int)).map (mE (at_ ps (k : Int)))).map D.int = ens at el
      show Run (gSeq _ _) [.v (wD mills ps low high lets rest), .v V, .v (.int (canN ps lets G k)), .v (.int (mustN ps lets G k)), .v (.int k), .v (.lst ens), .v (.int (F : Nat)), .no, .no, x9, x10] _
      refine Run.cut (fun ρ => ρ = [.v (wD mills ps low high lets rest), .v V, .v (.int (canN ps lets G (k + 1))), .v (.int (mustN ps lets G k)), .v (.int k), .v (.lst ens), .v (.int (F : Nat)), .no, .no, x9, x10]) ?_ fun ρ hρ => ?_
      · rw [canN, hF]
        refine Run.ifP (P := (0 : Int) < (F : Nat)) (by get_elem_tactic_extensible) (fun h => Run.set (by get_elem_tactic_extensible) ⟨_, rfl, ?_⟩) fun h => Run.next ⟨_, rfl, ?_⟩
        · rw [if_pos (by omega)]; rfl
        · rw [if_neg (by omega), Int.add_zero]
      · subst hρ
        refine Run.ifP (P := (0 : Int) < (F : Nat) ∧ ((F : Nat) : Int) = (ens.length : Nat)) (by get_elem_tactic_extensible) (fun h => Run.set (by get_elem_tactic_extensible) ⟨.v (.int k), .v (.lst ens), .v (.int (F : Nat)), x9, x10, ?_⟩) fun h => Run.next ⟨.v (.int k), .v (.lst ens), .v (.int (F : Nat)), x9, x10, ?_⟩
        · rw [mustN, hF, if_pos (by rw [← el]; omega)]; rfl
        · rw [mustN, hF, if_neg (by rw [← el]; omega), Int.add_zero]
    · obtain ⟨x4, x5, x6, x9, x10, rfl⟩ := hI
      rw [rangeD_length, List.length_map]
      exact ⟨_, rfl, x4, x5, x6, x9, x10, rfl⟩
  · obtain ⟨x4, x5, x6, x9, x10, rfl⟩ := hρ
    generalize canN ps lets G ps.length = cn
    generalize mustN ps lets G ps.length = mn
    refine Run.sset (d := .int 0) Ev.c (Run.sset (d := .int 0) Ev.c ?_)
    refine Run.cut (fun ρ => ∃ x9, ρ = [.v (wD mills ps low high lets rest), .v V, .v (.int cn), .v (.int mn), x4, x5, x6, .v (.int (wantN low G mills.toNat)), .v (optD (bearN high G mills.toNat)), x9, x10]) ?_ fun ρ hρ => ?_
    · refine Run.for (fun n ρ => ∃ x9, ρ = [.v (wD mills ps low high lets rest), .v V, .v (.int cn), .v (.int mn), x4, x5, x6, .v (.int (wantN low G n)), .v (optD (bearN high G n)), x9, x10]) (EvL.range1 (j := mills) (Ev.ixL (Ev.var rfl) Ev.c (by omega) rfl) (by omega)) ⟨x9, rfl⟩ (fun k d ρ hd hI => ?_) fun ρ hI => ?_
      · obtain ⟨x9, rfl⟩ := hI
        obtain ⟨rfl, hk⟩ := range0_get hd
        refine ⟨_, rfl, Run.ifP (P := (k : Int) ∈ G) (in_ints (Ev.var rfl) (Ev.var rfl) hV) (fun h => ?_) fun h => Run.next ⟨.v (.int k), ?_⟩⟩
        · refine Run.sset (d := .int (wantN low G k + at_ low (k : Int))) (Ev.add (Ev.var rfl) (Ev.ixM (A := D.int) (Ev.ixL (Ev.var rfl) Ev.c (by omega) rfl) (Ev.var rfl) (by omega) (by omega))) ?_
          have hv : Ev (v2 ixD (v2 ixD (vVar 0) (vC (.int 3))) (vVar 9)) [.v (wD mills ps low high lets rest), .v V, .v (.int cn), .v (.int mn), x4, x5, x6, .v (.int (wantN low G k + at_ low (k : Int))), .v (optD (bearN high G k)), .v (.int k), x10] (optD (at_ high (k : Int))) := Ev.ixM (A := optD) (Ev.ixL (Ev.var rfl) Ev.c (by omega) rfl) (Ev.var rfl) (by omega) (by omega)
          show Run _ [.v (wD mills ps low high lets rest), .v V, .v (.int cn), .v (.int mn), x4, x5, x6, .v (.int (wantN low G k + at_ low (k : Int))), .v (optD (bearN high G k)), .v (.int k), x10] _
          rw [wantN, bearN, if_pos h, if_pos h]
          generalize at_ high (k : Int) = hk' at hv ⊢
          generalize bearN high G k = bk at hv ⊢
          cases bk with
          | none => exact Run.ifP (P := False) (iP := instDecidableFalse) (Ev.v2 (Ev.var rfl) Ev.c rfl) (fun h => h.elim) fun _ => Run.next ⟨.v (.int k), rfl⟩
          | some b =>
            refine Run.ifP (P := True) (iP := instDecidableTrue) (Ev.v2 (Ev.var rfl) Ev.c rfl) (fun _ => ?_) fun h => (h trivial).elim
            cases hk' with
            | none => exact Run.set (d := .non) (by unfold Ev vIf; rw [show v2 isNonD (v2 ixD (v2 ixD (vVar 0) (vC (.int 3))) (vVar 9)) (vC .non) _ = some (.ok (.bl true)) from Ev.v2 hv Ev.c rfl]; rfl) ⟨.v (.int k), rfl⟩
            | some x => exact Run.set (d := .int (b + x)) (by unfold Ev vIf; rw [show v2 isNonD (v2 ixD (v2 ixD (vVar 0) (vC (.int 3))) (vVar 9)) (vC .non) _ = some (.ok (.bl false)) from Ev.v2 hv Ev.c rfl]; exact Ev.add (fa := vVar 8) (i := b) (j := x) (Ev.var rfl) hv) ⟨.v (.int k), rfl⟩
        · rw [wantN, bearN, if_neg h, if_neg h]
          rfl
      · obtain ⟨x9, rfl⟩ := hI
        rw [rangeD_length]
        exact ⟨_, rfl, x9, rfl⟩
    · obtain ⟨x9, rfl⟩ := hρ
      exact Run.retL (EvL.lenOk (EvL.cons (Ev.var rfl) (EvL.cons (Ev.var rfl) (EvL.cons (Ev.var rfl) (EvL.cons (Ev.var rfl) .nil)))) (by simp)) rfl
end LW
end

section
set_option maxHeartbeats 4000000
namespace LW
open PySem L2 EV
local macro_rules | `(tactic| get_elem_tactic_extensible) => `(tactic| first
  | ((with_reducible apply Ev.var); exact rfl)
  | with_reducible exact Ev.c
  | assumption
  | ((with_reducible apply Ev.add) <;> get_elem_tactic_extensible)
  | ((with_reducible apply Ev.sub) <;> get_elem_tactic_extensible)
  | ((with_reducible apply Ev.mulR) <;> get_elem_tactic_extensible)
  | ((with_reducible apply Ev.mulL) <;> get_elem_tactic_extensible)
  | ((with_reducible apply Ev.mod) <;> get_elem_tactic_extensible)
  | ((with_reducible apply Ev.fdiv) <;> get_elem_tactic_extensible)
  | ((with_reducible apply Ev.pow) <;> get_elem_tactic_extensible)
  | ((with_reducible apply Ev.neg) <;> get_elem_tactic_extensible)
  | ((with_reducible apply Ev.lt) <;> get_elem_tactic_extensible)
  | ((with_reducible apply Ev.le) <;> get_elem_tactic_extensible)
  | ((with_reducible apply Ev.gt) <;> get_elem_tactic_extensible)
  | ((with_reducible apply Ev.ge) <;> get_elem_tactic_extensible)
  | ((with_reducible apply Ev.eqI) <;> get_elem_tactic_extensible)
  | ((with_reducible apply Ev.neI) <;> get_elem_tactic_extensible)
  | ((with_reducible apply Ev.isN) <;> get_elem_tactic_extensible)
  | ((with_reducible apply Ev.notN) <;> get_elem_tactic_extensible)
  | ((with_reducible apply Ev.notP) <;> get_elem_tactic_extensible)
  | ((with_reducible apply Ev.andP) <;> get_elem_tactic_extensible)
  | ((with_reducible apply Ev.orP) <;> get_elem_tactic_extensible)
  | ((with_reducible apply Ev.int_) <;> get_elem_tactic_extensible)
  | ((with_reducible apply Ev.intB) <;> get_elem_tactic_extensible)
  | ((with_reducible apply Ev.lenL) <;> get_elem_tactic_extensible)
  | ((with_reducible apply Ev.lenT) <;> get_elem_tactic_extensible)
  | ((with_reducible apply Ev.lenS) <;> get_elem_tactic_extensible)
  | ((with_reducible apply Ev.min_) <;> get_elem_tactic_extensible)
  | ((with_reducible apply Ev.max_) <;> get_elem_tactic_extensible)
  | ((with_reducible apply Ev.abs_) <;> get_elem_tactic_extensible)
  | ((with_reducible apply Ev.tupleL) <;> get_elem_tactic_extensible)
  | ((with_reducible apply Ev.tupleT) <;> get_elem_tactic_extensible)
  | ((with_reducible apply EvL.listL) <;> get_elem_tactic_extensible)
  | ((with_reducible apply EvL.listT) <;> get_elem_tactic_extensible)
  | ((with_reducible apply Ev.ixL) <;> get_elem_tactic_extensible)
  | ((with_reducible apply Ev.ixT) <;> get_elem_tactic_extensible)
  | ((with_reducible apply Ev.ixM) <;> get_elem_tactic_extensible)
  | ((with_reducible apply Ev.ixMT) <;> get_elem_tactic_extensible)
  | ((with_reducible apply Ev.tup) <;> get_elem_tactic_extensible)
  | ((with_reducible apply Ev.vL) <;> get_elem_tactic_extensible)
  | with_reducible exact EvL.nil
  | ((with_reducible apply EvL.cons) <;> get_elem_tactic_extensible)
  | ((with_reducible apply EvL.lenOk) <;> get_elem_tactic_extensible)
  | ((with_reducible apply EvL.range1) <;> get_elem_tactic_extensible)
  | ((with_reducible apply EvL.seqL) <;> get_elem_tactic_extensible)
  | ((with_reducible apply EvL.seqT) <;> get_elem_tactic_extensible)
  | ((with_reducible apply EvL.seqS) <;> get_elem_tactic_extensible)
  | (intro; get_elem_tactic_extensible)
  | exact (show GetElem?.getElem? (List.cons _ _) _ = some _ from rfl)
  | omega
  | (simp only [List.length_map, List.length_append, List.length_replicate, List.length_cons, List.length_nil, List.length_range] <;> omega))
/-- x = digits(cell(script, k), sizes) -/
theorem dig_run {fs fk fz : FE} {ρ : EV.Env} {ns : List Int} {k : Int} {i : Nat} {g2 : FS} {Q : Out → Prop} (sizes : List Int) (hs : Ev fs ρ (.scr ns)) (hk : Ev fk ρ (.int k)) (h0 : 0 ≤ k) (hz : Ev fz ρ (.lst (sizes.map D.int))) (hp : szOk sizes = true)
    (h : ∀ row : List Int, RowOk row sizes → Run g2 (ρ.set i (.v (.lst (row.map D.int)))) Q) :
    Run (gSeq (gSet i (vCallP 2 0 [0, 1] sem_law_digits [] (aCons (vCallP 2 0 [0, 1] sem_law_cell [] (aCons fs (aCons fk (aNil))) (aNil)) (aCons fz (aNil))) (aNil))) g2) ρ Q := by
  obtain ⟨row, e, ok⟩ := dig_cell sizes hs hk h0 hz hp
  exact Run.sset e (h row ok)
def sz4 : List Int := 24 :: 49 :: 4 :: (List.replicate 48 [24, 23]).flatten
def sz5 : List Int := 8 :: (List.replicate 48 2 ++ (List.replicate 24 [8, 8]).flatten ++ List.replicate 48 24)
def tbWide : List D := [.int 12, .int 9, .int 24, .int 16, .int 7, .int 20, .int 10, .int 24, .int 14, .int 8, .int 18, .int 11, .int 22, .int 13, .int 6, .int 15, .int 24, .int 17, .int 19, .int 21, .int 23, .int 5, .int 2, .int 1]
def tbSlack2 : List D := [.int 0, .int 0, .int 1, .int 0, .int 0, .int 2, .int 0, .int 1]
def tbTop3 : List D := [.non, .int 0, .int 1, .int 0, .non, .int 2, .int 0, .int 1]
theorem NNs.snoc {n : Nat} {cs : List Int} (h : NNs n cs) {c : Int} (hc : 0 ≤ c) : NNs (n + 1) (cs ++ [c]) := ⟨by simp [h.1], fun x hx => by
  rcases List.mem_append.mp hx with hx | hx
  · exact h.2 x hx
  · rw [List.mem_singleton.mp hx]; exact hc⟩
theorem map_snoc {α : Type} (A : α → D) (xs : List α) (x : α) : xs.map A ++ [A x] = (xs ++ [x]).map A := by rw [List.map_append]; rfl
theorem law_wide_ok (ns : List Int) (at0 upto : Int) (h0 : 0 ≤ at0) (u1 : 2 ≤ upto) (u2 : upto ≤ 48) : ∃ mills ps low high lets base, sem_law_wide [.scr ns, .int at0, .int upto] = some (.ok (wD mills ps low high lets [.tup (base.map D.int)])) ∧ WOk mills ps low high lets ∧ Bits ps.length base := by
  suffices H : Run g_law_wide [.v (.scr ns), .v (.int at0), .v (.int upto), .no, .no, .no, .no, .no, .no, .no, .no, .no, .no, .no, .no, .no, .no] (Ret fun d => ∃ mills ps low high lets base, d = wD mills ps low high lets [.tup (base.map D.int)] ∧ WOk mills ps low high lets ∧ Bits ps.length base) by
    obtain ⟨d, h, mills, ps, low, high, lets, base, rfl, q⟩ := sem_ret (n := 17) (ds := [.scr ns, .int at0, .int upto]) H
    exact ⟨mills, ps, low, high, lets, base, h, q⟩
  refine dig_run sz4 (by get_elem_tactic_extensible) (by get_elem_tactic_extensible) h0 rfl (by decide) fun row ro => ?_
  have hl : row.length = 99 := ro.1
  have lw : tbWide.length = 24 := rfl
  obtain ⟨m, hm, pm⟩ := tbl_get (tb := tbWide) (fun m => decide (1 ≤ m ∧ m ≤ 24)) (by decide) (i := at_ row 0 % 24) (by omega)
  have pm := of_decide_eq_true pm
  refine Run.sset (Ev.ixL (ds := tbWide) (by get_elem_tactic_extensible) (by get_elem_tactic_extensible) (by omega) hm) (Run.sset (d := .int (min m (upto / 2))) (by get_elem_tactic_extensible) (Run.sown (ds := []) (by get_elem_tactic_extensible) (show (5 : Nat) < 17 by decide) ?_))
  have hmills : ∃ mills, mills = min m (upto / 2) ∧ 1 ≤ mills ∧ mills ≤ 24 := ⟨_, rfl, by omega, by omega⟩
  obtain ⟨mills, em, m1, m24⟩ := hmills
  rw [← em]
  clear em hm pm lw
  show Run (gSeq _ _) [.v (.scr ns), .v (.int at0), .v (.int upto), .v (.lst (row.map D.int)), .v (.int mills), .own [], .no, .no, .no, .no, .no, .no, .no, .no, .no, .no, .no] _
  refine Run.cut (fun ρ => ∃ (ps : List (Int × Int)) (a b c : Sl), ps.length ≤ 48 ∧ PairsOk mills ps ∧ ρ = [.v (.scr ns), .v (.int at0), .v (.int upto), .v (.lst (row.map D.int)), .v (.int mills), .own (ps.map pairD), a, b, c, .no, .no, .no, .no, .no, .no, .no, .no]) ?_ fun ρ hρ => ?_
  · refine Run.ifP (by get_elem_tactic_extensible) (fun h => ?_) fun h => Run.next ⟨_, rfl, [], .no, .no, .no, by simp, fun p hp => by simp at hp, rfl⟩
    refine Run.for (fun n ρ => ∃ (ps : List (Int × Int)) (a b c : Sl), ps.length = n ∧ PairsOk mills ps ∧ ρ = [.v (.scr ns), .v (.int at0), .v (.int upto), .v (.lst (row.map D.int)), .v (.int mills), .own (ps.map pairD), a, b, c, .no, .no, .no, .no, .no, .no, .no, .no]) (EvL.range1 (j := min upto (mills - 1 + at_ row 1 % 49)) (by get_elem_tactic_extensible) (by omega)) ⟨[], .no, .no, .no, rfl, fun p hp => by simp at hp, rfl⟩ (fun j d ρ hd hI => ?_) fun ρ hI => ?_
    · obtain ⟨ps, a, b, c, e1, ok, rfl⟩ := hI
      obtain ⟨rfl, hj⟩ := range0_get hd
      have j48 : j < 48 := by omega
      refine ⟨_, rfl, ?_⟩
      generalize ex : at_ row (3 + 2 * (j : Int)) = x
      generalize ey : at_ row (4 + 2 * (j : Int)) = y
      have hx0 := Int.emod_nonneg x (show mills ≠ 0 by omega)
      have hx1 := Int.emod_lt_of_pos x (show 0 < mills by omega)
      have hy0 := Int.emod_nonneg y (show mills - 1 ≠ 0 by omega)
      have hy1 := Int.emod_lt_of_pos y (show 0 < mills - 1 by omega)
      have hz0 := Int.emod_nonneg y (show min 3 (mills - 1) ≠ 0 by omega)
      have hz1 := Int.emod_lt_of_pos y (show 0 < min 3 (mills - 1) by omega)
      obtain ⟨z0, z1, z2⟩ := mod_ne (a := x % mills) (b := y % (mills - 1)) (m := mills) ⟨hx0, hx1⟩ ⟨hy0, hy1⟩
      refine Run.sset (d := .int (x % mills)) (by rw [← ex]; get_elem_tactic_extensible) (Run.sset (d := .int ((x % mills + 1 + y % (mills - 1)) % mills)) (by rw [← ey]; get_elem_tactic_extensible) ?_)
      refine Run.cut (fun ρ => ∃ f s : Int, 0 ≤ f ∧ f < mills ∧ 0 ≤ s ∧ s < mills ∧ f ≠ s ∧ ρ = [.v (.scr ns), .v (.int at0), .v (.int upto), .v (.lst (row.map D.int)), .v (.int mills), .own (ps.map pairD), .v (.int j), .v (.int f), .v (.int s), .no, .no, .no, .no, .no, .no, .no, .no]) ?_ fun ρ hρ => ?_
      · refine Run.ifP (by get_elem_tactic_extensible) (fun h => ?_) fun h => Run.next ⟨_, rfl, _, _, hx0, hx1, z0, z1, z2, rfl⟩
        obtain ⟨w0, w1, w2⟩ := mod_ne (a := x % mills) (b := y % min 3 (mills - 1)) (m := mills) ⟨hx0, hx1⟩ ⟨hz0, by omega⟩
        exact Run.set (d := .int ((x % mills + 1 + y % min 3 (mills - 1)) % mills)) (by rw [← ey]; get_elem_tactic_extensible) ⟨_, rfl, _, _, hx0, hx1, w0, w1, w2, rfl⟩
      obtain ⟨f, s, f0, f1, s0, s1, ne, rfl⟩ := hρ
      refine Run.cut (fun ρ => ∃ f s : Int, 0 ≤ f ∧ f < mills ∧ 0 ≤ s ∧ s < mills ∧ f ≠ s ∧ ρ = [.v (.scr ns), .v (.int at0), .v (.int upto), .v (.lst (row.map D.int)), .v (.int mills), .own (ps.map pairD), .v (.int j), .v (.int f), .v (.int s), .no, .no, .no, .no, .no, .no, .no, .no]) ?_ fun ρ hρ => ?_
      · refine Run.ifP (by get_elem_tactic_extensible) (fun h => ?_) fun h => Run.next ⟨_, rfl, _, _, f0, f1, s0, s1, ne, rfl⟩
        obtain ⟨w0, w1, w2⟩ := mod_ne (a := (j : Int)) (b := 0) (m := mills) ⟨by omega, h.2⟩ ⟨by omega, by omega⟩
        rw [Int.add_zero] at w0 w1 w2
        exact Run.seq (Run.set (by get_elem_tactic_extensible) (Run.set (by get_elem_tactic_extensible) ⟨_, rfl, (j : Int), _, by omega, h.2, w0, w1, w2, rfl⟩))
      obtain ⟨f, s, f0, f1, s0, s1, ne, rfl⟩ := hρ
      refine Run.cut (fun ρ => ∃ f s : Int, 0 ≤ f ∧ f < mills ∧ 0 ≤ s ∧ s < mills ∧ f ≠ s ∧ ρ = [.v (.scr ns), .v (.int at0), .v (.int upto), .v (.lst (row.map D.int)), .v (.int mills), .own (ps.map pairD), .v (.int j), .v (.int f), .v (.int s), .no, .no, .no, .no, .no, .no, .no, .no]) ?_ fun ρ hρ => ?_
      · refine Run.ifP (by get_elem_tactic_extensible) (fun h => ?_) fun h => Run.next ⟨_, rfl, _, _, f0, f1, s0, s1, ne, rfl⟩
        have hj1 : 1 ≤ j := by omega
        have hm := ok _ (at_mem (xs := ps) (i := (j : Int) - 1) (by omega) (by omega))
        exact Run.seq (Run.setA (d := .int (at_ ps ((j : Int) - 1)).2) (Ev.ixT (ds := [.int (at_ ps ((j : Int) - 1)).1, .int (at_ ps ((j : Int) - 1)).2]) (Ev.ixM (A := pairD) (by get_elem_tactic_extensible) (by get_elem_tactic_extensible) (by omega) (by omega)) (by get_elem_tactic_extensible) (by omega) rfl) rfl
          (Run.setA (d := .int (at_ ps ((j : Int) - 1)).1) (Ev.ixT (ds := [.int (at_ ps ((j : Int) - 1)).1, .int (at_ ps ((j : Int) - 1)).2]) (Ev.ixM (A := pairD) (by get_elem_tactic_extensible) (by get_elem_tactic_extensible) (by omega) (by omega)) (by get_elem_tactic_extensible) (by omega) rfl) rfl
            ⟨_, rfl, _, _, hm.2.2.1, hm.2.2.2.1, hm.1, hm.2.1, Ne.symm hm.2.2.2.2, rfl⟩))
      obtain ⟨f, s, f0, f1, s0, s1, ne, rfl⟩ := hρ
      exact Run.app (xs := ps.map pairD) rfl (by get_elem_tactic_extensible) (by simp; omega) ⟨ps ++ [(f, s)], _, _, _, by simp [e1], ok.snoc ⟨f0, f1, s0, s1, ne⟩, by rw [List.map_append]; rfl⟩
    · obtain ⟨ps, a, b, c, e1, ok, rfl⟩ := hI
      refine ⟨_, rfl, ps, a, b, c, ?_, ok, rfl⟩
      rw [e1, rangeD_length]; omega
  obtain ⟨ps, a, b, c, p48, ok, rfl⟩ := hρ
  clear ro hl
  generalize row.map D.int = row0
  refine dig_run sz5 (by get_elem_tactic_extensible) (by get_elem_tactic_extensible) (by omega) rfl (by decide) fun row ro => ?_
  have hl : row.length = 145 := ro.1
  clear ro
  show Run (gSeq (gRel 5 _) _) [.v (.scr ns), .v (.int at0), .v (.int upto), .v (.lst (row.map D.int)), .v (.int mills), .own (ps.map pairD), a, b, c, .no, .no, .no, .no, .no, .no, .no, .no] _
  refine Run.srel (Run.sset (d := .tup (((List.range ps.length).map fun k : Nat => at_ row (1 + (k : Int)) % 2).map D.int)) ?_ ?_)
  · have q := EvL.lcr (fi := iRange1 (vCall lenD (aCons (vVar 5) (aNil)))) (fe := v2 modD (vCall intD (aCons (v2 ixD (vVar 3) (v2 addD (vC (.int 1)) (vVar 6))) (aNil))) (vC (.int 2))) (v := 6) (vs := [6]) (ρ := [.v (.scr ns), .v (.int at0), .v (.int upto), .v (.lst (row.map D.int)), .v (.int mills), .v (.lst (ps.map pairD)), a, b, c, .no, .no, .no, .no, .no, .no, .no, .no]) (n := ps.length) (fun k => .int (at_ row (1 + (k : Int)) % 2)) (by
        have := EvL.range1 (f := vCall lenD (aCons (vVar 5) (aNil))) (ρ := [.v (.scr ns), .v (.int at0), .v (.int upto), .v (.lst (row.map D.int)), .v (.int mills), .v (.lst (ps.map pairD)), a, b, c, .no, .no, .no, .no, .no, .no, .no, .no]) (j := ((ps.map pairD).length : Nat)) (by get_elem_tactic_extensible) (by rw [List.length_map]; omega)
        rw [List.length_map] at this
        exact this) (by omega) fun k hk => by get_elem_tactic_extensible
    rw [List.map_map]
    exact Ev.tupleL (Ev.vL q)
  have hb0 : Bits ps.length ((List.range ps.length).map fun k : Nat => at_ row (1 + (k : Int)) % 2) := ⟨by simp, fun b hb => by
    obtain ⟨k, _, rfl⟩ := List.mem_map.mp hb
    omega⟩
  generalize (List.range ps.length).map (fun k : Nat => at_ row (1 + (k : Int)) % 2) = bs at hb0 ⊢
  obtain ⟨cs, hc, nn⟩ := law_fed_ok mills ps bs (.tup (bs.map D.int)) m1 (by omega) ok (by omega) hb0 (.inr rfl)
  refine Run.srel (Run.sset (Ev.callP (ds := [.int mills, .lst (ps.map pairD), .tup (bs.map D.int)]) (by get_elem_tactic_extensible) EvL.nil ⟨rfl, rfl⟩ hc) (Run.sown (ds := []) (by get_elem_tactic_extensible) (show (11 : Nat) < 17 by decide) (Run.sown (ds := []) (by get_elem_tactic_extensible) (show (12 : Nat) < 17 by decide) ?_)))
  have hcs : cs.length = mills.toNat := nn.1
  show Run (gSeq _ _) [.v (.scr ns), .v (.int at0), .v (.int upto), .v (.lst (row.map D.int)), .v (.int mills), .v (.lst (ps.map pairD)), a, b, c, .v (.tup (bs.map D.int)), .v (.lst (cs.map D.int)), .own [], .own [], .no, .no, .no, .no] _
  refine Run.cut (fun ρ => ∃ (low : List Int) (hi : List (Option Int)) (x y z : Sl), NNs mills.toNat low ∧ hi.length = mills.toNat ∧ (∀ h ∈ hi, Pos h) ∧ ρ = [.v (.scr ns), .v (.int at0), .v (.int upto), .v (.lst (row.map D.int)), .v (.int mills), .v (.lst (ps.map pairD)), a, b, c, .v (.tup (bs.map D.int)), .v (.lst (cs.map D.int)), .own (low.map D.int), .own (hi.map optD), x, y, z, .no]) ?_ fun ρ hρ => ?_
  · refine Run.for (fun n ρ => ∃ (low : List Int) (hi : List (Option Int)) (x y z : Sl), NNs n low ∧ hi.length = n ∧ (∀ h ∈ hi, Pos h) ∧ ρ = [.v (.scr ns), .v (.int at0), .v (.int upto), .v (.lst (row.map D.int)), .v (.int mills), .v (.lst (ps.map pairD)), a, b, c, .v (.tup (bs.map D.int)), .v (.lst (cs.map D.int)), .own (low.map D.int), .own (hi.map optD), x, y, z, .no]) (EvL.range1 (j := mills) (by get_elem_tactic_extensible) (by omega)) ⟨[], [], .no, .no, .no, ⟨rfl, fun c hc => by simp at hc⟩, rfl, fun c hc => by simp at hc, rfl⟩ (fun j d ρ hd hI => ?_) fun ρ hI => ?_
    · obtain ⟨low, hi, x, y, z, nl, hh, hp, rfl⟩ := hI
      obtain ⟨rfl, hj⟩ := range0_get hd
      have hj5 : j < 24 := by omega
      have ls : tbSlack2.length = 8 := rfl
      have lt : tbTop3.length = 8 := rfl
      obtain ⟨sl, hsl, _⟩ := tbl_get (tb := tbSlack2) (fun _ => true) (by decide) (i := at_ row (49 + 2 * (j : Int)) % 8) (by omega)
      obtain ⟨tp, htp, ptp⟩ := tblO_get (tb := tbTop3) (by decide) (i := at_ row (50 + 2 * (j : Int)) % 8) (by omega)
      refine ⟨_, rfl, Run.sset (Ev.ixL (ds := tbSlack2) (i := at_ row (49 + 2 * (j : Int)) % 8) (by get_elem_tactic_extensible) (by get_elem_tactic_extensible) (by omega) hsl) (Run.sset (Ev.ixL (ds := tbTop3) (i := at_ row (50 + 2 * (j : Int)) % 8) (by get_elem_tactic_extensible) (by get_elem_tactic_extensible) (by omega) htp) ?_)⟩
      have cj := nn.at (k := (j : Int)) (by omega) (by omega)
      refine Run.cut (fun ρ => ∃ t : Option Int, Pos t ∧ ρ = [.v (.scr ns), .v (.int at0), .v (.int upto), .v (.lst (row.map D.int)), .v (.int mills), .v (.lst (ps.map pairD)), a, b, c, .v (.tup (bs.map D.int)), .v (.lst (cs.map D.int)), .own (low.map D.int), .own (hi.map optD), .v (.int j), .v (.int sl), .v (optD t), .no]) (Run.ifP (by get_elem_tactic_extensible) (fun h => Run.set (d := .non) (by get_elem_tactic_extensible) ⟨_, rfl, none, fun x e => (by cases e), rfl⟩) fun h => Run.next ⟨_, rfl, tp, ptp, rfl⟩) fun ρ hρ => ?_
      obtain ⟨t, pt, rfl⟩ := hρ
      refine Run.cut (fun ρ => ∃ s : Int, ρ = [.v (.scr ns), .v (.int at0), .v (.int upto), .v (.lst (row.map D.int)), .v (.int mills), .v (.lst (ps.map pairD)), a, b, c, .v (.tup (bs.map D.int)), .v (.lst (cs.map D.int)), .own (low.map D.int), .own (hi.map optD), .v (.int j), .v (.int s), .v (optD t), .no]) (Run.ifP (by get_elem_tactic_extensible) (fun h => Run.set (by get_elem_tactic_extensible) ⟨_, rfl, 0, rfl⟩) fun h => Run.next ⟨_, rfl, sl, rfl⟩) fun ρ hρ => ?_
      obtain ⟨s, rfl⟩ := hρ
      refine Run.cut (fun ρ => ∃ t : Option Int, Pos t ∧ ρ = [.v (.scr ns), .v (.int at0), .v (.int upto), .v (.lst (row.map D.int)), .v (.int mills), .v (.lst (ps.map pairD)), a, b, c, .v (.tup (bs.map D.int)), .v (.lst (cs.map D.int)), .own (low.map D.int), .own (hi.map optD), .v (.int j), .v (.int s), .v (optD t), .no]) (Run.ifP (by get_elem_tactic_extensible) (fun h => Run.set (d := .int 0) (by get_elem_tactic_extensible) ⟨_, rfl, some 0, fun x e => by cases e; decide, rfl⟩) fun h => Run.next ⟨_, rfl, t, pt, rfl⟩) fun ρ hρ => ?_
      clear pt ptp htp hsl t
      obtain ⟨t, pt, rfl⟩ := hρ
      refine Run.sapp (xs := low.map D.int) (d := .int (max 0 (at_ cs (j : Int) - s))) rfl (by get_elem_tactic_extensible) (by rw [List.length_map, nl.1]; omega) ?_
      rw [map_snoc]
      have nl1 := nl.snoc (c := max 0 (at_ cs (j : Int) - s)) (by omega)
      generalize low ++ [max 0 (at_ cs (j : Int) - s)] = low1 at nl1 ⊢
      show Run (gSeq _ _) [.v (.scr ns), .v (.int at0), .v (.int upto), .v (.lst (row.map D.int)), .v (.int mills), .v (.lst (ps.map pairD)), a, b, c, .v (.tup (bs.map D.int)), .v (.lst (cs.map D.int)), .own (low1.map D.int), .own (hi.map optD), .v (.int j), .v (.int s), .v (optD t), .no] _
      refine Run.cut (fun ρ => ∃ low2 : List Int, NNs (j + 1) low2 ∧ ρ = [.v (.scr ns), .v (.int at0), .v (.int upto), .v (.lst (row.map D.int)), .v (.int mills), .v (.lst (ps.map pairD)), a, b, c, .v (.tup (bs.map D.int)), .v (.lst (cs.map D.int)), .own (low2.map D.int), .own (hi.map optD), .v (.int j), .v (.int s), .v (optD t), .no]) ?_ fun ρ hρ => ?_
      · refine Run.ifP (by get_elem_tactic_extensible) (fun h => ?_) fun h => Run.next ⟨_, rfl, low1, nl1, rfl⟩
        exact Run.setIx (xs := low1.map D.int) (k := (j : Int)) (d := .int 0) rfl (by get_elem_tactic_extensible) (by get_elem_tactic_extensible) (by omega) (by rw [List.length_map, nl1.1]; omega) ⟨_, rfl, low1.set (Int.toNat j) 0, nl1.set (by omega), by rw [map_set]; rfl⟩
      obtain ⟨low2, nl2, rfl⟩ := hρ
      refine Run.cut (fun ρ => ∃ t : Option Int, Pos t ∧ ρ = [.v (.scr ns), .v (.int at0), .v (.int upto), .v (.lst (row.map D.int)), .v (.int mills), .v (.lst (ps.map pairD)), a, b, c, .v (.tup (bs.map D.int)), .v (.lst (cs.map D.int)), .own (low2.map D.int), .own (hi.map optD), .v (.int j), .v (.int s), .v (optD t), .no]) ?_ fun ρ hρ => ?_
      · cases t with
        | none => exact Run.ifP (P := False) (iP := instDecidableFalse) (by exact Ev.v2 (Ev.var rfl) .c rfl) (fun h => h.elim) fun h => Run.next ⟨_, rfl, none, pt, rfl⟩
        | some v =>
          have hv := pt v rfl
          exact Run.ifP (P := True) (iP := instDecidableTrue) (by exact Ev.v2 (Ev.var rfl) .c rfl) (fun h => Run.set (d := .int (at_ cs (j : Int) + v)) (Ev.add (Ev.ixM (A := D.int) (by get_elem_tactic_extensible) (by get_elem_tactic_extensible) (by omega) (by rw [hcs]; omega)) (Ev.var rfl)) ⟨_, rfl, some (at_ cs (j : Int) + v), fun x e => by cases e; omega, rfl⟩) fun h => (h trivial).elim
      clear pt t
      obtain ⟨t, pt, rfl⟩ := hρ
      refine Run.app (xs := hi.map optD) (d := optD t) rfl (Ev.var rfl) (by rw [List.length_map, hh]; omega) ⟨low2, hi ++ [t], _, _, _, nl2, by simp [hh], fun h hm => ?_, by rw [List.map_append]; rfl⟩
      rcases List.mem_append.mp hm with hm | hm
      · exact hp h hm
      · rw [List.mem_singleton.mp hm]; exact pt
    · obtain ⟨low, hi, x, y, z, nl, hh, hp, rfl⟩ := hI
      rw [rangeD_length] at nl hh
      exact ⟨_, rfl, low, hi, x, y, z, nl, hh, hp, rfl⟩
  · obtain ⟨low, hi, x, y, z, nl, hh, hp, rfl⟩ := hρ
    have hbl : bs.length = ps.length := hb0.1
    refine Run.srel (Run.sset (d := .lst (((List.range ps.length).map fun k : Nat => if at_ row (97 + (k : Int)) = 5 then [at_ bs (k : Int)] else [0, 1]).map letD)) ?_ ?_)
    · have q := EvL.lcr (fi := iRange1 (vCall lenD (aCons (vVar 5) (aNil)))) (fe := v2 ixD (vL (lenOk (aCons (vTup (aCons (vC (.int 0)) (aCons (vC (.int 1)) (aNil)))) (aCons (vTup (aCons (v2 ixD (vVar 9) (vVar 6)) (aNil))) (aNil))))) (vCall intD (aCons (v2 eqD (v2 ixD (vVar 3) (v2 addD (vC (.int 97)) (vVar 6))) (vC (.int 5))) (aNil)))) (v := 6) (vs := [6])
        (ρ := [.v (.scr ns), .v (.int at0), .v (.int upto), .v (.lst (row.map D.int)), .v (.int mills), .v (.lst (ps.map pairD)), a, b, c, .v (.tup (bs.map D.int)), .v (.lst (cs.map D.int)), .own (low.map D.int), .own (hi.map optD), x, y, z, .no]) (n := ps.length) (fun k => letD (if at_ row (97 + (k : Int)) = 5 then [at_ bs (k : Int)] else [0, 1])) (by
          have := EvL.range1 (f := vCall lenD (aCons (vVar 5) (aNil))) (ρ := [.v (.scr ns), .v (.int at0), .v (.int upto), .v (.lst (row.map D.int)), .v (.int mills), .v (.lst (ps.map pairD)), a, b, c, .v (.tup (bs.map D.int)), .v (.lst (cs.map D.int)), .own (low.map D.int), .own (hi.map optD), x, y, z, .no]) (j := ((ps.map pairD).length : Nat)) (by get_elem_tactic_extensible) (by rw [List.length_map]; omega)
          rw [List.length_map] at this
          exact this) (by omega) fun k hk => by
            have e0 : letD (if at_ row (97 + (k : Int)) = 5 then [at_ bs (k : Int)] else [0, 1]) = (if at_ row (97 + (k : Int)) = 5 then D.tup [.int (at_ bs (k : Int))] else D.tup [.int 0, .int 1]) := by split <;> rfl
            rw [e0]
            exact Ev.ix2 (d0 := .tup [.int 0, .int 1]) (d1 := .tup [.int (at_ bs (k : Int))]) (Ev.vL (EvL.lenOk (EvL.cons (Ev.tup (by get_elem_tactic_extensible) (by simp)) (EvL.cons (Ev.tup (EvL.cons (Ev.ixMT (A := D.int) (by get_elem_tactic_extensible) (by get_elem_tactic_extensible) (by omega) (by omega)) .nil) (by simp)) .nil)) (by simp))) (Ev.intB (Ev.eqI (i := at_ row (97 + (k : Int))) (Ev.ixM (A := D.int) (by get_elem_tactic_extensible) (by get_elem_tactic_extensible) (by omega) (by omega)) (by get_elem_tactic_extensible)))
      rw [List.map_map]
      exact Ev.vL q
    have hlets : ∀ l ∈ (List.range ps.length).map (fun k : Nat => if at_ row (97 + (k : Int)) = 5 then [at_ bs (k : Int)] else [0, 1]), l ∈ lets4 := fun l hm => by
      obtain ⟨k, hk, rfl⟩ := List.mem_map.mp hm
      have hk := List.mem_range.mp hk
      have hbit := hb0.at (k := (k : Int)) (by omega) (by omega)
      split
      · rcases hbit with e | e <;> rw [e] <;> decide
      · decide
    have hll : ((List.range ps.length).map fun k : Nat => if at_ row (97 + (k : Int)) = 5 then [at_ bs (k : Int)] else [0, 1]).length = ps.length := by simp
    generalize (List.range ps.length).map (fun k : Nat => if at_ row (97 + (k : Int)) = 5 then [at_ bs (k : Int)] else [0, 1]) = lets at hlets hll ⊢
    refine Run.rel (Run.rel (Run.rel (Run.ret (d := wD mills ps low hi lets [.tup (bs.map D.int)]) (by unfold wD; get_elem_tactic_extensible) ⟨mills, ps, low, hi, lets, bs, rfl, ⟨m1, m24, p48, ok, nl, hh, hp, hll, hlets⟩, hb0⟩)))
end LW
end

section
set_option maxHeartbeats 4000000
namespace LW
open PySem L2 EV
local macro_rules | `(tactic| get_elem_tactic_extensible) => `(tactic| first
  | ((with_reducible apply Ev.var); exact rfl)
  | with_reducible exact Ev.c
  | assumption
  | ((with_reducible apply Ev.add) <;> get_elem_tactic_extensible)
  | ((with_reducible apply Ev.sub) <;> get_elem_tactic_extensible)
  | ((with_reducible apply Ev.mulR) <;> get_elem_tactic_extensible)
  | ((with_reducible apply Ev.mulL) <;> get_elem_tactic_extensible)
  | ((with_reducible apply Ev.mod) <;> get_elem_tactic_extensible)
  | ((with_reducible apply Ev.fdiv) <;> get_elem_tactic_extensible)
  | ((with_reducible apply Ev.pow) <;> get_elem_tactic_extensible)
  | ((with_reducible apply Ev.neg) <;> get_elem_tactic_extensible)
  | ((with_reducible apply Ev.lt) <;> get_elem_tactic_extensible)
  | ((with_reducible apply Ev.le) <;> get_elem_tactic_extensible)
  | ((with_reducible apply Ev.gt) <;> get_elem_tactic_extensible)
  | ((with_reducible apply Ev.ge) <;> get_elem_tactic_extensible)
  | ((with_reducible apply Ev.eqI) <;> get_elem_tactic_extensible)
  | ((with_reducible apply Ev.neI) <;> get_elem_tactic_extensible)
  | ((with_reducible apply Ev.isN) <;> get_elem_tactic_extensible)
  | ((with_reducible apply Ev.notN) <;> get_elem_tactic_extensible)
  | ((with_reducible apply Ev.notP) <;> get_elem_tactic_extensible)
  | ((with_reducible apply Ev.andP) <;> get_elem_tactic_extensible)
  | ((with_reducible apply Ev.orP) <;> get_elem_tactic_extensible)
  | ((with_reducible apply Ev.int_) <;> get_elem_tactic_extensible)
  | ((with_reducible apply Ev.intB) <;> get_elem_tactic_extensible)
  | ((with_reducible apply Ev.lenL) <;> get_elem_tactic_extensible)
  | ((with_reducible apply Ev.lenT) <;> get_elem_tactic_extensible)
  | ((with_reducible apply Ev.lenS) <;> get_elem_tactic_extensible)
  | ((with_reducible apply Ev.min_) <;> get_elem_tactic_extensible)
  | ((with_reducible apply Ev.max_) <;> get_elem_tactic_extensible)
  | ((with_reducible apply Ev.abs_) <;> get_elem_tactic_extensible)
  | ((with_reducible apply Ev.tupleL) <;> get_elem_tactic_extensible)
  | ((with_reducible apply Ev.tupleT) <;> get_elem_tactic_extensible)
  | ((with_reducible apply EvL.listL) <;> get_elem_tactic_extensible)
  | ((with_reducible apply EvL.listT) <;> get_elem_tactic_extensible)
  | ((with_reducible apply Ev.ixL) <;> get_elem_tactic_extensible)
  | ((with_reducible apply Ev.ixT) <;> get_elem_tactic_extensible)
  | ((with_reducible apply Ev.ixM) <;> get_elem_tactic_extensible)
  | ((with_reducible apply Ev.ixMT) <;> get_elem_tactic_extensible)
  | ((with_reducible apply Ev.tup) <;> get_elem_tactic_extensible)
  | ((with_reducible apply Ev.vL) <;> get_elem_tactic_extensible)
  | with_reducible exact EvL.nil
  | ((with_reducible apply EvL.cons) <;> get_elem_tactic_extensible)
  | ((with_reducible apply EvL.lenOk) <;> get_elem_tactic_extensible)
  | ((with_reducible apply EvL.range1) <;> get_elem_tactic_extensible)
  | ((with_reducible apply EvL.seqL) <;> get_elem_tactic_extensible)
  | ((with_reducible apply EvL.seqT) <;> get_elem_tactic_extensible)
  | ((with_reducible apply EvL.seqS) <;> get_elem_tactic_extensible)
  | (intro; get_elem_tactic_extensible)
  | exact (show GetElem?.getElem? (List.cons _ _) _ = some _ from rfl)
  | omega
  | (simp only [List.length_map, List.length_append, List.length_replicate, List.length_cons, List.length_nil, List.length_range] <;> omega))
theorem WOk.setLow {mills : Int} {ps : List (Int × Int)} {low : List Int} {high : List (Option Int)} {lets : List (List Int)} (w : WOk mills ps low high lets) (k : Nat) {c : Int} (hc : 0 ≤ c) : WOk mills ps (low.set k c) high lets := { w with lo := w.lo.set hc }
theorem WOk.setHigh {mills : Int} {ps : List (Int × Int)} {low : List Int} {high : List (Option Int)} {lets : List (List Int)} (w : WOk mills ps low high lets) (k : Nat) {o : Option Int} (ho : Pos o) : WOk mills ps low (high.set k o) lets :=
  { w with
    hl := by rw [List.length_set]; exact w.hl
    hp := fun h hm => by
      rcases List.mem_or_eq_of_mem_set hm with hm | hm
      · exact w.hp h hm
      · rw [hm]; exact ho }
theorem WOk.setLet {mills : Int} {ps : List (Int × Int)} {low : List Int} {high : List (Option Int)} {lets : List (List Int)} (w : WOk mills ps low high lets) (k : Nat) {l : List Int} (h4 : l ∈ lets4) : WOk mills ps low high (lets.set k l) :=
  { w with
    ll := by rw [List.length_set]; exact w.ll
    lp := fun h hm => by
      rcases List.mem_or_eq_of_mem_set hm with hm | hm
      · exact w.lp h hm
      · rw [hm]; exact h4 }
theorem Pos.some {c : Int} (h : 0 ≤ c) : Pos (some c) := fun x e => by cases e; exact h
theorem pures_map {α : Type} {A : α → D} (h : ∀ x, (A x).pure = true) (xs : List α) : D.pures (xs.map A) = true := pures_all.mpr fun d hd => by
  obtain ⟨x, _, rfl⟩ := List.mem_map.mp hd
  exact h x
def tbSp : List D := [.int 1, .int 0, .int 2, .int 1, .int 0, .int 3, .int 1, .int 2]
def tb5 : List D := [.int 0, .int 0, .int 1, .int 1, .int 2, .int (10 ^ (30 : Int).toNat)]
def xs8 : List (List Int) := [[0], [1], [], [0], [1], [0, 1]]
def fr24 (mills : Int) (ps : List (Int × Int)) (W R : D) (low : List Int) (high : List (Option Int)) (lets : List (List Int)) (a b c d e f : Sl) : EV.Env := [.v W, .v R, .v (.int mills), .v (.lst (ps.map pairD)), .own (low.map D.int), .own (high.map optD), .own (lets.map letD), a, b, c, d, e, f]
theorem law_spoilt_ok {mills : Int} {ps : List (Int × Int)} {low0 : List Int} {high0 : List (Option Int)} {lets0 : List (List Int)} (rest : List D) (w0 : WOk mills ps low0 high0 lets0) (row : List Int) (hr : 10 ≤ row.length) :
    ∃ low high lets, sem_law_spoilt [wD mills ps low0 high0 lets0 rest, .lst (row.map D.int)] = some (.ok (wD mills ps low high lets [])) ∧ WOk mills ps low high lets := by
  suffices H : Run g_law_spoilt [.v (wD mills ps low0 high0 lets0 rest), .v (.lst (row.map D.int)), .no, .no, .no, .no, .no, .no, .no, .no, .no, .no, .no] (Ret fun d => ∃ low high lets, d = wD mills ps low high lets [] ∧ WOk mills ps low high lets) by
    obtain ⟨d, h, low, high, lets, rfl, q⟩ := sem_ret (n := 13) (ds := [wD mills ps low0 high0 lets0 rest, .lst (row.map D.int)]) H
    exact ⟨low, high, lets, h, q⟩
  have m1 := w0.m1
  have m2 := w0.m2
  have pl := w0.pl
  refine Run.sset (d := .int mills) (Ev.ixL (Ev.var rfl) Ev.c (by omega) rfl) (Run.sset (d := .lst (ps.map pairD)) (Ev.ixL (Ev.var rfl) Ev.c (by omega) rfl) ?_)
  refine Run.sown (EvL.listL (Ev.ixL (Ev.var rfl) Ev.c (by omega) rfl)) (show (4 : Nat) < 13 by decide) (Run.sown (EvL.listL (Ev.ixL (Ev.var rfl) Ev.c (by omega) rfl)) (show (5 : Nat) < 13 by decide) (Run.sown (EvL.listL (Ev.ixL (Ev.var rfl) Ev.c (by omega) rfl)) (show (6 : Nat) < 13 by decide) ?_))
  generalize wD mills ps low0 high0 lets0 rest = W
  show Run (gSeq _ _) (fr24 mills ps W (.lst (row.map D.int)) low0 high0 lets0 .no .no .no .no .no .no) _
  refine Run.cut (fun ρ => ∃ low high lets a b c d e f, WOk mills ps low high lets ∧ ρ = fr24 mills ps W (.lst (row.map D.int)) low high lets a b c d e f) ?_ fun ρ hρ => ?_
  · have lsp : tbSp.length = 8 := rfl
    obtain ⟨n, hn, pn⟩ := tbl_get (tb := tbSp) (fun m => decide (0 ≤ m ∧ m ≤ 3)) (by decide) (i := at_ row 0 % 8) (by omega)
    have pn := of_decide_eq_true pn
    refine Run.for (fun _ ρ => ∃ low high lets a b c d e f, WOk mills ps low high lets ∧ ρ = fr24 mills ps W (.lst (row.map D.int)) low high lets a b c d e f) (EvL.range1 (j := n) (Ev.ixL (ds := tbSp) (i := at_ row 0 % 8) (by rfl) (Ev.mod (Ev.int_ (Ev.ixM (A := D.int) (Ev.var rfl) Ev.c (by omega) (by omega))) Ev.c (by omega)) (by omega) hn) (by omega)) ⟨low0, high0, lets0, _, _, _, _, _, _, w0, rfl⟩ (fun t d ρ hd hI => ?_) fun ρ hI => ⟨_, rfl, hI⟩
    obtain ⟨low, high, lets, a, b, c, d, e, f, w, rfl⟩ := hI
    obtain ⟨rfl, ht⟩ := range0_get hd
    have t3 : t < 3 := by omega
    have ix : ∀ (k : Int) (i : Int) (ρ : EV.Env), 0 ≤ k → i = k + 3 * (t : Int) → i < 10 → ρ[1]? = some (.v (.lst (row.map D.int))) → ρ[7]? = some (.v (.int t)) → Ev (vCall intD (aCons (v2 ixD (vVar 1) (v2 addD (vC (.int k)) (v2 mulD (vC (.int 3)) (vVar 7)))) (aNil))) ρ (.int (at_ row i)) := fun k i ρ k0 ei hi h1 h7 => by
      subst ei
      exact Ev.int_ (Ev.ixM (A := D.int) (Ev.var h1) (Ev.add Ev.c (Ev.mulL Ev.c (Ev.var h7) (by omega))) (by omega) (by omega))
    refine ⟨_, rfl, ?_⟩
    refine Run.sset (d := .int (at_ row (1 + 3 * (t : Int)) % 12)) (Ev.mod (ix 1 _ _ (by omega) rfl (by omega) rfl rfl) Ev.c (by omega)) (Run.sset (d := .int (at_ row (2 + 3 * (t : Int)) % mills)) (Ev.mod (ix 2 _ _ (by omega) rfl (by omega) rfl rfl) (Ev.var rfl) (by omega)) (Run.sset (d := .int (at_ row (3 + 3 * (t : Int)) % 6)) (Ev.mod (ix 3 _ _ (by omega) rfl (by omega) rfl rfl) Ev.c (by omega)) ?_))
    have mi0 := Int.emod_nonneg (at_ row (2 + 3 * (t : Int))) (show mills ≠ 0 by omega)
    have mi1 := Int.emod_lt_of_pos (at_ row (2 + 3 * (t : Int))) (show 0 < mills by omega)
    have sz0 := Int.emod_nonneg (at_ row (3 + 3 * (t : Int))) (show (6 : Int) ≠ 0 by omega)
    have sz1 := Int.emod_lt_of_pos (at_ row (3 + 3 * (t : Int))) (show (0 : Int) < 6 by omega)
    generalize at_ row (1 + 3 * (t : Int)) % 12 = kd
    generalize at_ row (2 + 3 * (t : Int)) % mills = mi at mi0 mi1 ⊢
    generalize at_ row (3 + 3 * (t : Int)) % 6 = sz at sz0 sz1 ⊢
    show Run (gSeq _ _) (fr24 mills ps W (.lst (row.map D.int)) low high lets (.v (.int t)) (.v (.int kd)) (.v (.int mi)) (.v (.int sz)) e f) _
    have q := EvL.lc (fi := iRange1 (vCall lenD (aCons (vVar 3) (aNil)))) (fg := nmG 12) (ft := v2 inD (vVar 9) (v2 ixD (vVar 3) (vVar 12))) (fe := vVar 12) (vs := [12]) (ρ := fr24 mills ps W (.lst (row.map D.int)) low high lets (.v (.int t)) (.v (.int kd)) (.v (.int mi)) (.v (.int sz)) e f)
      (List.range ps.length) (fun k => D.int ((k : Nat) : Int)) (fun k => if mi ∈ [(at_ ps (k : Int)).1, (at_ ps (k : Int)).2] then some (.int (k : Nat)) else none) (by
        have := EvL.range1 (f := vCall lenD (aCons (vVar 3) (aNil))) (ρ := fr24 mills ps W (.lst (row.map D.int)) low high lets (.v (.int t)) (.v (.int kd)) (.v (.int mi)) (.v (.int sz)) e f) (j := ((ps.map pairD).length : Nat)) (Ev.lenL (Ev.var rfl)) (by rw [List.length_map]; omega)
        rw [List.length_map, range0_map] at this
        exact this) (by rw [List.length_range]; omega) fun k hk => item_if rfl (in_ints (G := [(at_ ps (k : Int)).1, (at_ ps (k : Int)).2]) (Ev.var rfl) (Ev.ixM (A := pairD) (Ev.var rfl) (Ev.var rfl) (by omega) (by have := List.mem_range.mp hk; omega)) (.inr rfl)) fun _ => Ev.var rfl
    refine Run.sset (Ev.lenL (Ev.vL q)) ?_
    generalize (List.filterMap (fun k : Nat => if mi ∈ [(at_ ps (k : Int)).1, (at_ ps (k : Int)).2] then some (D.int (k : Nat)) else none) (List.range ps.length)).length = nr
    clear q
    show Run (gSeq _ _) (fr24 mills ps W (.lst (row.map D.int)) low high lets (.v (.int t)) (.v (.int kd)) (.v (.int mi)) (.v (.int sz)) (.v (.int (nr : Nat))) f) _
    -- the need
    have M : ∀ (g1 g2 : FS) (low : List Int) (high : List (Option Int)) (lets : List (List Int)) (Q : Out → Prop), WOk mills ps low high lets →
        Run g1 (fr24 mills ps W (.lst (row.map D.int)) low high lets (.v (.int t)) (.v (.int kd)) (.v (.int mi)) (.v (.int sz)) (.v (.int (nr : Nat))) f) (fun o => ∃ ρ', o = .nx ρ' ∧ ∃ low high lets, WOk mills ps low high lets ∧ ρ' = fr24 mills ps W (.lst (row.map D.int)) low high lets (.v (.int t)) (.v (.int kd)) (.v (.int mi)) (.v (.int sz)) (.v (.int (nr : Nat))) f) →
        (∀ low high lets, WOk mills ps low high lets → Run g2 (fr24 mills ps W (.lst (row.map D.int)) low high lets (.v (.int t)) (.v (.int kd)) (.v (.int mi)) (.v (.int sz)) (.v (.int (nr : Nat))) f) Q) →
        Run (gSeq g1 g2) (fr24 mills ps W (.lst (row.map D.int)) low high lets (.v (.int t)) (.v (.int kd)) (.v (.int mi)) (.v (.int sz)) (.v (.int (nr : Nat))) f) Q := fun g1 g2 low high lets Q w h1 h2 => Run.cut _ h1 fun ρ hρ => by
      obtain ⟨low, high, lets, w, rfl⟩ := hρ
      exact h2 low high lets w
    have nx : ∀ {low : List Int} {high : List (Option Int)} {lets : List (List Int)}, WOk mills ps low high lets → Run gNext (fr24 mills ps W (.lst (row.map D.int)) low high lets (.v (.int t)) (.v (.int kd)) (.v (.int mi)) (.v (.int sz)) (.v (.int (nr : Nat))) f) (fun o => ∃ ρ', o = .nx ρ' ∧ ∃ low high lets, WOk mills ps low high lets ∧ ρ' = fr24 mills ps W (.lst (row.map D.int)) low high lets (.v (.int t)) (.v (.int kd)) (.v (.int mi)) (.v (.int sz)) (.v (.int (nr : Nat))) f) :=
      fun w => Run.next ⟨_, rfl, _, _, _, w, rfl⟩
    refine M _ _ _ _ _ _ w (Run.ifP (by get_elem_tactic_extensible) (fun h => ?_) fun h => nx w) fun low high lets w => ?_
    · have hl := w.lo.1
      have c0 := w.lo.at (k := mi) (by omega) (by omega)
      exact Run.setIxA (xs := low.map D.int) (k := mi) (d := .int (at_ low mi + 1 + sz / 4)) rfl (Ev.add (Ev.add (Ev.ixM (A := D.int) (Ev.var rfl) (Ev.var rfl) (by omega) (by omega)) Ev.c) (Ev.fdiv (Ev.var rfl) Ev.c (by omega))) rfl (Ev.var rfl) (by omega) (by rw [List.length_map]; omega) ⟨_, rfl, low.set mi.toNat (at_ low mi + 1 + sz / 4), high, lets, w.setLow _ (by omega), by rw [map_set]; rfl⟩
    refine M _ _ _ _ _ _ w (Run.ifP (by get_elem_tactic_extensible) (fun h => ?_) fun h => nx w) fun low high lets w => ?_
    · have hl := w.lo.1
      have x0 := Int.emod_nonneg (mi + 1) (show mills ≠ 0 by omega)
      have x1 := Int.emod_lt_of_pos (mi + 1) (show 0 < mills by omega)
      have ei : ∀ ρ : EV.Env, ρ[9]? = some (.v (.int mi)) → ρ[2]? = some (.v (.int mills)) → Ev (v2 modD (vCall intD (aCons (v2 addD (vVar 9) (vC (.int 1))) (aNil))) (vVar 2)) ρ (.int ((mi + 1) % mills)) := fun ρ h9 h2 => Ev.mod (Ev.int_ (Ev.add (Ev.var h9) Ev.c)) (Ev.var h2) (by omega)
      have c0 := w.lo.at (k := (mi + 1) % mills) (by omega) (by omega)
      exact Run.setIxA (xs := low.map D.int) (k := (mi + 1) % mills) (d := .int (at_ low ((mi + 1) % mills) + 1)) rfl (Ev.add (Ev.ixM (A := D.int) (Ev.var rfl) (ei _ rfl rfl) (by omega) (by omega)) Ev.c) rfl (ei _ rfl rfl) (by omega) (by rw [List.length_map]; omega) ⟨_, rfl, low.set ((mi + 1) % mills).toNat (at_ low ((mi + 1) % mills) + 1), high, lets, w.setLow _ (by omega), by rw [map_set]; rfl⟩
    refine M _ _ _ _ _ _ w (Run.ifP (by get_elem_tactic_extensible) (fun h => ?_) fun h => nx w) fun low high lets w => ?_
    · have hl := w.lo.1
      have hh := w.hl
      have c0 := w.lo.at (k := mi) (by omega) (by omega)
      exact Run.setIxA (xs := high.map optD) (k := mi) (d := .int (at_ low mi)) rfl (Ev.ixM (A := D.int) (Ev.var rfl) (Ev.var rfl) (by omega) (by omega)) rfl (Ev.var rfl) (by omega) (by rw [List.length_map]; omega) ⟨_, rfl, low, high.set mi.toNat (some (at_ low mi)), lets, w.setHigh _ (.some c0), by unfold fr24; rw [List.map_set]; rfl⟩
    refine M _ _ _ _ _ _ w (Run.ifP (by get_elem_tactic_extensible) (fun h => ?_) fun h => nx w) fun low high lets w => ?_
    · have hl := w.lo.1
      have hh := w.hl
      exact Run.setIxA (xs := high.map optD) (k := mi) (d := .int (max 0 (at_ low mi - 1))) rfl (Ev.max_ Ev.c (Ev.sub (Ev.ixM (A := D.int) (Ev.var rfl) (Ev.var rfl) (by omega) (by omega)) Ev.c)) rfl (Ev.var rfl) (by omega) (by rw [List.length_map]; omega) ⟨_, rfl, low, high.set mi.toNat (some (max 0 (at_ low mi - 1))), lets, w.setHigh _ (.some (by omega)), by unfold fr24; rw [List.map_set]; rfl⟩
    refine M _ _ _ _ _ _ w (Run.ifP (by get_elem_tactic_extensible) (fun h => ?_) fun h => nx w) fun low high lets w => ?_
    · have hh := w.hl
      have l5 : tb5.length = 6 := rfl
      obtain ⟨o, ho, po⟩ := tblO_get (tb := tb5) (by decide +kernel) (i := sz) (by omega)
      exact Run.setIx (xs := high.map optD) (k := mi) (d := optD o) rfl (Ev.ixL (ds := tb5) (by rfl) (Ev.var rfl) (by omega) ho) (Ev.var rfl) (by omega) (by rw [List.length_map]; omega) ⟨_, rfl, low, high.set mi.toNat o, lets, w.setHigh _ po, by unfold fr24; rw [List.map_set]; rfl⟩
    refine M _ _ _ _ _ _ w (Run.ifP (by get_elem_tactic_extensible) (fun h => ?_) fun h => nx w) fun low high lets w => ?_
    · have hl := w.lo.1
      have h30 : (0 : Int) ≤ 10 ^ (30 : Int).toNat := by decide +kernel
      have hx : ∃ xs : List Int, xs = [(nr : Int), nr, (nr : Int) + 1, nr, 10 ^ (30 : Int).toNat + (nr : Int), (nr : Int) + 2] := ⟨_, rfl⟩
      obtain ⟨xs, ex⟩ := hx
      have h6 : xs.length = 6 := by rw [ex]; rfl
      have hx0 : ∀ x ∈ xs, 0 ≤ x := fun x hx => by
        rw [ex] at hx
        simp only [List.mem_cons, List.not_mem_nil, or_false] at hx
        omega
      have c0 := hx0 _ (at_mem (xs := xs) (i := sz) (by omega) (by omega))
      have e6 : ∀ ρ : EV.Env, ρ[11]? = some (.v (.int (nr : Nat))) → Ev (vL (lenOk (aCons (vVar 11) (aCons (vVar 11) (aCons (v2 addD (vVar 11) (vC (.int 1))) (aCons (vVar 11) (aCons (v2 addD (v2 powD (vC (.int 10)) (vC (.int 30))) (vVar 11)) (aCons (v2 addD (vVar 11) (vC (.int 2))) (aNil))))))))) ρ (.lst (xs.map D.int)) := fun ρ h => by
        subst ex
        exact Ev.vL (EvL.lenOk (EvL.cons (Ev.var h) (EvL.cons (Ev.var h) (EvL.cons (Ev.add (Ev.var h) Ev.c) (EvL.cons (Ev.var h) (EvL.cons (Ev.add (Ev.pow Ev.c Ev.c (by decide)) (Ev.var h)) (EvL.cons (Ev.add (Ev.var h) Ev.c) .nil)))))) (by simp))
      exact Run.setIx (xs := low.map D.int) (k := mi) (d := .int (at_ xs sz)) rfl (Ev.ixM (A := D.int) (e6 _ rfl) (Ev.var rfl) (by omega) (by omega)) (Ev.var rfl) (by omega) (by rw [List.length_map]; omega) ⟨_, rfl, low.set mi.toNat (at_ xs sz), high, lets, w.setLow _ c0, by rw [map_set]; rfl⟩
    refine M _ _ _ _ _ _ w (Run.ifP (by get_elem_tactic_extensible) (fun h => ?_) fun h => nx w) fun low high lets w => ?_
    · have hl := w.lo.1
      have q := EvL.lcr (fi := iRange1 (vVar 2)) (fe := v2 addD (v2 ixD (vVar 4) (vVar 12)) (v2 modD (vCall intD (aCons (v2 addD (vVar 12) (vVar 10)) (aNil))) (vC (.int 2)))) (v := 12) (vs := [12]) (ρ := thaw (fr24 mills ps W (.lst (row.map D.int)) low high lets (.v (.int t)) (.v (.int kd)) (.v (.int mi)) (.v (.int sz)) (.v (.int (nr : Nat))) f)) (n := mills.toNat) (fun k => optD (some (at_ low (k : Int) + ((k : Int) + sz) % 2))) (EvL.range1 (Ev.var rfl) (by omega)) (by omega) fun k hk =>
        Ev.add (Ev.ixM (A := D.int) (Ev.var rfl) (Ev.var rfl) (by omega) (by omega)) (Ev.mod (Ev.int_ (Ev.add (Ev.var rfl) (Ev.var rfl))) Ev.c (by omega))
      refine Run.ownA q (pures_map (fun x => rfl) _) (show (5 : Nat) < 13 by decide) ⟨_, rfl, low, (List.range mills.toNat).map fun k : Nat => some (at_ low (k : Int) + ((k : Int) + sz) % 2), lets, { w with hl := by simp, hp := fun h hm => ?_ }, by unfold fr24; rw [List.map_map]; rfl⟩
      obtain ⟨k, hk, rfl⟩ := List.mem_map.mp hm
      have c0 := w.lo.at (k := (k : Int)) (by omega) (by have := List.mem_range.mp hk; omega)
      exact .some (by omega)
    refine Run.ifP (P := 8 ≤ kd ∧ (0 : Int) < ((ps.map pairD).length : Nat)) (by get_elem_tactic_extensible) (fun h => ?_) fun h => Run.next ⟨low, high, lets, _, _, _, _, _, _, w, rfl⟩
    have hll := w.ll
    have hps : (ps.map pairD).length = ps.length := List.length_map _
    have hlm : (lets.map letD).length = lets.length := List.length_map _
    have l8 : xs8.length = 6 := rfl
    have x0 := Int.emod_nonneg (at_ row (2 + 3 * (t : Int))) (show ((ps.map pairD).length : Int) ≠ 0 by omega)
    have x1 := Int.emod_lt_of_pos (at_ row (2 + 3 * (t : Int))) (show (0 : Int) < ((ps.map pairD).length : Nat) by omega)
    have h8 : ∀ l ∈ xs8, l ∈ lets4 := by decide
    exact Run.setIx (xs := lets.map letD) (k := at_ row (2 + 3 * (t : Int)) % ((ps.map pairD).length : Nat)) (d := letD (at_ xs8 sz)) rfl (Ev.ixM (A := letD) (xs := xs8) (by rfl) (Ev.var rfl) (by omega) (by omega)) (Ev.mod (ix 2 _ _ (by omega) rfl (by omega) rfl rfl) (Ev.lenL (Ev.var rfl)) (by omega)) (by omega) (by omega)
      ⟨low, high, lets.set (at_ row (2 + 3 * (t : Int)) % ((ps.map pairD).length : Nat)).toNat (at_ xs8 sz), _, _, _, _, _, _, w.setLet _ (h8 _ (at_mem (by omega) (by omega))), by unfold fr24; rw [List.map_set]; rfl⟩
  · obtain ⟨low, high, lets, a, b, c, d, e, f, w, rfl⟩ := hρ
    exact Run.rel (Run.rel (Run.rel (Run.ret (d := wD mills ps low high lets []) (Ev.vL (EvL.lenOk (EvL.cons (Ev.var rfl) (EvL.cons (Ev.var rfl) (EvL.cons (Ev.var rfl) (EvL.cons (Ev.var rfl) (EvL.cons (Ev.var rfl) .nil))))) (by simp))) ⟨low, high, lets, rfl, w⟩)))
end LW
end

section
set_option maxHeartbeats 4000000
namespace LW
open PySem L2 EV
local macro_rules | `(tactic| get_elem_tactic_extensible) => `(tactic| first
  | ((with_reducible apply Ev.var); exact rfl)
  | with_reducible exact Ev.c
  | assumption
  | ((with_reducible apply Ev.add) <;> get_elem_tactic_extensible)
  | ((with_reducible apply Ev.sub) <;> get_elem_tactic_extensible)
  | ((with_reducible apply Ev.mulR) <;> get_elem_tactic_extensible)
  | ((with_reducible apply Ev.mulL) <;> get_elem_tactic_extensible)
  | ((with_reducible apply Ev.mod) <;> get_elem_tactic_extensible)
  | ((with_reducible apply Ev.fdiv) <;> get_elem_tactic_extensible)
  | ((with_reducible apply Ev.pow) <;> get_elem_tactic_extensible)
  | ((with_reducible apply Ev.neg) <;> get_elem_tactic_extensible)
  | ((with_reducible apply Ev.lt) <;> get_elem_tactic_extensible)
  | ((with_reducible apply Ev.le) <;> get_elem_tactic_extensible)
  | ((with_reducible apply Ev.gt) <;> get_elem_tactic_extensible)
  | ((with_reducible apply Ev.ge) <;> get_elem_tactic_extensible)
  | ((with_reducible apply Ev.eqI) <;> get_elem_tactic_extensible)
  | ((with_reducible apply Ev.neI) <;> get_elem_tactic_extensible)
  | ((with_reducible apply Ev.isN) <;> get_elem_tactic_extensible)
  | ((with_reducible apply Ev.notN) <;> get_elem_tactic_extensible)
  | ((with_reducible apply Ev.notP) <;> get_elem_tactic_extensible)
  | ((with_reducible apply Ev.andP) <;> get_elem_tactic_extensible)
  | ((with_reducible apply Ev.orP) <;> get_elem_tactic_extensible)
  | ((with_reducible apply Ev.int_) <;> get_elem_tactic_extensible)
  | ((with_reducible apply Ev.intB) <;> get_elem_tactic_extensible)
  | ((with_reducible apply Ev.lenL) <;> get_elem_tactic_extensible)
  | ((with_reducible apply Ev.lenT) <;> get_elem_tactic_extensible)
  | ((with_reducible apply Ev.lenS) <;> get_elem_tactic_extensible)
  | ((with_reducible apply Ev.min_) <;> get_elem_tactic_extensible)
  | ((with_reducible apply Ev.max_) <;> get_elem_tactic_extensible)
  | ((with_reducible apply Ev.abs_) <;> get_elem_tactic_extensible)
  | ((with_reducible apply Ev.tupleL) <;> get_elem_tactic_extensible)
  | ((with_reducible apply Ev.tupleT) <;> get_elem_tactic_extensible)
  | ((with_reducible apply EvL.listL) <;> get_elem_tactic_extensible)
  | ((with_reducible apply EvL.listT) <;> get_elem_tactic_extensible)
  | ((with_reducible apply Ev.ixL) <;> get_elem_tactic_extensible)
  | ((with_reducible apply Ev.ixT) <;> get_elem_tactic_extensible)
  | ((with_reducible apply Ev.ixM) <;> get_elem_tactic_extensible)
  | ((with_reducible apply Ev.ixMT) <;> get_elem_tactic_extensible)
  | ((with_reducible apply Ev.tup) <;> get_elem_tactic_extensible)
  | ((with_reducible apply Ev.vL) <;> get_elem_tactic_extensible)
  | with_reducible exact EvL.nil
  | ((with_reducible apply EvL.cons) <;> get_elem_tactic_extensible)
  | ((with_reducible apply EvL.lenOk) <;> get_elem_tactic_extensible)
  | ((with_reducible apply EvL.range1) <;> get_elem_tactic_extensible)
  | ((with_reducible apply EvL.seqL) <;> get_elem_tactic_extensible)
  | ((with_reducible apply EvL.seqT) <;> get_elem_tactic_extensible)
  | ((with_reducible apply EvL.seqS) <;> get_elem_tactic_extensible)
  | (intro; get_elem_tactic_extensible)
  | exact (show GetElem?.getElem? (List.cons _ _) _ = some _ from rfl)
  | omega
  | (simp only [List.length_map, List.length_append, List.length_replicate, List.length_cons, List.length_nil, List.length_range] <;> omega))
theorem at_map_range {α : Type} [Inhabited α] (f : Nat → α) (n k : Nat) (h : k < n) : at_ ((List.range n).map f) (k : Int) = f k := by
  unfold at_
  rw [List.getD_eq_getElem?_getD, List.getElem?_map]
  have : (k : Int).toNat = k := by omega
  rw [this, List.getElem?_range h]
  rfl
theorem bearN_some {high : List (Option Int)} {G : List Int} : ∀ n : Nat, (∀ k : Nat, k < n → (k : Int) ∈ G → ∃ x, at_ high (k : Int) = some x) → ∃ b, bearN high G n = some b
  | 0, _ => ⟨0, rfl⟩
  | n + 1, h => by
    obtain ⟨b, hb⟩ := bearN_some n fun k hk hm => h k (by omega) hm
    unfold bearN
    by_cases hm : (n : Int) ∈ G
    · obtain ⟨x, hx⟩ := h n (by omega) hm
      rw [if_pos hm, hb, hx]
      exact ⟨_, rfl⟩
    · rw [if_neg hm]
      exact ⟨b, hb⟩
/-- the last one -/
theorem Ev.lastT {fa : FE} {ρ : EV.Env} {xs : List Int} (ha : Ev fa ρ (.tup (xs.map D.int))) (h : 0 < xs.length) : Ev (v2 ixD fa (v1 negD (vC (.int 1)))) ρ (.int (at_ xs ((xs.length : Int) - 1))) := by
  refine Ev.v2 ha (Ev.neg Ev.c) ?_
  show atI (xs.map D.int) (-1) = _
  unfold atI ixN
  rw [List.length_map, if_neg (by omega), if_pos (by omega)]
  show (xs.map D.int)[((-1 : Int) + (xs.length : Int)).toNat]? = _
  rw [List.getElem?_map, show ((-1 : Int) + (xs.length : Int)) = (xs.length : Int) - 1 by omega, at_get (by omega) (by omega)]
  rfl
theorem WOk.high {mills : Int} {ps : List (Int × Int)} {low : List Int} {high high' : List (Option Int)} {lets : List (List Int)} (w : WOk mills ps low high lets) (h1 : high'.length = mills.toNat) (h2 : ∀ h ∈ high', Pos h) : WOk mills ps low high' lets := { w with hl := h1, hp := h2 }
def LotOk (mills : Int) (G : List Int) : Prop := ∀ x ∈ G, 0 ≤ x ∧ x < mills
theorem law_levelled_ok {mills : Int} {ps : List (Int × Int)} {low0 : List Int} {high0 : List (Option Int)} {lets : List (List Int)} (rest : List D) (w0 : WOk mills ps low0 high0 lets) (one two : List Int) (h1 : LotOk mills one) (h2 : LotOk mills two) (above below : Int) :
    ∃ low high, sem_law_levelled [wD mills ps low0 high0 lets rest, .tup (one.map D.int), .tup (two.map D.int), .int above, .int below] = some (.ok (wD mills ps low high lets [])) ∧ WOk mills ps low high lets := by
  generalize eW : wD mills ps low0 high0 lets rest = W
  suffices H : Run g_law_levelled [.v W, .v (.tup (one.map D.int)), .v (.tup (two.map D.int)), .v (.int above), .v (.int below), .no, .no, .no, .no] (Ret fun d => ∃ low high, d = wD mills ps low high lets [] ∧ WOk mills ps low high lets) by
    obtain ⟨d, h, low, high, rfl, q⟩ := sem_ret (n := 9) (ds := [W, .tup (one.map D.int), .tup (two.map D.int), .int above, .int below]) H
    exact ⟨low, high, h, q⟩
  have m1 := w0.m1
  have m2 := w0.m2
  have pl := w0.pl
  have i0 : ∀ ρ : EV.Env, ρ[0]? = some (.v W) → Ev (v2 ixD (vVar 0) (vC (.int 0))) ρ (.int mills) := fun ρ h => by subst eW; exact Ev.ixL (Ev.var h) Ev.c (by omega) rfl
  have i1 : ∀ ρ : EV.Env, ρ[0]? = some (.v W) → Ev (v2 ixD (vVar 0) (vC (.int 1))) ρ (.lst (ps.map pairD)) := fun ρ h => by subst eW; exact Ev.ixL (Ev.var h) Ev.c (by omega) rfl
  have i4 : ∀ ρ : EV.Env, ρ[0]? = some (.v W) → Ev (v2 ixD (vVar 0) (vC (.int 4))) ρ (.lst (lets.map letD)) := fun ρ h => by subst eW; exact Ev.ixL (Ev.var h) Ev.c (by omega) rfl
  have n1 := law_numbers_ok rest w0 one (.tup (one.map D.int)) (.inr rfl)
  rw [eW] at n1
  refine Run.sown (ds := low0.map D.int) (by subst eW; exact EvL.listL (Ev.ixL (Ev.var rfl) Ev.c (by omega) rfl)) (show (5 : Nat) < 9 by decide) (Run.sown (ds := high0.map optD) (by subst eW; exact EvL.listL (Ev.ixL (Ev.var rfl) Ev.c (by omega) rfl)) (show (6 : Nat) < 9 by decide) ?_)
  clear eW
  show Run (gSeq _ _) [.v W, .v (.tup (one.map D.int)), .v (.tup (two.map D.int)), .v (.int above), .v (.int below), .own (low0.map D.int), .own (high0.map optD), .no, .no] _
  refine Run.cut (fun ρ => ∃ low a, WOk mills ps low high0 lets ∧ ρ = [.v W, .v (.tup (one.map D.int)), .v (.tup (two.map D.int)), .v (.int above), .v (.int below), .own (low.map D.int), .own (high0.map optD), a, .no]) ?_ fun ρ hρ => ?_
  · refine Run.ifP (P := (0 : Int) < ((one.map D.int).length : Nat)) (by get_elem_tactic_extensible) (fun h => ?_) fun h => Run.next ⟨_, rfl, low0, _, w0, rfl⟩
    rw [List.length_map] at h
    have o1 := h1 _ (at_mem (xs := one) (i := 0) (by omega) (by omega))
    have hl := w0.lo.1
    refine Run.sset (Ev.vL (EvL.callP (ds := [W, .tup (one.map D.int)]) (EvL.cons (Ev.var rfl) (EvL.cons (Ev.var rfl) .nil)) .nil ⟨rfl, rfl⟩ n1)) ?_
    have ei : ∀ ρ : EV.Env, ρ[1]? = some (.v (.tup (one.map D.int))) → Ev (v2 ixD (vVar 1) (vC (.int 0))) ρ (.int (at_ one 0)) := fun ρ h' => Ev.ixMT (A := D.int) (Ev.var h') Ev.c (by omega) (by omega)
    exact Run.setIxA (xs := low0.map D.int) (k := at_ one 0) (d := .int (max 0 (at_ low0 (at_ one 0) + canN ps lets one ps.length + above - wantN low0 one mills.toNat))) rfl
      (Ev.max_ Ev.c (Ev.sub (Ev.add (Ev.add (Ev.ixM (A := D.int) (Ev.var rfl) (ei _ rfl) (by omega) (by omega)) (Ev.ixL (Ev.var rfl) Ev.c (by omega) rfl)) (Ev.var rfl)) (Ev.ixL (Ev.var rfl) Ev.c (by omega) rfl))) rfl (ei _ rfl) (by omega) (by rw [List.length_map]; omega)
      ⟨_, rfl, low0.set (at_ one 0).toNat (max 0 (at_ low0 (at_ one 0) + canN ps lets one ps.length + above - wantN low0 one mills.toNat)), _, w0.setLow _ (by omega), by rw [map_set]; rfl⟩
  clear n1 w0 low0
  obtain ⟨low, a, w, rfl⟩ := hρ
  refine Run.cut (fun ρ => ∃ high a b, WOk mills ps low high lets ∧ ρ = [.v W, .v (.tup (one.map D.int)), .v (.tup (two.map D.int)), .v (.int above), .v (.int below), .own (low.map D.int), .own (high.map optD), a, b]) ?_ fun ρ hρ => ?_
  · refine Run.ifP (P := (0 : Int) < ((two.map D.int).length : Nat)) (by get_elem_tactic_extensible) (fun h => ?_) fun h => Run.next ⟨_, rfl, high0, _, _, w, rfl⟩
    rw [List.length_map] at h
    have hh := w.hl
    have q := EvL.lcr (fi := iRange1 (v2 ixD (vVar 0) (vC (.int 0)))) (fe := vIf (vAnd (v2 inD (vVar 8) (vVar 2)) (v2 isNonD (v2 ixD (vVar 6) (vVar 8)) (vC .non))) (vCall lenD (aCons (v2 ixD (vVar 0) (vC (.int 1))) (aNil))) (v2 ixD (vVar 6) (vVar 8))) (v := 8) (vs := [8])
      (ρ := thaw [.v W, .v (.tup (one.map D.int)), .v (.tup (two.map D.int)), .v (.int above), .v (.int below), .own (low.map D.int), .own (high0.map optD), a, .no]) (n := mills.toNat) (fun k => optD (if (k : Int) ∈ two ∧ (optD (at_ high0 (k : Int))).isNon = true then some ((ps.length : Nat) : Int) else at_ high0 (k : Int))) (EvL.range1 (i0 _ rfl) (by omega)) (by omega) fun k hk => by
        have e0 : optD (if (k : Int) ∈ two ∧ (optD (at_ high0 (k : Int))).isNon = true then some ((ps.length : Nat) : Int) else at_ high0 (k : Int)) = if (k : Int) ∈ two ∧ (optD (at_ high0 (k : Int))).isNon = true then .int (((ps.map pairD).length : Nat) : Int) else optD (at_ high0 (k : Int)) := by
          rw [List.length_map]
          split <;> rfl
        rw [e0]
        have ev6 : ∀ ρ : EV.Env, ρ[6]? = some (.v (.lst (high0.map optD))) → ρ[8]? = some (.v (.int (k : Nat))) → Ev (v2 ixD (vVar 6) (vVar 8)) ρ (optD (at_ high0 (k : Int))) := fun ρ h6 h8 => Ev.ixM (A := optD) (Ev.var h6) (Ev.var h8) (by omega) (by omega)
        exact Ev.ifP (Ev.andP (in_ints (Ev.var rfl) (Ev.var rfl) (.inr rfl)) fun _ => Ev.isN (ev6 _ rfl rfl)) (fun _ => Ev.lenL (i1 _ rfl)) fun _ => ev6 _ rfl rfl
    have w2 : WOk mills ps low ((List.range mills.toNat).map fun k : Nat => if (k : Int) ∈ two ∧ (optD (at_ high0 (k : Int))).isNon = true then some ((ps.length : Nat) : Int) else at_ high0 (k : Int)) lets := w.high (by simp) fun o hm => by
      obtain ⟨k, hk, rfl⟩ := List.mem_map.mp hm
      have hk := List.mem_range.mp hk
      split
      · exact .some (by omega)
      · exact w.hp _ (at_mem (by omega) (by omega))
    have hs : ∀ k : Nat, k < mills.toNat → (k : Int) ∈ two → ∃ x, at_ ((List.range mills.toNat).map fun k : Nat => if (k : Int) ∈ two ∧ (optD (at_ high0 (k : Int))).isNon = true then some ((ps.length : Nat) : Int) else at_ high0 (k : Int)) (k : Int) = some x := fun k hk hm => by
      rw [at_map_range _ _ _ hk]
      cases e : at_ high0 (k : Int) with
      | none => exact ⟨_, if_pos ⟨hm, rfl⟩⟩
      | some x => exact ⟨x, if_neg fun h => by cases h.2⟩
    have em : (List.range mills.toNat).map (fun k : Nat => optD (if (k : Int) ∈ two ∧ (optD (at_ high0 (k : Int))).isNon = true then some ((ps.length : Nat) : Int) else at_ high0 (k : Int))) = ((List.range mills.toNat).map fun k : Nat => if (k : Int) ∈ two ∧ (optD (at_ high0 (k : Int))).isNon = true then some ((ps.length : Nat) : Int) else at_ high0 (k : Int)).map optD := by rw [List.map_map]; rfl
    rw [em] at q
    generalize (List.range mills.toNat).map (fun k : Nat => if (k : Int) ∈ two ∧ (optD (at_ high0 (k : Int))).isNon = true then some ((ps.length : Nat) : Int) else at_ high0 (k : Int)) = high at q w2 hs
    clear em hh
    have hh := w2.hl
    have n2 := law_numbers_ok [] w2 two (.tup (two.map D.int)) (.inr rfl)
    obtain ⟨b, hb⟩ := bearN_some _ hs
    rw [hb] at n2
    have t1 := h2 _ (at_mem (xs := two) (i := (two.length : Int) - 1) (by omega) (by omega))
    obtain ⟨v, hv⟩ := hs (at_ two ((two.length : Int) - 1)).toNat (by omega) (by
      rw [Int.toNat_of_nonneg t1.1]
      exact at_mem (by omega) (by omega))
    rw [Int.toNat_of_nonneg t1.1] at hv
    refine Run.sownA q (pures_map (fun x => by cases x <;> rfl) _) (show (6 : Nat) < 9 by decide) ?_
    refine Run.sthen (EvL.callP (ds := [wD mills ps low high lets [], .tup (two.map D.int)]) (EvL.cons (Ev.vL (EvL.lenOk (EvL.cons (i0 _ rfl) (EvL.cons (i1 _ rfl) (EvL.cons (Ev.var rfl) (EvL.cons (Ev.var rfl) (EvL.cons (i4 _ rfl) .nil))))) (by simp))) (EvL.cons (Ev.var rfl) .nil)) .nil ⟨rfl, rfl⟩ n2) rfl (show (7 : Nat) < 9 by decide) ?_
    have e6 : ∀ ρ : EV.Env, ρ[2]? = some (.v (.tup (two.map D.int))) → ρ[6]? = some (.v (.lst (high.map optD))) → Ev (v2 ixD (vVar 6) (v2 ixD (vVar 2) (v1 negD (vC (.int 1))))) ρ (.int v) := fun ρ e2 e6 => by
      have := Ev.ixM (A := optD) (Ev.var e6) (Ev.lastT (Ev.var e2) (by omega)) t1.1 (by omega)
      rw [hv] at this
      exact this
    exact Run.setIxA (xs := high.map optD) (k := at_ two ((two.length : Int) - 1)) (d := .int (max 0 (v + mustN ps lets two ps.length - below - b))) rfl
      (Ev.max_ Ev.c (Ev.sub (Ev.sub (Ev.add (e6 _ rfl rfl) (Ev.ixL (Ev.var rfl) Ev.c (by omega) rfl)) (Ev.var rfl)) (Ev.ixL (d := .int b) (Ev.var rfl) Ev.c (by omega) rfl))) rfl (Ev.lastT (Ev.var rfl) (by omega)) (by omega) (by rw [List.length_map]; omega)
      ⟨_, rfl, high.set (at_ two ((two.length : Int) - 1)).toNat (some (max 0 (v + mustN ps lets two ps.length - below - b))), _, _, w2.setHigh _ (.some (by omega)), by rw [List.map_set]; rfl⟩
  obtain ⟨high, a, b, w, rfl⟩ := hρ
  exact Run.rel (Run.rel (Run.ret (d := wD mills ps low high lets []) (Ev.vL (EvL.lenOk (EvL.cons (i0 _ rfl) (EvL.cons (i1 _ rfl) (EvL.cons (Ev.var rfl) (EvL.cons (Ev.var rfl) (EvL.cons (i4 _ rfl) .nil))))) (by simp))) ⟨low, high, rfl, w⟩))
end LW
end

section
set_option maxHeartbeats 4000000
namespace LW
open PySem L2 EV
local macro_rules | `(tactic| get_elem_tactic_extensible) => `(tactic| first
  | ((with_reducible apply Ev.var); exact rfl)
  | with_reducible exact Ev.c
  | assumption
  | ((with_reducible apply Ev.add) <;> get_elem_tactic_extensible)
  | ((with_reducible apply Ev.sub) <;> get_elem_tactic_extensible)
  | ((with_reducible apply Ev.mulR) <;> get_elem_tactic_extensible)
  | ((with_reducible apply Ev.mulL) <;> get_elem_tactic_extensible)
  | ((with_reducible apply Ev.mod) <;> get_elem_tactic_extensible)
  | ((with_reducible apply Ev.fdiv) <;> get_elem_tactic_extensible)
  | ((with_reducible apply Ev.pow) <;> get_elem_tactic_extensible)
  | ((with_reducible apply Ev.neg) <;> get_elem_tactic_extensible)
  | ((with_reducible apply Ev.lt) <;> get_elem_tactic_extensible)
  | ((with_reducible apply Ev.le) <;> get_elem_tactic_extensible)
  | ((with_reducible apply Ev.gt) <;> get_elem_tactic_extensible)
  | ((with_reducible apply Ev.ge) <;> get_elem_tactic_extensible)
  | ((with_reducible apply Ev.eqI) <;> get_elem_tactic_extensible)
  | ((with_reducible apply Ev.neI) <;> get_elem_tactic_extensible)
  | ((with_reducible apply Ev.isN) <;> get_elem_tactic_extensible)
  | ((with_reducible apply Ev.notN) <;> get_elem_tactic_extensible)
  | ((with_reducible apply Ev.notP) <;> get_elem_tactic_extensible)
  | ((with_reducible apply Ev.andP) <;> get_elem_tactic_extensible)
  | ((with_reducible apply Ev.orP) <;> get_elem_tactic_extensible)
  | ((with_reducible apply Ev.int_) <;> get_elem_tactic_extensible)
  | ((with_reducible apply Ev.intB) <;> get_elem_tactic_extensible)
  | ((with_reducible apply Ev.lenL) <;> get_elem_tactic_extensible)
  | ((with_reducible apply Ev.lenT) <;> get_elem_tactic_extensible)
  | ((with_reducible apply Ev.lenS) <;> get_elem_tactic_extensible)
  | ((with_reducible apply Ev.min_) <;> get_elem_tactic_extensible)
  | ((with_reducible apply Ev.max_) <;> get_elem_tactic_extensible)
  | ((with_reducible apply Ev.abs_) <;> get_elem_tactic_extensible)
  | ((with_reducible apply Ev.tupleL) <;> get_elem_tactic_extensible)
  | ((with_reducible apply Ev.tupleT) <;> get_elem_tactic_extensible)
  | ((with_reducible apply EvL.listL) <;> get_elem_tactic_extensible)
  | ((with_reducible apply EvL.listT) <;> get_elem_tactic_extensible)
  | ((with_reducible apply Ev.ixL) <;> get_elem_tactic_extensible)
  | ((with_reducible apply Ev.ixT) <;> get_elem_tactic_extensible)
  | ((with_reducible apply Ev.ixM) <;> get_elem_tactic_extensible)
  | ((with_reducible apply Ev.ixMT) <;> get_elem_tactic_extensible)
  | ((with_reducible apply Ev.tup) <;> get_elem_tactic_extensible)
  | ((with_reducible apply Ev.vL) <;> get_elem_tactic_extensible)
  | with_reducible exact EvL.nil
  | ((with_reducible apply EvL.cons) <;> get_elem_tactic_extensible)
  | ((with_reducible apply EvL.lenOk) <;> get_elem_tactic_extensible)
  | ((with_reducible apply EvL.range1) <;> get_elem_tactic_extensible)
  | ((with_reducible apply EvL.seqL) <;> get_elem_tactic_extensible)
  | ((with_reducible apply EvL.seqT) <;> get_elem_tactic_extensible)
  | ((with_reducible apply EvL.seqS) <;> get_elem_tactic_extensible)
  | (intro; get_elem_tactic_extensible)
  | exact (show GetElem?.getElem? (List.cons _ _) _ = some _ from rfl)
  | omega
  | (simp only [List.length_map, List.length_append, List.length_replicate, List.length_cons, List.length_nil, List.length_range] <;> omega))
theorem LotOk.snoc {mills x : Int} {G : List Int} (h : LotOk mills G) (hx : 0 ≤ x ∧ x < mills) : LotOk mills (G ++ [x]) := fun y hy => by
  rcases List.mem_append.mp hy with hy | hy
  · exact h y hy
  · rw [List.mem_singleton.mp hy]; exact hx
/-- lots of some mills, of at most so many -/
def LotsOk (mills : Int) (m n : Nat) (ls : List (List Int)) : Prop := ls.length ≤ n ∧ ∀ l ∈ ls, LotOk mills l ∧ l.length ≤ m
theorem LotsOk.snoc {mills : Int} {m n : Nat} {ls : List (List Int)} {l : List Int} (h : LotsOk mills m n ls) (hl : LotOk mills l) (hm : l.length ≤ m) : LotsOk mills m (n + 1) (ls ++ [l]) := ⟨by have := h.1; simp; omega, fun x hx => by
  rcases List.mem_append.mp hx with hx | hx
  · exact h.2 x hx
  · rw [List.mem_singleton.mp hx]; exact ⟨hl, hm⟩⟩
theorem LotsOk.mono {mills : Int} {m n m' n' : Nat} {ls : List (List Int)} (h : LotsOk mills m n ls) (hm : m ≤ m') (hn : n ≤ n') : LotsOk mills m' n' ls := ⟨Nat.le_trans h.1 hn, fun l hl => ⟨(h.2 l hl).1, Nat.le_trans (h.2 l hl).2 hm⟩⟩
theorem LotsOk.append {mills : Int} {m n n' : Nat} {ls ls' : List (List Int)} (h : LotsOk mills m n ls) (h' : LotsOk mills m n' ls') : LotsOk mills m (n + n') (ls ++ ls') := ⟨by have := h.1; have := h'.1; simp; omega, fun x hx => by
  rcases List.mem_append.mp hx with hx | hx
  · exact h.2 x hx
  · exact h'.2 x hx⟩
theorem law_subsets_ok (mills : Int) (G : List Int) (n : Int) (h0 : 0 ≤ n) (h5 : n ≤ 5) (hG : LotOk mills G) (hl : G.length ≤ 5) : ∃ ls : List (List Int), sem_law_subsets [.lst (G.map D.int), .int n] = some (.ok (.lst (ls.map letD))) ∧ LotsOk mills 5 20000 ls := by
  suffices H : Run g_law_subsets [.v (.lst (G.map D.int)), .v (.int n), .no, .no, .no, .no, .no, .no] (Ret fun d => ∃ ls : List (List Int), d = .lst (ls.map letD) ∧ LotsOk mills 5 20000 ls) by
    obtain ⟨d, h, ls, rfl, q⟩ := sem_ret (n := 8) (ds := [.lst (G.map D.int), .int n]) H
    exact ⟨ls, h, q⟩
  refine Run.sset (d := .lst ([[]].map letD)) rfl (Run.sset (d := .lst ([[]].map letD)) rfl ?_)
  refine Run.cut (fun ρ => ∃ (ls : List (List Int)), LotsOk mills 5 20000 ls ∧ ρ[3]? = some (.v (.lst (ls.map letD)))) ?_ fun ρ hρ => ?_
  · refine Run.for (fun k ρ => ∃ (L S : List (List Int)) (a b c d : Sl), LotsOk mills k (5 ^ k) L ∧ LotsOk mills k (1 + 3125 * k) S ∧ ρ = [.v (.lst (G.map D.int)), .v (.int n), .v (.lst (L.map letD)), .v (.lst (S.map letD)), a, b, c, d]) (EvL.range1 (j := min n ((G.map D.int).length : Nat)) (Ev.min_ (Ev.var rfl) (Ev.lenL (Ev.var rfl))) (by rw [List.length_map]; omega)) ⟨[[]], [[]], _, _, _, _, ⟨by simp, fun l hl => by simp at hl; subst hl; exact ⟨fun x hx => by simp at hx, by simp⟩⟩, ⟨by simp, fun l hl => by simp at hl; subst hl; exact ⟨fun x hx => by simp at hx, by simp⟩⟩, rfl⟩ (fun k d ρ hd hI => ?_) fun ρ hI => ?_
    · obtain ⟨L, S, a, b, c, d, hL, hS, rfl⟩ := hI
      obtain ⟨rfl, hk⟩ := range0_get hd
      have hk : k < 5 := by omega
      have hp : 5 ^ k ≤ 625 := Nat.le_trans (Nat.pow_le_pow_right (n := 5) (by omega) (show k ≤ 4 by omega)) (by decide)
      have hp1 : 5 ^ (k + 1) = 5 ^ k * 5 := Nat.pow_succ ..
      refine ⟨_, rfl, Run.sown (ds := []) (by get_elem_tactic_extensible) (show (5 : Nat) < 8 by decide) ?_⟩
      show Run (gSeq _ _) [.v (.lst (G.map D.int)), .v (.int n), .v (.lst (L.map letD)), .v (.lst (S.map letD)), .v (.int k), .own [], c, d] _
      refine Run.cut (fun ρ => ∃ (R : List (List Int)) (c d : Sl), LotsOk mills (k + 1) (5 ^ k * 5) R ∧ ρ = [.v (.lst (G.map D.int)), .v (.int n), .v (.lst (L.map letD)), .v (.lst (S.map letD)), .v (.int k), .own (R.map letD), c, d]) ?_ fun ρ hρ => ?_
      · refine Run.for (fun i ρ => ∃ (R : List (List Int)) (c d : Sl), LotsOk mills (k + 1) (i * 5) R ∧ ρ = [.v (.lst (G.map D.int)), .v (.int n), .v (.lst (L.map letD)), .v (.lst (S.map letD)), .v (.int k), .own (R.map letD), c, d]) (EvL.seqL (Ev.var rfl)) ⟨[], _, _, ⟨by simp, fun l hl => by simp at hl⟩, rfl⟩ (fun i d ρ hd hI => ?_) fun ρ hI => ?_
        · obtain ⟨R, c, d, hR, rfl⟩ := hI
          rw [List.getElem?_map] at hd
          obtain ⟨l, hl', rfl⟩ := Option.map_eq_some_iff.mp hd
          have hi := (List.getElem?_eq_some_iff.mp hl').1
          have hm := hL.2 l (List.mem_of_getElem? hl')
          have hLl := hL.1
          refine ⟨_, rfl, ?_⟩
          refine Run.for (fun m ρ => ∃ (R : List (List Int)) (d : Sl), LotsOk mills (k + 1) (i * 5 + m) R ∧ ρ = [.v (.lst (G.map D.int)), .v (.int n), .v (.lst (L.map letD)), .v (.lst (S.map letD)), .v (.int k), .own (R.map letD), .v (letD l), d]) (EvL.seqL (Ev.var rfl)) ⟨R, _, hR, rfl⟩ (fun m d ρ hd hI => ?_) fun ρ hI => ?_
          · obtain ⟨R, d, hR, rfl⟩ := hI
            rw [List.getElem?_map] at hd
            obtain ⟨x, hx, rfl⟩ := Option.map_eq_some_iff.mp hd
            have hmm := (List.getElem?_eq_some_iff.mp hx).1
            have hxb := hG x (List.mem_of_getElem? hx)
            have hRl := hR.1
            refine ⟨_, rfl, ?_⟩
            refine Run.ifP (P := ((l.map D.int).length : Nat) = (0 : Int) ∨ at_ l ((l.length : Int) - 1) < x) (Ev.orP (Ev.eqI (Ev.lenT (Ev.var rfl)) Ev.c) fun h => Ev.gt (Ev.var rfl) (Ev.lastT (Ev.var rfl) (by rw [List.length_map] at h; omega))) (fun h => ?_) fun h => Run.next ⟨R, _, hR.mono (by omega) (by omega), rfl⟩
            refine Run.app (xs := R.map letD) (d := letD (l ++ [x])) rfl ?_ (by rw [List.length_map]; omega) ⟨R ++ [l ++ [x]], _, (hR.snoc (hm.1.snoc hxb) (by have := hm.2; simp; omega)), by rw [List.map_append]; rfl⟩
            have := Ev.addT (fa := vVar 6) (fb := vTup (aCons (vVar 7) aNil)) (ρ := [.v (.lst (G.map D.int)), .v (.int n), .v (.lst (L.map letD)), .v (.lst (S.map letD)), .v (.int k), .own (R.map letD), .v (letD l), .v (.int x)]) (ds := l.map D.int) (es := [.int x]) (Ev.var rfl) (Ev.tup (EvL.cons (Ev.var rfl) .nil) (by simp)) (by have := hm.2; simp; omega)
            show Ev _ _ (.tup ((l ++ [x]).map D.int))
            rw [List.map_append]
            exact this
          · obtain ⟨R, d, hR, rfl⟩ := hI
            rw [List.length_map] at hR
            exact ⟨R, _, _, hR.mono (by omega) (by omega), rfl⟩
        · obtain ⟨R, c, d, hR, rfl⟩ := hI
          rw [List.length_map] at hR
          have := hL.1
          exact ⟨_, rfl, R, _, _, hR.mono (by omega) (by omega), rfl⟩
      · obtain ⟨R, c, d, hR, rfl⟩ := hρ
        have hSl := hS.1
        have hRl := hR.1
        refine Run.sthen (EvL.listL (Ev.var rfl)) (pures_map (fun x => by exact pures_map (fun y => rfl) x) _) (show (2 : Nat) < 8 by decide) ?_
        refine Run.set (d := .lst ((S ++ R).map letD)) ?_ ⟨R, S ++ R, _, _, _, _, by rw [hp1]; exact hR, ((hS.mono (by omega) (Nat.le_refl _)).append hR).mono (Nat.le_refl _) (by omega), rfl⟩
        rw [List.map_append]
        exact Ev.addL (Ev.var rfl) (Ev.var rfl) (by rw [List.length_map, List.length_map]; omega)
    · obtain ⟨L, S, a, b, c, d, hL, hS, rfl⟩ := hI
      rw [rangeD_length, List.length_map] at hS
      exact ⟨_, rfl, S, hS.mono (by omega) (by omega), rfl⟩
  · obtain ⟨ls, h, e⟩ := hρ
    exact Run.ret (Ev.var e) ⟨ls, rfl, h⟩
theorem cut_map (A : Int → D) (xs : List Int) (lo hi : Option Int) : cutD (xs.map A) lo hi = ((xs.drop (HT.sIx xs.length 0 lo)).take (HT.sIx xs.length xs.length hi - HT.sIx xs.length 0 lo)).map A := by
  unfold cutD
  rw [List.length_map, List.map_take, List.map_drop]
theorem slice_upto {f fk : FE} {ρ : EV.Env} {xs : List Int} {k : Int} (h : Ev f ρ (letD xs)) (hk : Ev fk ρ (.int k)) (h0 : 0 ≤ k) : Ev (vSlice f oNone (oSome fk)) ρ (letD (xs.take k.toNat)) := by
  unfold Ev vSlice
  rw [h]
  unfold oNone oSome
  rw [hk]
  show some (R.ok (D.tup (cutD (xs.map D.int) none (some k)))) = _
  rw [cut_map]
  have e : HT.sIx xs.length xs.length (some k) = min k.toNat xs.length := by
    show (if k < 0 then _ else _) = _
    rw [if_neg (by omega)]
  rw [e]
  show some (R.ok (D.tup (((xs.drop 0).take (min k.toNat xs.length - 0)).map D.int))) = _
  rw [List.drop_zero, Nat.sub_zero]
  congr 4
  rcases Nat.le_total k.toNat xs.length with h | h
  · rw [Nat.min_eq_left h]
  · rw [Nat.min_eq_right h, List.take_of_length_le h, List.take_length]
theorem slice_from {f fk : FE} {ρ : EV.Env} {xs : List Int} {k : Int} (h : Ev f ρ (letD xs)) (hk : Ev fk ρ (.int k)) (h0 : 0 ≤ k) : Ev (vSlice f (oSome fk) oNone) ρ (letD (xs.drop k.toNat)) := by
  unfold Ev vSlice
  rw [h]
  unfold oNone oSome
  rw [hk]
  show some (R.ok (D.tup (cutD (xs.map D.int) (some k) none))) = _
  rw [cut_map]
  have e : HT.sIx xs.length 0 (some k) = min k.toNat xs.length := by
    show (if k < 0 then _ else _) = _
    rw [if_neg (by omega)]
  rw [e]
  show some (R.ok (D.tup (((xs.drop (min k.toNat xs.length)).take (xs.length - min k.toNat xs.length)).map D.int))) = _
  congr 4
  rcases Nat.le_total k.toNat xs.length with h | h
  · rw [Nat.min_eq_left h, List.take_of_length_le (by rw [List.length_drop]; omega)]
  · rw [Nat.min_eq_right h, List.drop_length, List.drop_of_length_le h, List.take_nil]
theorem tup_map {f : FE} {ρ : EV.Env} {xs ys : List Int} {fb : FE} (ha : Ev f ρ (letD xs)) (hb : Ev fb ρ (letD ys)) (h : xs.length + ys.length ≤ 100000) : Ev (v2 addD f fb) ρ (letD (xs ++ ys)) := by
  show Ev _ _ (.tup ((xs ++ ys).map D.int))
  rw [List.map_append]
  exact Ev.addT ha hb (by rw [List.length_map, List.length_map]; exact h)
theorem law_lots_ok (mills : Int) (row : List Int) (m1 : 1 ≤ mills) (m24 : mills ≤ 24) (hr : 144 ≤ row.length) : ∃ ls : List (List Int), sem_law_lots [.int mills, .lst (row.map D.int)] = some (.ok (.lst (ls.map letD))) ∧ LotsOk mills 24 20000 ls := by
  suffices H : Run g_law_lots [.v (.int mills), .v (.lst (row.map D.int)), .no, .no, .no, .no] (Ret fun d => ∃ ls : List (List Int), d = .lst (ls.map letD) ∧ LotsOk mills 24 20000 ls) by
    obtain ⟨d, h, ls, rfl, q⟩ := sem_ret (n := 6) (ds := [.int mills, .lst (row.map D.int)]) H
    exact ⟨ls, h, q⟩
  have q := EvL.lcr (fi := iRange1 (vVar 0)) (fe := vVar 4) (v := 4) (vs := [4]) (ρ := [.v (.int mills), .v (.lst (row.map D.int)), .no, .no, .no, .no]) (n := mills.toNat) (fun k => .int ((k : Nat) : Int)) (EvL.range1 (Ev.var rfl) (by omega)) (by omega) fun k hk => Ev.var rfl
  have hE : LotOk mills ((List.range mills.toNat).map fun k : Nat => (k : Int)) := fun x hx => by
    obtain ⟨k, hk, rfl⟩ := List.mem_map.mp hx
    have := List.mem_range.mp hk
    omega
  have hEl : ((List.range mills.toNat).map fun k : Nat => (k : Int)).length = mills.toNat := by simp
  have eE : (List.range mills.toNat).map (fun k : Nat => D.int ((k : Nat) : Int)) = ((List.range mills.toNat).map fun k : Nat => (k : Int)).map D.int := by rw [List.map_map]; rfl
  rw [eE] at q
  generalize (List.range mills.toNat).map (fun k : Nat => (k : Int)) = E at q hE hEl
  refine Run.sset (d := letD E) (Ev.tupleL (Ev.vL q)) (Run.seq (Run.ifP (P := mills ≤ 5) (by get_elem_tactic_extensible) (fun h => ?_) fun h => Run.next ?_))
  · obtain ⟨ls, e, ok⟩ := law_subsets_ok mills E mills (by omega) h hE (by omega)
    exact Run.ret (Ev.callP (ds := [.lst (E.map D.int), .int mills]) (EvL.cons (Ev.vL (EvL.listT (Ev.var rfl))) (EvL.cons (Ev.var rfl) .nil)) .nil ⟨rfl, rfl⟩ e) ⟨ls, rfl, ok.mono (by omega) (Nat.le_refl _)⟩
  refine Run.sown (ds := [[], E].map letD) (EvL.lenOk (EvL.cons (Ev.tup .nil (by simp)) (EvL.cons (Ev.var rfl) .nil)) (by simp)) (show (3 : Nat) < 6 by decide) ?_
  show Run (gSeq _ _) [.v (.int mills), .v (.lst (row.map D.int)), .v (letD E), .own ([[], E].map letD), .no, .no] _
  refine Run.cut (fun ρ => ∃ (ls : List (List Int)) (a b : Sl), LotsOk mills 24 50 ls ∧ ρ = [.v (.int mills), .v (.lst (row.map D.int)), .v (letD E), .own (ls.map letD), a, b]) ?_ fun ρ hρ => ?_
  · refine Run.for (fun k ρ => ∃ (ls : List (List Int)) (a b : Sl), LotsOk mills 24 (2 + 2 * k) ls ∧ ρ = [.v (.int mills), .v (.lst (row.map D.int)), .v (letD E), .own (ls.map letD), a, b]) (EvL.range1 (j := mills) (Ev.var rfl) (by omega)) ⟨[[], E], _, _, ⟨by simp, fun l hl => ?_⟩, rfl⟩ (fun k d ρ hd hI => ?_) fun ρ hI => ?_
    · simp only [List.mem_cons, List.not_mem_nil, or_false] at hl
      rcases hl with rfl | rfl
      · exact ⟨fun x hx => by simp at hx, by simp⟩
      · exact ⟨hE, by omega⟩
    · obtain ⟨ls, a, b, ok, rfl⟩ := hI
      obtain ⟨rfl, hk⟩ := range0_get hd
      have hl := ok.1
      refine ⟨_, rfl, Run.sapp (xs := ls.map letD) (d := letD [(k : Int)]) rfl (Ev.tup (EvL.cons (Ev.var rfl) .nil) (by simp)) (by rw [List.length_map]; omega) ?_⟩
      rw [map_snoc]
      refine Run.app (xs := (ls ++ [[(k : Int)]]).map letD) (d := letD (E.take (Int.toNat k) ++ E.drop (Int.toNat ((k : Int) + 1)))) rfl (tup_map (slice_upto (Ev.var rfl) (Ev.var rfl) (by omega)) (slice_from (Ev.var rfl) (Ev.add (Ev.var rfl) Ev.c) (by omega)) (by rw [List.length_take, List.length_drop]; omega)) (by simp; omega)
        ⟨ls ++ [[(k : Int)]] ++ [E.take (Int.toNat k) ++ E.drop (Int.toNat ((k : Int) + 1))], _, _, ((ok.snoc (l := [(k : Int)]) (fun x hx => by rw [List.mem_singleton.mp hx]; omega) (by simp)).snoc (fun x hx => ?_) (by rw [List.length_append, List.length_take, List.length_drop]; omega)).mono (by omega) (by omega), by rw [map_snoc]; rfl⟩
      rcases List.mem_append.mp hx with hx | hx
      · exact hE x (List.mem_of_mem_take hx)
      · exact hE x (List.mem_of_mem_drop hx)
    · obtain ⟨ls, a, b, ok, rfl⟩ := hI
      rw [rangeD_length] at ok
      exact ⟨_, rfl, ls, a, b, ok.mono (by omega) (by omega), rfl⟩
  obtain ⟨ls, a, b, ok, rfl⟩ := hρ
  refine Run.cut (fun ρ => ∃ (ls : List (List Int)) (a b : Sl), LotsOk mills 24 56 ls ∧ ρ = [.v (.int mills), .v (.lst (row.map D.int)), .v (letD E), .own (ls.map letD), a, b]) ?_ fun ρ hρ => ?_
  · refine Run.for (fun k ρ => ∃ (ls : List (List Int)) (a b : Sl), LotsOk mills 24 (50 + k) ls ∧ ρ = [.v (.int mills), .v (.lst (row.map D.int)), .v (letD E), .own (ls.map letD), a, b]) (EvL.range1 (j := 6) Ev.c (by omega)) ⟨ls, _, _, ok, rfl⟩ (fun k d ρ hd hI => ?_) fun ρ hI => ?_
    · obtain ⟨ls, a, b, ok, rfl⟩ := hI
      obtain ⟨rfl, hk⟩ := range0_get hd
      have hk : k < 6 := hk
      have hl := ok.1
      have q := EvL.lc (fi := iRange1 (vVar 0)) (fg := nmG 4) (ft := v2 eqD (v2 ixD (vVar 1) (v2 addD (v2 mulD (vC (.int 24)) (vVar 5)) (vVar 4))) (vC (.int 1))) (fe := vVar 4) (vs := [4]) (ρ := [.v (.int mills), .v (.lst (row.map D.int)), .v (letD E), .own (ls.map letD), a, .v (.int k)])
        (List.range mills.toNat) (fun j => D.int ((j : Nat) : Int)) (fun j => if at_ row (24 * (k : Int) + (j : Int)) = 1 then some (.int (j : Nat)) else none) (by
          have := EvL.range1 (f := vVar 0) (ρ := [.v (.int mills), .v (.lst (row.map D.int)), .v (letD E), .own (ls.map letD), a, .v (.int k)]) (j := mills) (Ev.var rfl) (by omega)
          rw [range0_map] at this
          exact this) (by rw [List.length_range]; omega) fun j hj => by
            have hj := List.mem_range.mp hj
            exact item_if rfl (Ev.eqI (Ev.ixM (A := D.int) (Ev.var rfl) (Ev.add (Ev.mulL Ev.c (Ev.var rfl) (by omega)) (Ev.var rfl)) (by omega) (by omega)) Ev.c) fun _ => Ev.var rfl
      rw [filterMap_if (fun j : Nat => D.int (j : Nat)) (fun j : Nat => at_ row (24 * (k : Int) + (j : Int)) = 1)] at q
      have e : ((List.range mills.toNat).filter fun j : Nat => decide (at_ row (24 * (k : Int) + (j : Int)) = 1)).map (fun j : Nat => D.int ((j : Nat) : Int)) = (((List.range mills.toNat).filter fun j : Nat => decide (at_ row (24 * (k : Int) + (j : Int)) = 1)).map fun j : Nat => (j : Int)).map D.int := by rw [List.map_map]; rfl
      rw [e] at q
      have hx : LotOk mills (((List.range mills.toNat).filter fun j : Nat => decide (at_ row (24 * (k : Int) + (j : Int)) = 1)).map fun j : Nat => (j : Int)) := fun x hx => by
        obtain ⟨j, hj, rfl⟩ := List.mem_map.mp hx
        have := List.mem_range.mp (List.mem_filter.mp hj).1
        omega
      have hxl : (((List.range mills.toNat).filter fun j : Nat => decide (at_ row (24 * (k : Int) + (j : Int)) = 1)).map fun j : Nat => (j : Int)).length ≤ 24 := by
        rw [List.length_map]
        refine Nat.le_trans (List.length_filter_le _ _) ?_
        rw [List.length_range]
        omega
      generalize ((List.range mills.toNat).filter fun j : Nat => decide (at_ row (24 * (k : Int) + (j : Int)) = 1)).map (fun j : Nat => (j : Int)) = X at q hx hxl
      exact ⟨_, rfl, Run.app (xs := ls.map letD) (d := letD X) rfl (Ev.tupleL (Ev.vL q)) (by rw [List.length_map]; omega) ⟨ls ++ [X], _, _, ok.snoc hx hxl, by rw [map_snoc]; rfl⟩⟩
    · obtain ⟨ls, a, b, ok, rfl⟩ := hI
      exact ⟨_, rfl, ls, a, b, ok, rfl⟩
  obtain ⟨ls, a, b, ok, rfl⟩ := hρ
  exact Run.rel (Run.ret (Ev.var rfl) ⟨ls, rfl, ok.mono (by omega) (by omega)⟩)
end LW
end

section
set_option maxHeartbeats 4000000
namespace LW
open PySem L2 EV
local macro_rules | `(tactic| get_elem_tactic_extensible) => `(tactic| first
  | ((with_reducible apply Ev.var); exact rfl)
  | with_reducible exact Ev.c
  | assumption
  | ((with_reducible apply Ev.add) <;> get_elem_tactic_extensible)
  | ((with_reducible apply Ev.sub) <;> get_elem_tactic_extensible)
  | ((with_reducible apply Ev.mulR) <;> get_elem_tactic_extensible)
  | ((with_reducible apply Ev.mulL) <;> get_elem_tactic_extensible)
  | ((with_reducible apply Ev.mod) <;> get_elem_tactic_extensible)
  | ((with_reducible apply Ev.fdiv) <;> get_elem_tactic_extensible)
  | ((with_reducible apply Ev.pow) <;> get_elem_tactic_extensible)
  | ((with_reducible apply Ev.neg) <;> get_elem_tactic_extensible)
  | ((with_reducible apply Ev.lt) <;> get_elem_tactic_extensible)
  | ((with_reducible apply Ev.le) <;> get_elem_tactic_extensible)
  | ((with_reducible apply Ev.gt) <;> get_elem_tactic_extensible)
  | ((with_reducible apply Ev.ge) <;> get_elem_tactic_extensible)
  | ((with_reducible apply Ev.eqI) <;> get_elem_tactic_extensible)
  | ((with_reducible apply Ev.neI) <;> get_elem_tactic_extensible)
  | ((with_reducible apply Ev.isN) <;> get_elem_tactic_extensible)
  | ((with_reducible apply Ev.notN) <;> get_elem_tactic_extensible)
  | ((with_reducible apply Ev.notP) <;> get_elem_tactic_extensible)
  | ((with_reducible apply Ev.andP) <;> get_elem_tactic_extensible)
  | ((with_reducible apply Ev.orP) <;> get_elem_tactic_extensible)
  | ((with_reducible apply Ev.int_) <;> get_elem_tactic_extensible)
  | ((with_reducible apply Ev.intB) <;> get_elem_tactic_extensible)
  | ((with_reducible apply Ev.lenL) <;> get_elem_tactic_extensible)
  | ((with_reducible apply Ev.lenT) <;> get_elem_tactic_extensible)
  | ((with_reducible apply Ev.lenS) <;> get_elem_tactic_extensible)
  | ((with_reducible apply Ev.min_) <;> get_elem_tactic_extensible)
  | ((with_reducible apply Ev.max_) <;> get_elem_tactic_extensible)
  | ((with_reducible apply Ev.abs_) <;> get_elem_tactic_extensible)
  | ((with_reducible apply Ev.tupleL) <;> get_elem_tactic_extensible)
  | ((with_reducible apply Ev.tupleT) <;> get_elem_tactic_extensible)
  | ((with_reducible apply EvL.listL) <;> get_elem_tactic_extensible)
  | ((with_reducible apply EvL.listT) <;> get_elem_tactic_extensible)
  | ((with_reducible apply Ev.ixL) <;> get_elem_tactic_extensible)
  | ((with_reducible apply Ev.ixT) <;> get_elem_tactic_extensible)
  | ((with_reducible apply Ev.ixM) <;> get_elem_tactic_extensible)
  | ((with_reducible apply Ev.ixMT) <;> get_elem_tactic_extensible)
  | ((with_reducible apply Ev.tup) <;> get_elem_tactic_extensible)
  | ((with_reducible apply Ev.vL) <;> get_elem_tactic_extensible)
  | with_reducible exact EvL.nil
  | ((with_reducible apply EvL.cons) <;> get_elem_tactic_extensible)
  | ((with_reducible apply EvL.lenOk) <;> get_elem_tactic_extensible)
  | ((with_reducible apply EvL.range1) <;> get_elem_tactic_extensible)
  | ((with_reducible apply EvL.seqL) <;> get_elem_tactic_extensible)
  | ((with_reducible apply EvL.seqT) <;> get_elem_tactic_extensible)
  | ((with_reducible apply EvL.seqS) <;> get_elem_tactic_extensible)
  | (intro; get_elem_tactic_extensible)
  | exact (show GetElem?.getElem? (List.cons _ _) _ = some _ from rfl)
  | omega
  | (simp only [List.length_map, List.length_append, List.length_replicate, List.length_cons, List.length_nil, List.length_range] <;> omega))
/-- a list or a tuple of the numbers -/
def SeqI (V : D) (ys : List Int) : Prop := V = .lst (ys.map D.int) ∨ V = .tup (ys.map D.int)
theorem law_shown_ok (xs : List Int) (k : Int) (hl : xs.length ≤ 24) : ∃ (V : D) (ys : List Int), sem_law_shown [letD xs, .int k] = some (.ok V) ∧ SeqI V ys ∧ ys.length ≤ 48 ∧ ∀ x, x ∈ ys ↔ x ∈ xs := by
  suffices H : Run g_law_shown [.v (letD xs), .v (.int k), .no] (Ret fun V => ∃ ys : List Int, SeqI V ys ∧ ys.length ≤ 48 ∧ ∀ x, x ∈ ys ↔ x ∈ xs) by
    obtain ⟨d, h, ys, q⟩ := sem_ret (n := 3) (ds := [letD xs, .int k]) H
    exact ⟨d, ys, h, q⟩
  have ll : (xs.map D.int).length = xs.length := List.length_map _
  refine Run.seq (Run.ifP (P := k % 4 = 1) (by get_elem_tactic_extensible) (fun h => ?_) fun h => Run.next ?_)
  · have q := EvL.lcr (fi := iRange1 (vCall lenD (aCons (vVar 0) (aNil)))) (fe := v2 ixD (vVar 0) (v2 subD (v2 subD (vCall lenD (aCons (vVar 0) (aNil))) (vC (.int 1))) (vVar 2))) (v := 2) (vs := [2]) (ρ := [.v (letD xs), .v (.int k), .no]) (n := xs.length) (fun j => .int (at_ xs (((xs.map D.int).length : Nat) - 1 - (j : Int)))) (by
      have := EvL.range1 (f := vCall lenD (aCons (vVar 0) (aNil))) (ρ := [.v (letD xs), .v (.int k), .no]) (j := ((xs.map D.int).length : Nat)) (Ev.lenT (Ev.var rfl)) (by omega)
      rw [ll] at this
      exact this) (by omega) fun j hj => Ev.ixMT (A := D.int) (xs := xs) (Ev.var rfl) (Ev.sub (Ev.sub (Ev.lenT (ds := xs.map D.int) (Ev.var rfl)) Ev.c) (Ev.var rfl)) (by omega) (by omega)
    have e : (List.range xs.length).map (fun j : Nat => D.int (at_ xs (((xs.map D.int).length : Nat) - 1 - (j : Int)))) = ((List.range xs.length).map fun j : Nat => at_ xs ((xs.length : Int) - 1 - (j : Int))).map D.int := by rw [List.map_map, ll]; rfl
    rw [e] at q
    refine Run.ret (Ev.vL q) ⟨_, .inl rfl, by simp; omega, fun x => ⟨fun hx => ?_, fun hx => ?_⟩⟩
    · obtain ⟨j, hj, rfl⟩ := List.mem_map.mp hx
      have := List.mem_range.mp hj
      exact at_mem (by omega) (by omega)
    · obtain ⟨i, hi, rfl⟩ := List.mem_iff_getElem.mp hx
      refine List.mem_map.mpr ⟨xs.length - 1 - i, List.mem_range.mpr (by omega), ?_⟩
      have := at_get (xs := xs) (i := (xs.length : Int) - 1 - ((xs.length - 1 - i : Nat) : Int)) (by omega) (by omega)
      rw [show ((xs.length : Int) - 1 - ((xs.length - 1 - i : Nat) : Int)).toNat = i by omega, List.getElem?_eq_getElem hi] at this
      exact (Option.some.inj this).symm
  refine Run.seq (Run.ifP (P := k % 4 = 2) (by get_elem_tactic_extensible) (fun h => ?_) fun h => Run.next ?_)
  · have e : xs.map D.int ++ xs.map D.int = (xs ++ xs).map D.int := by rw [List.map_append]
    refine Run.ret (Ev.vL (EvL.add (Ev.vL (EvL.listT (ds := xs.map D.int) (Ev.var rfl))) (Ev.vL (EvL.listT (ds := xs.map D.int) (Ev.var rfl))) (by omega))) ⟨xs ++ xs, .inl (by rw [e]), by simp; omega, fun x => by simp⟩
  refine Run.seq (Run.ifP (P := k % 4 = 3) (by get_elem_tactic_extensible) (fun h => ?_) fun h => Run.next ?_)
  · refine Run.ret (tup_map (slice_from (Ev.var rfl) Ev.c (by omega)) (slice_upto (Ev.var rfl) Ev.c (by omega)) (by rw [List.length_take, List.length_drop]; omega)) ⟨_, .inr rfl, by rw [List.length_append, List.length_take, List.length_drop]; omega, fun x => ?_⟩
    show x ∈ xs.drop 1 ++ xs.take 2 ↔ _
    match xs with
    | [] => simp
    | [a] => simp
    | a :: b :: r =>
      show x ∈ (b :: r) ++ [a, b] ↔ _
      simp only [List.mem_append, List.mem_cons, List.not_mem_nil, or_false]
      constructor
      · rintro ((h | h) | (h | h))
        · exact .inr (.inl h)
        · exact .inr (.inr h)
        · exact .inl h
        · exact .inr (.inl h)
      · rintro (h | h | h)
        · exact .inr (.inl h)
        · exact .inl (.inl h)
        · exact .inl (.inr h)
  · exact Run.ret (Ev.var rfl) ⟨xs, .inr rfl, by omega, fun x => Iff.rfl⟩
end LW
end

section
set_option maxHeartbeats 4000000
namespace LW
open PySem L2 EV
local macro_rules | `(tactic| get_elem_tactic_extensible) => `(tactic| first
  | ((with_reducible apply Ev.var); exact rfl)
  | with_reducible exact Ev.c
  | assumption
  | ((with_reducible apply Ev.add) <;> get_elem_tactic_extensible)
  | ((with_reducible apply Ev.sub) <;> get_elem_tactic_extensible)
  | ((with_reducible apply Ev.mulR) <;> get_elem_tactic_extensible)
  | ((with_reducible apply Ev.mulL) <;> get_elem_tactic_extensible)
  | ((with_reducible apply Ev.mod) <;> get_elem_tactic_extensible)
  | ((with_reducible apply Ev.fdiv) <;> get_elem_tactic_extensible)
  | ((with_reducible apply Ev.pow) <;> get_elem_tactic_extensible)
  | ((with_reducible apply Ev.neg) <;> get_elem_tactic_extensible)
  | ((with_reducible apply Ev.lt) <;> get_elem_tactic_extensible)
  | ((with_reducible apply Ev.le) <;> get_elem_tactic_extensible)
  | ((with_reducible apply Ev.gt) <;> get_elem_tactic_extensible)
  | ((with_reducible apply Ev.ge) <;> get_elem_tactic_extensible)
  | ((with_reducible apply Ev.eqI) <;> get_elem_tactic_extensible)
  | ((with_reducible apply Ev.neI) <;> get_elem_tactic_extensible)
  | ((with_reducible apply Ev.isN) <;> get_elem_tactic_extensible)
  | ((with_reducible apply Ev.notN) <;> get_elem_tactic_extensible)
  | ((with_reducible apply Ev.notP) <;> get_elem_tactic_extensible)
  | ((with_reducible apply Ev.andP) <;> get_elem_tactic_extensible)
  | ((with_reducible apply Ev.orP) <;> get_elem_tactic_extensible)
  | ((with_reducible apply Ev.int_) <;> get_elem_tactic_extensible)
  | ((with_reducible apply Ev.intB) <;> get_elem_tactic_extensible)
  | ((with_reducible apply Ev.lenL) <;> get_elem_tactic_extensible)
  | ((with_reducible apply Ev.lenT) <;> get_elem_tactic_extensible)
  | ((with_reducible apply Ev.lenS) <;> get_elem_tactic_extensible)
  | ((with_reducible apply Ev.min_) <;> get_elem_tactic_extensible)
  | ((with_reducible apply Ev.max_) <;> get_elem_tactic_extensible)
  | ((with_reducible apply Ev.abs_) <;> get_elem_tactic_extensible)
  | ((with_reducible apply Ev.tupleL) <;> get_elem_tactic_extensible)
  | ((with_reducible apply Ev.tupleT) <;> get_elem_tactic_extensible)
  | ((with_reducible apply EvL.listL) <;> get_elem_tactic_extensible)
  | ((with_reducible apply EvL.listT) <;> get_elem_tactic_extensible)
  | ((with_reducible apply Ev.ixL) <;> get_elem_tactic_extensible)
  | ((with_reducible apply Ev.ixT) <;> get_elem_tactic_extensible)
  | ((with_reducible apply Ev.ixM) <;> get_elem_tactic_extensible)
  | ((with_reducible apply Ev.ixMT) <;> get_elem_tactic_extensible)
  | ((with_reducible apply Ev.tup) <;> get_elem_tactic_extensible)
  | ((with_reducible apply Ev.vL) <;> get_elem_tactic_extensible)
  | with_reducible exact EvL.nil
  | ((with_reducible apply EvL.cons) <;> get_elem_tactic_extensible)
  | ((with_reducible apply EvL.lenOk) <;> get_elem_tactic_extensible)
  | ((with_reducible apply EvL.range1) <;> get_elem_tactic_extensible)
  | ((with_reducible apply EvL.seqL) <;> get_elem_tactic_extensible)
  | ((with_reducible apply EvL.seqT) <;> get_elem_tactic_extensible)
  | ((with_reducible apply EvL.seqS) <;> get_elem_tactic_extensible)
  | (intro; get_elem_tactic_extensible)
  | exact (show GetElem?.getElem? (List.cons _ _) _ = some _ from rfl)
  | omega
  | (simp only [List.length_map, List.length_append, List.length_replicate, List.length_cons, List.length_nil, List.length_range] <;> omega))
theorem ints_map : ∀ xs : List Int, intsD (xs.map D.int) = some xs
  | [] => rfl
  | x :: xs => by
    rw [List.map_cons, intsD, ints_map xs]
    rfl
theorem SeqI.seq {V : D} {ys : List Int} (h : SeqI V ys) : seqD V = some (ys.map D.int) := by rcases h with rfl | rfl <;> rfl
theorem EvL.asc {f : FE} {ρ : EV.Env} {V : D} {ys : List Int} (h : Ev f ρ V) (hV : SeqI V ys) (hl : ys.length ≤ 63) : EvL (nAsc f) ρ ((ascI ys).map D.int) := by
  unfold EvL nAsc
  rw [h]
  show ((seqD V).bind intsD).bind _ = _
  rw [hV.seq]
  show (intsD (ys.map D.int)).bind _ = _
  rw [ints_map]
  show (if ys.length ≤ 63 then _ else _) = _
  rw [if_pos hl]
theorem ascending_ok {V : D} {ys : List Int} (hV : SeqI V ys) (hl : ys.length ≤ 63) : sem_ascending [V] = some (.ok (letD (ascI ys))) := by
  suffices H : Run g_ascending [.v V] (Ret fun d => d = letD (ascI ys)) by
    obtain ⟨d, h, rfl⟩ := sem_ret (n := 1) (ds := [V]) H
    exact h
  exact Run.ret (Ev.tupleL (Ev.vL (EvL.asc (Ev.var rfl) hV hl))) rfl
theorem asc_ev {f : FE} {ρ : EV.Env} {V : D} {ys : List Int} (h : Ev f ρ V) (hV : SeqI V ys) (hl : ys.length ≤ 63) : Ev (vCallP 1 0 [0] sem_ascending [] (aCons f (aNil)) (aNil)) ρ (letD (ascI ys)) :=
  Ev.callP (ds := [V]) (EvL.cons h .nil) .nil ⟨rfl, rfl⟩ (ascending_ok hV hl)
theorem insN_congr {p : Int × Int} {l A G : List Int} (h : ∀ x, x ∈ A ↔ x ∈ G) : insN p l A = insN p l G := by
  unfold insN
  congr 2
  funext s
  rw [Bool.eq_iff_iff]
  simp [h]
section
variable {mills : Int} {ps : List (Int × Int)} {low : List Int} {high : List (Option Int)} {lets : List (List Int)}
theorem sides_to_ok (w : WOk mills ps low high lets) (k : Nat) (hk : k < ps.length) (A : List Int) : ∃ X : List D, sem_sides_to [seasonD (landD mills ps) low high lets, .int k, letD A] = some (.ok (.lst X)) ∧ X.length = insN (at_ ps (k : Int)) (at_ lets (k : Int)) A := by
  suffices H : Run g_sides_to [.v (seasonD (landD mills ps) low high lets), .v (.int k), .v (letD A), .no, .no] (Ret fun d => ∃ X : List D, d = .lst X ∧ X.length = insN (at_ ps (k : Int)) (at_ lets (k : Int)) A) by
    obtain ⟨d, h, X, rfl, q⟩ := sem_ret (n := 5) (ds := [seasonD (landD mills ps) low high lets, .int k, letD A]) H
    exact ⟨X, h, q⟩
  have ll := w.ll
  have h4 := w.lp _ (at_mem (xs := lets) (i := (k : Int)) (by omega) (by omega))
  refine Run.sset (d := pairD (at_ ps (k : Int))) (Ev.ixMT (A := pairD) (Ev.v1 (Ev.v1 (Ev.var rfl) rfl) rfl) (Ev.var rfl) (by omega) (by omega)) ?_
  have q := EvL.lc (fi := iSeq (v2 ixD (v1 (fldD 6 3) (vVar 0)) (vVar 1))) (fg := nmG 4) (ft := v2 inD (v2 ixD (vVar 3) (vVar 4)) (vVar 2)) (fe := vVar 4) (vs := [4]) (ρ := [.v (seasonD (landD mills ps) low high lets), .v (.int k), .v (letD A), .v (pairD (at_ ps (k : Int))), .no])
    (at_ lets (k : Int)) D.int (fun s => if mE (at_ ps (k : Int)) s ∈ A then some (.int s) else none) (EvL.seqT (Ev.ixMT (A := letD) (Ev.v1 (Ev.var rfl) rfl) (Ev.var rfl) (by omega) (by omega))) (lets_len w.lp _ (at_mem (xs := lets) (by omega) (by omega))) fun s hs =>
      item_if rfl (in_ints (pair_at (Ev.var rfl) (Ev.var rfl) (lets_bits h4 s hs)) (Ev.var rfl) (.inr rfl)) fun _ => Ev.var rfl
  rw [filterMap_if D.int (fun s => mE (at_ ps (k : Int)) s ∈ A)] at q
  exact Run.ret (Ev.vL q) ⟨_, rfl, by rw [List.length_map]; rfl⟩
theorem sides_len (w : WOk mills ps low high lets) (k : Nat) (hk : k < ps.length) (A : List Int) {f0 f1 f2 : FE} {ρ : EV.Env} (e0 : Ev f0 ρ (seasonD (landD mills ps) low high lets)) (e1 : Ev f1 ρ (.int k)) (e2 : Ev f2 ρ (letD A)) :
    Ev (vCall lenD (aCons (vCallP 3 0 [0, 1, 2] sem_sides_to [] (aCons f0 (aCons f1 (aCons f2 (aNil)))) (aNil)) (aNil))) ρ (.int (insN (at_ ps (k : Int)) (at_ lets (k : Int)) A : Nat)) := by
  obtain ⟨X, h, hl⟩ := sides_to_ok w k hk A
  rw [← hl]
  exact Ev.lenL (Ev.callP (ds := [seasonD (landD mills ps) low high lets, .int k, letD A]) (EvL.cons e0 (EvL.cons e1 (EvL.cons e2 .nil))) .nil ⟨rfl, rfl⟩ h)
theorem canN_filter (ps : List (Int × Int)) (lets : List (List Int)) (A G : List Int) (h : ∀ x, x ∈ A ↔ x ∈ G) : ∀ n : Nat, (((List.range n).filter fun k : Nat => decide ((0 : Int) < (insN (at_ ps (k : Int)) (at_ lets (k : Int)) A : Nat))).length : Int) = canN ps lets G n
  | 0 => rfl
  | n + 1 => by
    have hN := insN_congr (p := at_ ps (n : Int)) (l := at_ lets (n : Int)) h
    rw [List.range_succ, List.filter_append, List.length_append, canN, ← canN_filter ps lets A G h n]
    by_cases h0 : 0 < insN (at_ ps (n : Int)) (at_ lets (n : Int)) G
    · rw [if_pos h0, List.filter_cons, if_pos (decide_eq_true (by omega))]
      simp
    · rw [if_neg h0, List.filter_cons, if_neg (by intro hc; exact h0 (by have := of_decide_eq_true hc; omega))]
      simp
theorem gain_ok (w : WOk mills ps low high lets) {V : D} {ys G : List Int} (hV : SeqI V ys) (hl : ys.length ≤ 63) (hm : ∀ x, x ∈ ys ↔ x ∈ G) : sem_gain [seasonD (landD mills ps) low high lets, V] = some (.ok (.int (canN ps lets G ps.length))) := by
  suffices H : Run g_gain [.v (seasonD (landD mills ps) low high lets), .v V, .no, .no] (Ret fun d => d = .int (canN ps lets G ps.length)) by
    obtain ⟨d, h, rfl⟩ := sem_ret (n := 4) (ds := [seasonD (landD mills ps) low high lets, V]) H
    exact h
  have pl := w.pl
  have ll := w.ll
  have hA : ∀ x, x ∈ ascI ys ↔ x ∈ G := fun x => mem_ascI.trans (hm x)
  refine Run.sset (asc_ev (Ev.var rfl) hV hl) ?_
  generalize ascI ys = A at hA ⊢
  have q := EvL.lc (fi := iRange1 (vCall lenD (aCons (v1 (fldD 6 3) (vVar 0)) (aNil)))) (fg := nmG 3) (ft := v2 gtD (vCall lenD (aCons (vCallP 3 0 [0, 1, 2] sem_sides_to [] (aCons (vVar 0) (aCons (vVar 3) (aCons (vVar 2) (aNil)))) (aNil)) (aNil))) (vC (.int 0))) (fe := vVar 3) (vs := [3]) (ρ := [.v (seasonD (landD mills ps) low high lets), .v V, .v (letD A), .no])
    (List.range ps.length) (fun k => D.int ((k : Nat) : Int)) (fun k => if (0 : Int) < (insN (at_ ps (k : Int)) (at_ lets (k : Int)) A : Nat) then some (.int (k : Nat)) else none) (by
      have := EvL.range1 (f := vCall lenD (aCons (v1 (fldD 6 3) (vVar 0)) (aNil))) (ρ := [.v (seasonD (landD mills ps) low high lets), .v V, .v (letD A), .no]) (j := ((lets.map letD).length : Nat)) (Ev.lenT (Ev.v1 (Ev.var rfl) rfl)) (by rw [List.length_map]; omega)
      rw [List.length_map, ll, range0_map] at this
      exact this) (by rw [List.length_range]; omega) fun k hk => item_if rfl (Ev.gt (sides_len w k (List.mem_range.mp hk) A (Ev.var rfl) (Ev.var rfl) (Ev.var rfl)) Ev.c) fun _ => Ev.var rfl
  rw [filterMap_if (fun k : Nat => D.int (k : Nat)) (fun k : Nat => (0 : Int) < (insN (at_ ps (k : Int)) (at_ lets (k : Int)) A : Nat))] at q
  refine Run.ret (Ev.lenL (Ev.vL q)) ?_
  show D.int _ = D.int _
  rw [List.length_map, canN_filter ps lets A G hA]
theorem load_ok (w : WOk mills ps low high lets) {V : D} {ys G : List Int} (hV : SeqI V ys) (hl : ys.length ≤ 63) (hm : ∀ x, x ∈ ys ↔ x ∈ G) : sem_load [seasonD (landD mills ps) low high lets, V] = some (.ok (.int (mustN ps lets G ps.length))) := by
  suffices H : Run g_load [.v (seasonD (landD mills ps) low high lets), .v V, .no, .no, .no, .no] (Ret fun d => d = .int (mustN ps lets G ps.length)) by
    obtain ⟨d, h, rfl⟩ := sem_ret (n := 6) (ds := [seasonD (landD mills ps) low high lets, V]) H
    exact h
  have pl := w.pl
  have ll := w.ll
  have hA : ∀ x, x ∈ ascI ys ↔ x ∈ G := fun x => mem_ascI.trans (hm x)
  refine Run.sset (asc_ev (Ev.var rfl) hV hl) (Run.sset (d := .int 0) Ev.c ?_)
  generalize ascI ys = A at hA ⊢
  show Run (gSeq _ _) [.v (seasonD (landD mills ps) low high lets), .v V, .v (letD A), .v (.int 0), .no, .no] _
  refine Run.cut (fun ρ => ∃ a b, ρ = [.v (seasonD (landD mills ps) low high lets), .v V, .v (letD A), .v (.int (mustN ps lets G ps.length)), a, b]) ?_ fun ρ hρ => ?_
  · refine Run.for (fun n ρ => ∃ a b, ρ = [.v (seasonD (landD mills ps) low high lets), .v V, .v (letD A), .v (.int (mustN ps lets G n)), a, b]) (EvL.range1 (j := ((lets.map letD).length : Nat)) (Ev.lenT (Ev.v1 (Ev.var rfl) rfl)) (by rw [List.length_map]; omega)) ⟨.no, .no, rfl⟩ (fun k d ρ hd hI => ?_) fun ρ hI => ?_
    · obtain ⟨a, b, rfl⟩ := hI
      obtain ⟨rfl, hk⟩ := range0_get hd
      have hk : k < ps.length := by rw [List.length_map] at hk; omega
      refine ⟨_, rfl, Run.sset (d := letD (at_ lets (k : Int))) (Ev.ixMT (A := letD) (Ev.v1 (Ev.var rfl) rfl) (Ev.var rfl) (by omega) (by omega)) ?_⟩
      have hlen : ((at_ lets (k : Int)).map D.int).length = (at_ lets (k : Int)).length := List.length_map _
      have hN := insN_congr (p := at_ ps (k : Int)) (l := at_ lets (k : Int)) hA
      refine Run.ifP (P := (0 : Int) < (((at_ lets (k : Int)).map D.int).length : Nat) ∧ ((insN (at_ ps (k : Int)) (at_ lets (k : Int)) A : Nat) : Int) = (((at_ lets (k : Int)).map D.int).length : Nat)) (Ev.andP (Ev.gt (Ev.lenT (Ev.var rfl)) Ev.c) fun _ => Ev.eqI (sides_len w k hk A (Ev.var rfl) (Ev.var rfl) (Ev.var rfl)) (Ev.lenT (Ev.var rfl))) (fun h => ?_) fun h => Run.next ⟨.v (.int k), .v (letD (at_ lets (k : Int))), ?_⟩
      · refine Run.aug (k := mustN ps lets G k) (j := 1) rfl Ev.c ⟨.v (.int k), .v (letD (at_ lets (k : Int))), ?_⟩
        rw [mustN, if_pos (by omega)]
        rfl
      · rw [mustN, if_neg (by omega), Int.add_zero]
        rfl
    · obtain ⟨a, b, rfl⟩ := hI
      rw [rangeD_length, List.length_map]
      exact ⟨_, rfl, a, b, by rw [Int.toNat_natCast, ll]⟩
  · obtain ⟨a, b, rfl⟩ := hρ
    exact Run.ret (Ev.var rfl) rfl
/-- the rising members -/
theorem asc_filter {A G : List Int} (hr : A.Pairwise (· < ·)) (hA : ∀ x, x ∈ A ↔ x ∈ G) (hG : LotOk mills G) : A = ((List.range mills.toNat).filter fun k : Nat => decide ((k : Int) ∈ G)).map fun k : Nat => (k : Int) := by
  refine rise_ext hr ?_ fun x => ⟨fun hx => ?_, fun hx => ?_⟩
  · rw [List.pairwise_map]
    exact ((List.pairwise_lt_range (n := mills.toNat)).filter _).imp fun h => by omega
  · have hx := (hA x).mp hx
    have hb := hG x hx
    refine List.mem_map.mpr ⟨x.toNat, List.mem_filter.mpr ⟨List.mem_range.mpr (by omega), decide_eq_true ?_⟩, by omega⟩
    rw [Int.toNat_of_nonneg hb.1]
    exact hx
  · obtain ⟨k, hk, rfl⟩ := List.mem_map.mp hx
    exact (hA _).mpr (of_decide_eq_true (List.mem_filter.mp hk).2)
theorem wantN_filter (low G : List Int) : ∀ n : Nat, ((((List.range n).filter fun k : Nat => decide ((k : Int) ∈ G)).map fun k : Nat => (k : Int)).map (at_ low)).sum = wantN low G n
  | 0 => rfl
  | n + 1 => by
    rw [List.range_succ, List.filter_append, List.map_append, List.map_append, List.sum_append, wantN_filter low G n, wantN]
    by_cases h : (n : Int) ∈ G
    · simp [h]
    · simp [h]
theorem want_ok (w : WOk mills ps low high lets) {V : D} {ys G : List Int} (hV : SeqI V ys) (hl : ys.length ≤ 63) (hm : ∀ x, x ∈ ys ↔ x ∈ G) (hG : LotOk mills G) : sem_want [seasonD (landD mills ps) low high lets, V] = some (.ok (.int (wantN low G mills.toNat))) := by
  suffices H : Run g_want [.v (seasonD (landD mills ps) low high lets), .v V, .no] (Ret fun d => d = .int (wantN low G mills.toNat)) by
    obtain ⟨d, h, rfl⟩ := sem_ret (n := 3) (ds := [seasonD (landD mills ps) low high lets, V]) H
    exact h
  have hll := w.lo.1
  have m2 := w.m2
  have hA : ∀ x, x ∈ ascI ys ↔ x ∈ G := fun x => mem_ascI.trans (hm x)
  have hf := asc_filter (ascI_rise ys) hA hG
  have ea := asc_ev (f := vVar 1) (ρ := [.v (seasonD (landD mills ps) low high lets), .v V, .no]) (Ev.var rfl) hV hl
  have hlen : (ascI ys).length ≤ 24 := by
    rw [hf, List.length_map]
    refine Nat.le_trans (List.length_filter_le _ _) ?_
    rw [List.length_range]
    omega
  have q := EvL.lc (fg := nmG 2) (ft := vYes) (fe := v2 ixD (v1 (fldD 6 1) (vVar 0)) (vVar 2)) (vs := [2]) (ρ := [.v (seasonD (landD mills ps) low high lets), .v V, .no]) (ascI ys) D.int (fun x => some (.int (at_ low x))) (EvL.seqT ea) (by omega) fun x hx => by
    have hb := hG x ((hA x).mp hx)
    exact item_yes rfl (Ev.ixMT (A := D.int) (Ev.v1 (Ev.var rfl) rfl) (Ev.var rfl) hb.1 (by omega))
  rw [filterMap_some] at q
  refine Run.ret (d := .int ((ascI ys).map (at_ low)).sum) (Ev.call (ds := [.lst ((ascI ys).map fun x => D.int (at_ low x))]) (EvL.cons (Ev.vL q) .nil) ?_) ?_
  · show (intsD _).map _ = _
    have e : (ascI ys).map (fun x => D.int (at_ low x)) = ((ascI ys).map (at_ low)).map D.int := by rw [List.map_map]; rfl
    rw [e, ints_map]
    rfl
  · show D.int _ = D.int _
    rw [hf, wantN_filter]
theorem bearN_filter (high : List (Option Int)) (G : List Int) : ∀ n : Nat, ((((List.range n).filter fun k : Nat => decide ((k : Int) ∈ G)).map fun k : Nat => (k : Int)).map (at_ high)).foldl addO (some 0) = bearN high G n
  | 0 => rfl
  | n + 1 => by
    rw [List.range_succ, List.filter_append, List.map_append, List.map_append, List.foldl_append, bearN_filter high G n, bearN]
    by_cases h : (n : Int) ∈ G
    · simp [h]
    · simp [h]
theorem addO_none : ∀ xs : List (Option Int), xs.foldl addO none = none
  | [] => rfl
  | x :: xs => by
    rw [List.foldl_cons]
    show xs.foldl addO none = none
    exact addO_none xs
theorem addO_fold : ∀ (xs : List (Option Int)) (a : Int), none ∈ xs → xs.foldl addO (some a) = none
  | [], _, h => by simp at h
  | none :: xs, a, _ => addO_none xs
  | some x :: xs, a, h => by
    rw [List.foldl_cons]
    exact addO_fold xs (a + x) (by simpa using h)
theorem addO_sum : ∀ (xs : List (Option Int)) (a : Int), none ∉ xs → ∃ is : List Int, xs = is.map some ∧ xs.foldl addO (some a) = some (a + is.sum)
  | [], a, _ => ⟨[], rfl, by simp⟩
  | none :: xs, a, h => by simp at h
  | some x :: xs, a, h => by
    obtain ⟨is, e, q⟩ := addO_sum xs (a + x) (by simpa using h)
    refine ⟨x :: is, by rw [List.map_cons, e], ?_⟩
    rw [List.foldl_cons]
    show xs.foldl addO (some (a + x)) = _
    rw [q, List.sum_cons, Int.add_assoc]
theorem any_non : ∀ xs : List (Option Int), ((xs.map optD).any fun z => D.eqv z .non) = decide (none ∈ xs)
  | [] => by simp
  | none :: xs => by simp [optD, D.eqv]
  | some x :: xs => by
    rw [List.map_cons, List.any_cons, any_non xs]
    simp [optD, D.eqv]
theorem bear_ok (w : WOk mills ps low high lets) {V : D} {ys G : List Int} (hV : SeqI V ys) (hl : ys.length ≤ 63) (hm : ∀ x, x ∈ ys ↔ x ∈ G) (hG : LotOk mills G) : sem_bear [seasonD (landD mills ps) low high lets, V] = some (.ok (optD (bearN high G mills.toNat))) := by
  suffices H : Run g_bear [.v (seasonD (landD mills ps) low high lets), .v V, .no, .no] (Ret fun d => d = optD (bearN high G mills.toNat)) by
    obtain ⟨d, h, rfl⟩ := sem_ret (n := 4) (ds := [seasonD (landD mills ps) low high lets, V]) H
    exact h
  have hll := w.hl
  have m2 := w.m2
  have hA : ∀ x, x ∈ ascI ys ↔ x ∈ G := fun x => mem_ascI.trans (hm x)
  have hf := asc_filter (ascI_rise ys) hA hG
  have ea := asc_ev (f := vVar 1) (ρ := [.v (seasonD (landD mills ps) low high lets), .v V, .no, .no]) (Ev.var rfl) hV hl
  have hlen : (ascI ys).length ≤ 24 := by
    rw [hf, List.length_map]
    refine Nat.le_trans (List.length_filter_le _ _) ?_
    rw [List.length_range]
    omega
  have q := EvL.lc (fg := nmG 3) (ft := vYes) (fe := v2 ixD (v1 (fldD 6 2) (vVar 0)) (vVar 3)) (vs := [3]) (ρ := [.v (seasonD (landD mills ps) low high lets), .v V, .no, .no]) (ascI ys) D.int (fun x => some (optD (at_ high x))) (EvL.seqT ea) (by omega) fun x hx => by
    have hb := hG x ((hA x).mp hx)
    exact item_yes rfl (Ev.ixMT (A := optD) (Ev.v1 (Ev.var rfl) rfl) (Ev.var rfl) hb.1 (by omega))
  rw [filterMap_some] at q
  have e : (ascI ys).map (fun x => optD (at_ high x)) = ((ascI ys).map (at_ high)).map optD := by rw [List.map_map]; rfl
  rw [e] at q
  have hb : bearN high G mills.toNat = ((ascI ys).map (at_ high)).foldl addO (some 0) := by rw [hf, bearN_filter]
  rw [hb]
  generalize (ascI ys).map (at_ high) = xs at q ⊢
  refine Run.sset (Ev.vL q) (Run.seq (Run.ifP (P := none ∈ xs) (iP := inferInstance) ?_ (fun h => ?_) fun h => Run.next ?_))
  · have := Ev.in_ (fa := vC .non) (fb := vVar 2) (ρ := [.v (seasonD (landD mills ps) low high lets), .v V, .v (.lst (xs.map optD)), .no]) Ev.c (Ev.var rfl) (.inl rfl) rfl (pls_map (pl_opt 8) xs)
    rw [any_non] at this
    exact this
  · rw [addO_fold xs 0 h]
    exact Run.ret Ev.c rfl
  · obtain ⟨is, e1, e2⟩ := addO_sum xs 0 h
    rw [e2, Int.zero_add]
    subst e1
    refine Run.ret (d := .int is.sum) (Ev.call (ds := [.lst ((is.map some).map optD)]) (EvL.cons (Ev.var rfl) .nil) ?_) rfl
    show (intsD _).map _ = _
    have e : (is.map some).map optD = is.map D.int := by rw [List.map_map]; rfl
    rw [e, ints_map]
    rfl
end
end LW
end

section
set_option maxHeartbeats 4000000
namespace LW
open PySem L2 EV
local macro_rules | `(tactic| get_elem_tactic_extensible) => `(tactic| first
  | ((with_reducible apply Ev.var); exact rfl)
  | with_reducible exact Ev.c
  | assumption
  | ((with_reducible apply Ev.add) <;> get_elem_tactic_extensible)
  | ((with_reducible apply Ev.sub) <;> get_elem_tactic_extensible)
  | ((with_reducible apply Ev.mulR) <;> get_elem_tactic_extensible)
  | ((with_reducible apply Ev.mulL) <;> get_elem_tactic_extensible)
  | ((with_reducible apply Ev.mod) <;> get_elem_tactic_extensible)
  | ((with_reducible apply Ev.fdiv) <;> get_elem_tactic_extensible)
  | ((with_reducible apply Ev.pow) <;> get_elem_tactic_extensible)
  | ((with_reducible apply Ev.neg) <;> get_elem_tactic_extensible)
  | ((with_reducible apply Ev.lt) <;> get_elem_tactic_extensible)
  | ((with_reducible apply Ev.le) <;> get_elem_tactic_extensible)
  | ((with_reducible apply Ev.gt) <;> get_elem_tactic_extensible)
  | ((with_reducible apply Ev.ge) <;> get_elem_tactic_extensible)
  | ((with_reducible apply Ev.eqI) <;> get_elem_tactic_extensible)
  | ((with_reducible apply Ev.neI) <;> get_elem_tactic_extensible)
  | ((with_reducible apply Ev.isN) <;> get_elem_tactic_extensible)
  | ((with_reducible apply Ev.notN) <;> get_elem_tactic_extensible)
  | ((with_reducible apply Ev.notP) <;> get_elem_tactic_extensible)
  | ((with_reducible apply Ev.andP) <;> get_elem_tactic_extensible)
  | ((with_reducible apply Ev.orP) <;> get_elem_tactic_extensible)
  | ((with_reducible apply Ev.int_) <;> get_elem_tactic_extensible)
  | ((with_reducible apply Ev.intB) <;> get_elem_tactic_extensible)
  | ((with_reducible apply Ev.lenL) <;> get_elem_tactic_extensible)
  | ((with_reducible apply Ev.lenT) <;> get_elem_tactic_extensible)
  | ((with_reducible apply Ev.lenS) <;> get_elem_tactic_extensible)
  | ((with_reducible apply Ev.min_) <;> get_elem_tactic_extensible)
  | ((with_reducible apply Ev.max_) <;> get_elem_tactic_extensible)
  | ((with_reducible apply Ev.abs_) <;> get_elem_tactic_extensible)
  | ((with_reducible apply Ev.tupleL) <;> get_elem_tactic_extensible)
  | ((with_reducible apply Ev.tupleT) <;> get_elem_tactic_extensible)
  | ((with_reducible apply EvL.listL) <;> get_elem_tactic_extensible)
  | ((with_reducible apply EvL.listT) <;> get_elem_tactic_extensible)
  | ((with_reducible apply Ev.ixL) <;> get_elem_tactic_extensible)
  | ((with_reducible apply Ev.ixT) <;> get_elem_tactic_extensible)
  | ((with_reducible apply Ev.ixM) <;> get_elem_tactic_extensible)
  | ((with_reducible apply Ev.ixMT) <;> get_elem_tactic_extensible)
  | ((with_reducible apply Ev.tup) <;> get_elem_tactic_extensible)
  | ((with_reducible apply Ev.vL) <;> get_elem_tactic_extensible)
  | with_reducible exact EvL.nil
  | ((with_reducible apply EvL.cons) <;> get_elem_tactic_extensible)
  | ((with_reducible apply EvL.lenOk) <;> get_elem_tactic_extensible)
  | ((with_reducible apply EvL.range1) <;> get_elem_tactic_extensible)
  | ((with_reducible apply EvL.seqL) <;> get_elem_tactic_extensible)
  | ((with_reducible apply EvL.seqT) <;> get_elem_tactic_extensible)
  | ((with_reducible apply EvL.seqS) <;> get_elem_tactic_extensible)
  | (intro; get_elem_tactic_extensible)
  | exact (show GetElem?.getElem? (List.cons _ _) _ = some _ from rfl)
  | omega
  | (simp only [List.length_map, List.length_append, List.length_replicate, List.length_cons, List.length_nil, List.length_range] <;> omega))
theorem ne_self {fa fb : FE} {ρ : EV.Env} {d : D} (ha : Ev fa ρ d) (hb : Ev fb ρ d) (hp : D.pl 8 d = true) : Ev (v2 neD fa fb) ρ (.bl (decide False)) := by
  have := Ev.ne ha hb hp hp
  rw [eqv_refl 8 _ hp] at this
  exact this
theorem eq_self {fa fb : FE} {ρ : EV.Env} {d : D} (ha : Ev fa ρ d) (hb : Ev fb ρ d) (hp : D.pl 8 d = true) : Ev (v2 eqD fa fb) ρ (.bl (decide True)) := by
  have := Ev.eq ha hb hp hp
  rw [eqv_refl 8 _ hp] at this
  exact this
theorem over_ev2 {f fb : FE} {ρ : EV.Env} {o : Option Int} {n : Int} (h : Ev f ρ (optD o)) (hb : Ev fb ρ (.int n)) : Ev (vAnd (v2 notNonD f (vC .non)) (v2 gtD fb f)) ρ (.bl (overD o n)) := by
  cases o with
  | none =>
    have := Ev.andP (P := False) (Q := False) (iP := instDecidableFalse) (iQ := instDecidableFalse) (fa := v2 notNonD f (vC .non)) (fb := v2 gtD fb f) (Ev.v2 h Ev.c rfl) fun h => h.elim
    exact this
  | some l =>
    have := Ev.andP (P := True) (Q := l < n) (fa := v2 notNonD f (vC .non)) (Ev.v2 h Ev.c rfl) fun _ => Ev.gt hb h
    have e : decide (True ∧ l < n) = overD (some l) n := by simp [overD]
    rw [e] at this
    exact this
theorem SeqI.pl {V : D} {ys : List Int} (h : SeqI V ys) : D.pl 7 V = true := by
  rcases h with rfl | rfl
  · exact pl_lst (n := 6) (pls_map (pl_int 6) ys)
  · exact pl_tup (n := 6) (pls_map (pl_int 6) ys)
theorem SeqI.list {V : D} {ys : List Int} (h : SeqI V ys) {f : FE} {ρ : EV.Env} (e : Ev f ρ V) : Ev (vL (nCall listD (aCons f (aNil)))) ρ (.lst (ys.map D.int)) := by
  rcases h with rfl | rfl
  · exact Ev.vL (EvL.listL e)
  · exact Ev.vL (EvL.listT e)
section
variable {mills : Int} {ps : List (Int × Int)} {low : List Int} {high : List (Option Int)} {lets : List (List Int)}
theorem obstacle_wants (w : WOk mills ps low high lets) {V : D} {ys G : List Int} (hV : SeqI V ys) (hl : ys.length ≤ 63) (hm : ∀ x, x ∈ ys ↔ x ∈ G) (hG : LotOk mills G) (U : D) (hU : U = .lst [.str "wants", V] ∨ U = .tup [.str "wants", V]) :
    sem_is_obstacle [seasonD (landD mills ps) low high lets, U] = some (.ok (.bl (decide (canN ps lets G ps.length < wantN low G mills.toNat)))) := by
  suffices H : Run g_is_obstacle [.v (seasonD (landD mills ps) low high lets), .v U, .no, .no, .no, .no] (Ret fun d => d = .bl (decide (canN ps lets G ps.length < wantN low G mills.toNat))) by
    obtain ⟨d, h, rfl⟩ := sem_ret (n := 6) (ds := [seasonD (landD mills ps) low high lets, U]) H
    exact h
  refine Run.seq (Run.asg (Ev.var rfl) (ρ' := [.v (seasonD (landD mills ps) low high lets), .v U, .v (.str "wants"), .v V, .no, .no]) (by rcases hU with rfl | rfl <;> rfl) ?_)
  refine Run.seq (Run.ifP (str_eq (Ev.var rfl) (by decide +kernel) (by decide +kernel)) (fun h => absurd h (by decide +kernel)) fun _ => Run.next ?_)
  refine Run.seq (Run.ifP (str_eq (Ev.var rfl) (by decide +kernel) (by decide +kernel)) (fun h => absurd h (by decide +kernel)) fun _ => Run.next ?_)
  refine Run.seq (Run.ifP (str_eq (Ev.var rfl) (by decide +kernel) (by decide +kernel)) (fun _ => ?_) fun h => absurd rfl h)
  exact Run.ret (Ev.gt (Ev.callP (ds := [seasonD (landD mills ps) low high lets, V]) (EvL.cons (Ev.var rfl) (EvL.cons (Ev.var rfl) .nil)) .nil ⟨rfl, rfl⟩ (want_ok w hV hl hm hG)) (Ev.callP (ds := [seasonD (landD mills ps) low high lets, V]) (EvL.cons (Ev.var rfl) (EvL.cons (Ev.var rfl) .nil)) .nil ⟨rfl, rfl⟩ (gain_ok w hV hl hm))) rfl
theorem obstacle_bears (w : WOk mills ps low high lets) {V : D} {ys G : List Int} (hV : SeqI V ys) (hl : ys.length ≤ 63) (hm : ∀ x, x ∈ ys ↔ x ∈ G) (hG : LotOk mills G) (U : D) (hU : U = .lst [.str "bears", V] ∨ U = .tup [.str "bears", V]) :
    sem_is_obstacle [seasonD (landD mills ps) low high lets, U] = some (.ok (.bl (overD (bearN high G mills.toNat) (mustN ps lets G ps.length)))) := by
  suffices H : Run g_is_obstacle [.v (seasonD (landD mills ps) low high lets), .v U, .no, .no, .no, .no] (Ret fun d => d = .bl (overD (bearN high G mills.toNat) (mustN ps lets G ps.length))) by
    obtain ⟨d, h, rfl⟩ := sem_ret (n := 6) (ds := [seasonD (landD mills ps) low high lets, U]) H
    exact h
  refine Run.seq (Run.asg (Ev.var rfl) (ρ' := [.v (seasonD (landD mills ps) low high lets), .v U, .v (.str "bears"), .v V, .no, .no]) (by rcases hU with rfl | rfl <;> rfl) ?_)
  refine Run.seq (Run.ifP (str_eq (Ev.var rfl) (by decide +kernel) (by decide +kernel)) (fun h => absurd h (by decide +kernel)) fun _ => Run.next ?_)
  refine Run.seq (Run.ifP (str_eq (Ev.var rfl) (by decide +kernel) (by decide +kernel)) (fun h => absurd h (by decide +kernel)) fun _ => Run.next ?_)
  refine Run.seq (Run.ifP (str_eq (Ev.var rfl) (by decide +kernel) (by decide +kernel)) (fun h => absurd h (by decide +kernel)) fun _ => Run.next ?_)
  refine Run.sset (Ev.callP (ds := [seasonD (landD mills ps) low high lets, V]) (EvL.cons (Ev.var rfl) (EvL.cons (Ev.var rfl) .nil)) .nil ⟨rfl, rfl⟩ (bear_ok w hV hl hm hG)) ?_
  exact Run.ret (over_ev2 (Ev.var rfl) (Ev.callP (ds := [seasonD (landD mills ps) low high lets, V]) (EvL.cons (Ev.var rfl) (EvL.cons (Ev.var rfl) .nil)) .nil ⟨rfl, rfl⟩ (load_ok w hV hl hm))) rfl
/-- the four numbers -/
def num4 (mills : Int) (ps : List (Int × Int)) (low : List Int) (high : List (Option Int)) (lets : List (List Int)) (G : List Int) : List (Option Int) := [some (canN ps lets G ps.length), some (mustN ps lets G ps.length), some (wantN low G mills.toNat), bearN high G mills.toNat]
theorem law_right_ok (w : WOk mills ps low high lets) {V : D} {ys G : List Int} (hV : SeqI V ys) (hl : ys.length ≤ 63) (hm : ∀ x, x ∈ ys ↔ x ∈ G) (hG : LotOk mills G) (b : Bool) :
    sem_law_right [seasonD (landD mills ps) low high lets, .lst ((num4 mills ps low high lets G).map optD), V, .bl b] = some (.ok (.bl true)) := by
  generalize hS : seasonD (landD mills ps) low high lets = S
  have e1 := gain_ok w hV hl hm
  have e2 := load_ok w hV hl hm
  have e3 := want_ok w hV hl hm hG
  have e4 := bear_ok w hV hl hm hG
  rw [hS] at e1 e2 e3 e4
  suffices H : Run g_law_right [.v S, .v (.lst ((num4 mills ps low high lets G).map optD)), .v V, .v (.bl b), .no, .no, .no] (Ret fun d => d = .bl true) by
    obtain ⟨d, h, rfl⟩ := sem_ret (n := 7) (ds := [S, .lst ((num4 mills ps low high lets G).map optD), V, .bl b]) H
    exact h
  refine Run.sset (hV.list (Ev.var rfl)) ?_
  refine Run.cut (fun ρ => ρ = [.v S, .v (.lst ((num4 mills ps low high lets G).map optD)), .v V, .v (.bl b), .v (.lst (ys.map D.int)), .v (.lst ((num4 mills ps low high lets G).map optD)), .no]) ?_ fun ρ hρ => ?_
  · cases b with
    | false =>
      refine Run.ifP (P := False) (iP := instDecidableFalse) (Ev.var rfl) (fun h => h.elim) fun _ => ?_
      have c : ∀ {sem : List D → Option R} {ρ : EV.Env} {d : D}, sem [S, V] = some (.ok d) → ρ[0]? = some (.v S) → ρ[2]? = some (.v V) → Ev (vCallP 2 0 [0, 1] sem [] (aCons (vVar 0) (aCons (vVar 2) (aNil))) (aNil)) ρ d := fun h h0 h2 => Ev.callP (ds := [S, V]) (EvL.cons (Ev.var h0) (EvL.cons (Ev.var h2) .nil)) .nil ⟨rfl, rfl⟩ h
      exact Run.set (Ev.vL (EvL.lenOk (EvL.cons (c e1 rfl rfl) (EvL.cons (c e2 rfl rfl) (EvL.cons (c e3 rfl rfl) (EvL.cons (c e4 rfl rfl) .nil)))) (by simp))) ⟨_, rfl, rfl⟩
    | true =>
      refine Run.ifP (P := True) (iP := instDecidableTrue) (Ev.var rfl) (fun _ => ?_) fun h => (h trivial).elim
      have c : ∀ {sem : List D → Option R} {ρ : EV.Env} {d : D}, sem [S, V] = some (.ok d) → ρ[0]? = some (.v S) → ρ[2]? = some (.v V) → Ev (vCallP 0 2 [0, 1] sem [] aNil (aCons (vVar 0) (aCons (vVar 2) (aNil)))) ρ d := fun h h0 h2 => Ev.callP (ds := []) (es := [S, V]) .nil (EvL.cons (Ev.var h0) (EvL.cons (Ev.var h2) .nil)) ⟨rfl, rfl⟩ h
      have c' : ∀ {sem : List D → Option R} {ρ : EV.Env} {d : D}, sem [S, V] = some (.ok d) → ρ[0]? = some (.v S) → ρ[2]? = some (.v V) → Ev (vCallP 0 2 [1, 0] sem [] aNil (aCons (vVar 2) (aCons (vVar 0) (aNil)))) ρ d := fun h h0 h2 => Ev.callP (ds := []) (es := [V, S]) .nil (EvL.cons (Ev.var h2) (EvL.cons (Ev.var h0) .nil)) ⟨rfl, rfl⟩ h
      refine Run.sset (Ev.vL (EvL.lenOk (EvL.cons (c' e1 rfl rfl) (EvL.cons (c e2 rfl rfl) .nil)) (by simp))) (Run.set (Ev.vL (EvL.add (Ev.var rfl) (Ev.vL (EvL.lenOk (EvL.cons (c' e3 rfl rfl) (EvL.cons (c e4 rfl rfl) .nil)) (by simp))) (by simp))) ⟨_, rfl, rfl⟩)
  subst hρ
  refine Run.seq (Run.ifP (ne_self (hV.list (Ev.var rfl)) (Ev.var rfl) (pl_lst (n := 7) (pls_map (pl_int 7) ys))) (fun h => h.elim) fun _ => Run.next ?_)
  have h4 : (num4 mills ps low high lets G).length = 4 := rfl
  generalize num4 mills ps low high lets G = ns at h4 ⊢
  refine Run.seq (Run.ifP (Ev.andP (Ev.isN (Ev.ixM (A := optD) (xs := ns) (Ev.var rfl) Ev.c (by omega) (by omega))) fun _ => Ev.notN (Ev.ixM (A := optD) (xs := ns) (Ev.var rfl) Ev.c (by omega) (by omega))) (fun h => absurd h.1 h.2) fun _ => Run.next ?_)
  refine Run.cut (fun ρ => ∃ a, ρ = [.v S, .v (.lst (ns.map optD)), .v V, .v (.bl b), .v (.lst (ys.map D.int)), .v (.lst (ns.map optD)), a]) ?_ fun ρ hρ => Run.ret Ev.c rfl
  refine Run.for (fun _ ρ => ∃ a, ρ = [.v S, .v (.lst (ns.map optD)), .v V, .v (.bl b), .v (.lst (ys.map D.int)), .v (.lst (ns.map optD)), a]) (EvL.range1 (j := 4) Ev.c (by omega)) ⟨.no, rfl⟩ (fun k d ρ hd hI => ?_) fun ρ hI => ⟨_, rfl, hI⟩
  obtain ⟨a, rfl⟩ := hI
  obtain ⟨rfl, hk⟩ := range0_get hd
  have hk : k < 4 := hk
  have q1 := Ev.ixM (A := optD) (fa := vVar 1) (fb := vVar 6) (ρ := [.v S, .v (.lst (ns.map optD)), .v V, .v (.bl b), .v (.lst (ys.map D.int)), .v (.lst (ns.map optD)), .v (.int k)]) (Ev.var rfl) (Ev.var rfl) (by omega) (by omega)
  have q5 := Ev.ixM (A := optD) (fa := vVar 5) (fb := vVar 6) (ρ := [.v S, .v (.lst (ns.map optD)), .v V, .v (.bl b), .v (.lst (ys.map D.int)), .v (.lst (ns.map optD)), .v (.int k)]) (Ev.var rfl) (Ev.var rfl) (by omega) (by omega)
  refine ⟨_, rfl, ?_⟩
  show Run _ [.v S, .v (.lst (ns.map optD)), .v V, .v (.bl b), .v (.lst (ys.map D.int)), .v (.lst (ns.map optD)), .v (.int k)] _
  cases e : at_ ns (k : Int) with
  | none =>
    rw [e] at q1 q5
    exact Run.ifP (P := False ∧ False) (iP := @instDecidableAnd _ _ instDecidableFalse instDecidableFalse) (Ev.andP (P := False) (Q := False) (iP := instDecidableFalse) (iQ := instDecidableFalse) (Ev.v2 q1 Ev.c rfl) fun h => h.elim) (fun h => h.1.elim) fun _ => Run.next ⟨_, rfl⟩
  | some v =>
    rw [e] at q1 q5
    refine Run.ifP (P := True ∧ (¬ True ∨ False)) (Ev.andP (P := True) (Ev.v2 q1 Ev.c rfl) fun _ => Ev.orP (Ev.notP (P := True) (Ev.callP (ds := [.int v]) (EvL.cons q5 .nil) .nil ⟨rfl, rfl⟩ (law_whole_int v))) fun _ => ne_self q5 q1 (pl_int 8 v)) (fun h => ?_) fun _ => Run.next ⟨_, rfl⟩
    rcases h.2 with h | h
    · exact (h trivial).elim
    · exact h.elim
theorem ne_bl {f fb : FE} {ρ : EV.Env} {b : Bool} (h : Ev f ρ (.bl b)) (hb : Ev fb ρ (.bl b)) : Ev (v2 neD f fb) ρ (.bl (decide False)) := ne_self h hb (by cases b <;> rfl)
theorem law_both_ok (w : WOk mills ps low high lets) {V : D} {ys G : List Int} (hV : SeqI V ys) (hl : ys.length ≤ 63) (hm : ∀ x, x ∈ ys ↔ x ∈ G) (hG : LotOk mills G) (form : Int) (hf : form = 0 ∨ form = 1) :
    sem_law_both [seasonD (landD mills ps) low high lets, .lst ((num4 mills ps low high lets G).map optD), V, .int form] = some (.ok (.bl true)) := by
  generalize hS : seasonD (landD mills ps) low high lets = S
  have e1 := obstacle_wants w hV hl hm hG
  have e2 := obstacle_bears w hV hl hm hG
  rw [hS] at e1 e2
  suffices H : Run g_law_both [.v S, .v (.lst ((num4 mills ps low high lets G).map optD)), .v V, .v (.int form), .no, .no, .no, .no, .no] (Ret fun d => d = .bl true) by
    obtain ⟨d, h, rfl⟩ := sem_ret (n := 9) (ds := [S, .lst ((num4 mills ps low high lets G).map optD), V, .int form]) H
    exact h
  refine Run.sset (hV.list (Ev.var rfl)) ?_
  have hw : ∃ wd : Str, D.pl 7 (.str wd) = true ∧ [D.str "bears", D.str "wants"][form.toNat]? = some (.str wd) ∧ ((form = 0 ∧ wd = "bears") ∨ (form ≠ 0 ∧ wd = "wants")) := by
    rcases hf with rfl | rfl
    · exact ⟨"bears", by decide +kernel, rfl, .inl ⟨rfl, rfl⟩⟩
    · exact ⟨"wants", by decide +kernel, rfl, .inr ⟨by decide, rfl⟩⟩
  obtain ⟨wd, hp, hix, hwd⟩ := hw
  have f0 : 0 ≤ form := by omega
  refine Run.sset (Ev.ixL (ds := [D.str "bears", D.str "wants"]) rfl (Ev.var rfl) f0 hix) (Run.sset (d := .lst [.str wd, V]) (Ev.vL (EvL.lenOk (EvL.cons (Ev.var rfl) (EvL.cons (Ev.var rfl) .nil)) (by simp))) ?_)
  show Run (gSeq _ _) [.v S, .v (.lst ((num4 mills ps low high lets G).map optD)), .v V, .v (.int form), .v (.lst (ys.map D.int)), .v (.str wd), .v (.lst [.str wd, V]), .no, .no] _
  refine Run.cut (fun ρ => ρ = [.v S, .v (.lst ((num4 mills ps low high lets G).map optD)), .v V, .v (.int form), .v (.lst (ys.map D.int)), .v (.str wd), .v (.lst [.str wd, V]), .v (.bl (decide (canN ps lets G ps.length < wantN low G mills.toNat))), .v (.bl (overD (bearN high G mills.toNat) (mustN ps lets G ps.length)))]) ?_ fun ρ hρ => ?_
  · refine Run.ifP (P := form = 0) (Ev.eqI (Ev.var rfl) Ev.c) (fun h => ?_) fun h => ?_
    · rcases hwd with ⟨_, rfl⟩ | ⟨h', _⟩
      · exact Run.sset (Ev.callP (ds := [S, .tup [.str "wants", V]]) (EvL.cons (Ev.var rfl) (EvL.cons (Ev.tup (EvL.cons Ev.c (EvL.cons (Ev.var rfl) .nil)) (by simp)) .nil)) .nil ⟨rfl, rfl⟩ (e1 _ (.inr rfl))) (Run.set (Ev.callP (ds := []) (es := [S, .lst [.str "bears", V]]) .nil (EvL.cons (Ev.var rfl) (EvL.cons (Ev.var rfl) .nil)) ⟨rfl, rfl⟩ (e2 _ (.inl rfl))) ⟨_, rfl, rfl⟩)
      · exact absurd h h'
    · rcases hwd with ⟨h', _⟩ | ⟨_, rfl⟩
      · exact absurd h' h
      · exact Run.sset (Ev.callP (ds := []) (es := [.lst [.str "wants", V], S]) .nil (EvL.cons (Ev.var rfl) (EvL.cons (Ev.var rfl) .nil)) ⟨rfl, rfl⟩ (e1 _ (.inl rfl))) (Run.set (Ev.callP (ds := [S, .tup [.str "bears", V]]) (EvL.cons (Ev.var rfl) (EvL.cons (Ev.tup (EvL.cons Ev.c (EvL.cons (Ev.var rfl) .nil)) (by simp)) .nil)) .nil ⟨rfl, rfl⟩ (e2 _ (.inr rfl))) ⟨_, rfl, rfl⟩)
  subst hρ
  have hpl : D.pl 8 (.lst [.str wd, V]) = true := pl_lst (n := 7) (by rw [D.pls, D.pls, D.pls, hp, hV.pl]; rfl)
  have hd : ∀ (ρ : EV.Env), ρ[1]? = some (.v (.lst ((num4 mills ps low high lets G).map optD))) → Ev (v2 ixD (vVar 1) (vC (.int 0))) ρ (.int (canN ps lets G ps.length)) ∧ Ev (v2 ixD (vVar 1) (vC (.int 1))) ρ (.int (mustN ps lets G ps.length)) ∧ Ev (v2 ixD (vVar 1) (vC (.int 2))) ρ (.int (wantN low G mills.toNat)) ∧ Ev (v2 ixD (vVar 1) (vC (.int 3))) ρ (optD (bearN high G mills.toNat)) := fun ρ h =>
    ⟨Ev.ixL (Ev.var h) Ev.c (by omega) rfl, Ev.ixL (Ev.var h) Ev.c (by omega) rfl, Ev.ixL (Ev.var h) Ev.c (by omega) rfl, Ev.ixL (Ev.var h) Ev.c (by omega) rfl⟩
  refine Run.seq (Run.ifP (P := ¬ True ∨ ¬ True ∨ False ∨ False) (Ev.orP (Ev.notP (P := True) (Ev.v1 (Ev.var rfl) rfl)) fun _ => Ev.orP (Ev.notP (P := True) (Ev.v1 (Ev.var rfl) rfl)) fun _ => Ev.orP (ne_self (d := .lst [.str wd, V]) (Ev.var rfl) (Ev.vL (EvL.lenOk (EvL.cons (Ev.var rfl) (EvL.cons (Ev.var rfl) .nil)) (by simp))) hpl) fun _ => ne_self (hV.list (Ev.var rfl)) (Ev.var rfl) (pl_lst (n := 7) (pls_map (pl_int 7) ys))) (fun h => ?_) fun _ => Run.next ?_)
  · rcases h with h | h | h | h
    · exact (h trivial).elim
    · exact (h trivial).elim
    · exact h.elim
    · exact h.elim
  obtain ⟨d0, d1, d2, d3⟩ := hd [.v S, .v (.lst ((num4 mills ps low high lets G).map optD)), .v V, .v (.int form), .v (.lst (ys.map D.int)), .v (.str wd), .v (.lst [.str wd, V]), .v (.bl (decide (canN ps lets G ps.length < wantN low G mills.toNat))), .v (.bl (overD (bearN high G mills.toNat) (mustN ps lets G ps.length)))] rfl
  refine Run.seq (Run.ifP (ne_bl (Ev.var rfl) (Ev.gt d2 d0)) (fun h => h.elim) fun _ => Run.next ?_)
  exact Run.ret (bl_true (eq_self (d := .bl (overD (bearN high G mills.toNat) (mustN ps lets G ps.length))) (Ev.var rfl) (over_ev2 d3 d1) (by cases overD (bearN high G mills.toNat) (mustN ps lets G ps.length) <;> rfl)) trivial) rfl
end
end LW
end

section
set_option maxHeartbeats 4000000
namespace LW
open PySem L2 EV
local macro_rules | `(tactic| get_elem_tactic_extensible) => `(tactic| first
  | ((with_reducible apply Ev.var); exact rfl)
  | with_reducible exact Ev.c
  | assumption
  | ((with_reducible apply Ev.add) <;> get_elem_tactic_extensible)
  | ((with_reducible apply Ev.sub) <;> get_elem_tactic_extensible)
  | ((with_reducible apply Ev.mulR) <;> get_elem_tactic_extensible)
  | ((with_reducible apply Ev.mulL) <;> get_elem_tactic_extensible)
  | ((with_reducible apply Ev.mod) <;> get_elem_tactic_extensible)
  | ((with_reducible apply Ev.fdiv) <;> get_elem_tactic_extensible)
  | ((with_reducible apply Ev.pow) <;> get_elem_tactic_extensible)
  | ((with_reducible apply Ev.neg) <;> get_elem_tactic_extensible)
  | ((with_reducible apply Ev.lt) <;> get_elem_tactic_extensible)
  | ((with_reducible apply Ev.le) <;> get_elem_tactic_extensible)
  | ((with_reducible apply Ev.gt) <;> get_elem_tactic_extensible)
  | ((with_reducible apply Ev.ge) <;> get_elem_tactic_extensible)
  | ((with_reducible apply Ev.eqI) <;> get_elem_tactic_extensible)
  | ((with_reducible apply Ev.neI) <;> get_elem_tactic_extensible)
  | ((with_reducible apply Ev.isN) <;> get_elem_tactic_extensible)
  | ((with_reducible apply Ev.notN) <;> get_elem_tactic_extensible)
  | ((with_reducible apply Ev.notP) <;> get_elem_tactic_extensible)
  | ((with_reducible apply Ev.andP) <;> get_elem_tactic_extensible)
  | ((with_reducible apply Ev.orP) <;> get_elem_tactic_extensible)
  | ((with_reducible apply Ev.int_) <;> get_elem_tactic_extensible)
  | ((with_reducible apply Ev.intB) <;> get_elem_tactic_extensible)
  | ((with_reducible apply Ev.lenL) <;> get_elem_tactic_extensible)
  | ((with_reducible apply Ev.lenT) <;> get_elem_tactic_extensible)
  | ((with_reducible apply Ev.lenS) <;> get_elem_tactic_extensible)
  | ((with_reducible apply Ev.min_) <;> get_elem_tactic_extensible)
  | ((with_reducible apply Ev.max_) <;> get_elem_tactic_extensible)
  | ((with_reducible apply Ev.abs_) <;> get_elem_tactic_extensible)
  | ((with_reducible apply Ev.tupleL) <;> get_elem_tactic_extensible)
  | ((with_reducible apply Ev.tupleT) <;> get_elem_tactic_extensible)
  | ((with_reducible apply EvL.listL) <;> get_elem_tactic_extensible)
  | ((with_reducible apply EvL.listT) <;> get_elem_tactic_extensible)
  | ((with_reducible apply Ev.ixL) <;> get_elem_tactic_extensible)
  | ((with_reducible apply Ev.ixT) <;> get_elem_tactic_extensible)
  | ((with_reducible apply Ev.ixM) <;> get_elem_tactic_extensible)
  | ((with_reducible apply Ev.ixMT) <;> get_elem_tactic_extensible)
  | ((with_reducible apply Ev.tup) <;> get_elem_tactic_extensible)
  | ((with_reducible apply Ev.vL) <;> get_elem_tactic_extensible)
  | with_reducible exact EvL.nil
  | ((with_reducible apply EvL.cons) <;> get_elem_tactic_extensible)
  | ((with_reducible apply EvL.lenOk) <;> get_elem_tactic_extensible)
  | ((with_reducible apply EvL.range1) <;> get_elem_tactic_extensible)
  | ((with_reducible apply EvL.seqL) <;> get_elem_tactic_extensible)
  | ((with_reducible apply EvL.seqT) <;> get_elem_tactic_extensible)
  | ((with_reducible apply EvL.seqS) <;> get_elem_tactic_extensible)
  | (intro; get_elem_tactic_extensible)
  | exact (show GetElem?.getElem? (List.cons _ _) _ = some _ from rfl)
  | omega
  | (simp only [List.length_map, List.length_append, List.length_replicate, List.length_cons, List.length_nil, List.length_range] <;> omega))
/-- the mills of a test, rising -/
theorem pick_ev {fm ft : FE} {v : Nat} {ρ : EV.Env} {mills : Int} (q : Nat → Prop) [DecidablePred q] (hm : Ev fm ρ (.int mills)) (m0 : 0 ≤ mills) (m2 : mills ≤ 24) (ht : ∀ k : Nat, k < mills.toNat → Ev ft ((mask (wipeE ρ [v])).set v (.v (.int (k : Nat)))) (.bl (decide (q k)))) (hv : ∀ d, Ev (vVar v) ((mask (wipeE ρ [v])).set v (.v d)) d) :
    ∃ X : List Int, EvL (nLc (iRange1 fm) (nmG v) ft (vVar v) [v]) ρ (X.map D.int) ∧ LotOk mills X ∧ X.length ≤ 24 := by
  have h := EvL.lc (fi := iRange1 fm) (fg := nmG v) (ft := ft) (fe := vVar v) (vs := [v]) (ρ := ρ) (List.range mills.toNat) (fun j => D.int ((j : Nat) : Int)) (fun j => if q j then some (.int (j : Nat)) else none) (by
    have := EvL.range1 (f := fm) (ρ := ρ) (j := mills) hm (by omega)
    rw [range0_map] at this
    exact this) (by rw [List.length_range]; omega) fun j hj => item_if rfl (ht j (List.mem_range.mp hj)) fun _ => hv _
  rw [filterMap_if (fun j : Nat => D.int (j : Nat)) q] at h
  refine ⟨((List.range mills.toNat).filter fun j : Nat => decide (q j)).map fun j : Nat => (j : Int), ?_, fun x hx => ?_, ?_⟩
  · rw [List.map_map]
    exact h
  · obtain ⟨j, hj, rfl⟩ := List.mem_map.mp hx
    have := List.mem_range.mp (List.mem_filter.mp hj).1
    omega
  · rw [List.length_map]
    refine Nat.le_trans (List.length_filter_le _ _) ?_
    rw [List.length_range]
    omega
def sz6 : List Int := [8, 12, 24, 6, 12, 24, 6, 12, 24, 6]
def sz7 : List Int := List.replicate 144 2 ++ [3, 4, 4]
def tbPm : List D := [.int 1, .int 0, .int 1, .int (-1)]
theorem law_ok (ns : List Int) : sem_law [.scr ns] = some (.ok (.bl true)) := by
  suffices H : Run g_law [.v (.scr ns), .no, .no, .no, .no, .no, .no, .no, .no, .no, .no, .no, .no, .no, .no, .no, .no] (Ret fun d => d = .bl true) by
    obtain ⟨d, h, rfl⟩ := sem_ret (n := 17) (ds := [.scr ns]) H
    exact h
  have cell : ∀ (k : Int) (ρ : EV.Env), 0 ≤ k → ρ[0]? = some (.v (.scr ns)) → ∃ z : Int, Ev (vCallP 2 0 [0, 1] sem_law_cell [] (aCons (vVar 0) (aCons (vC (.int k)) (aNil))) (aNil)) ρ (.int z) := fun k ρ k0 h0 => by
    obtain ⟨z, hz⟩ := law_cell_ok ns k k0
    exact ⟨z, Ev.callP (ds := [.scr ns, .int k]) (EvL.cons (Ev.var h0) (EvL.cons Ev.c .nil)) .nil ⟨rfl, rfl⟩ hz⟩
  obtain ⟨c, ec⟩ := cell 3 [.v (.scr ns), .no, .no, .no, .no, .no, .no, .no, .no, .no, .no, .no, .no, .no, .no, .no, .no] (by omega) rfl
  refine Run.sset (Ev.int_ ec) ?_
  clear ec
  refine Run.cut (fun ρ => ∃ mills ps low high lets rest, WOk mills ps low high lets ∧ ρ = [.v (.scr ns), .v (.int c), .v (wD mills ps low high lets rest), .no, .no, .no, .no, .no, .no, .no, .no, .no, .no, .no, .no, .no, .no]) ?_ fun ρ hρ => ?_
  · refine Run.ifP (P := c % 8 = 1) (by get_elem_tactic_extensible) (fun h => ?_) fun h => ?_
    · obtain ⟨mills, ps, low, high, lets, base, e, w, _⟩ := law_wide_ok ns 0 48 (by omega) (by omega) (by omega)
      exact Run.set (Ev.callP (ds := [.scr ns, .int 0, .int 48]) (EvL.cons (Ev.var rfl) (EvL.cons Ev.c (EvL.cons Ev.c .nil))) .nil ⟨rfl, rfl⟩ e) ⟨_, rfl, mills, ps, low, high, lets, _, w, rfl⟩
    · obtain ⟨mills, ps, low, high, lets, e, w⟩ := law_small_world_ok ns c
      exact Run.set (Ev.callP (ds := [.scr ns, .int c]) (EvL.cons (Ev.var rfl) (EvL.cons (Ev.var rfl) .nil)) .nil ⟨rfl, rfl⟩ e) ⟨_, rfl, mills, ps, low, high, lets, _, w, rfl⟩
  obtain ⟨mills, ps, low, high, lets, rest, w, rfl⟩ := hρ
  obtain ⟨row, er, ro⟩ := dig_cell (fs := vVar 0) (fk := vC (.int 2)) (fz := vL (nAdd (vL (lenOk (aCons (vC (.int 8)) (aNil)))) (vL (nRep (vL (lenOk (aCons (vC (.int 12)) (aCons (vC (.int 24)) (aCons (vC (.int 6)) (aNil)))))) (vC (.int 3))))))
    (ρ := [.v (.scr ns), .v (.int c), .v (wD mills ps low high lets rest), .no, .no, .no, .no, .no, .no, .no, .no, .no, .no, .no, .no, .no, .no]) sz6 (Ev.var rfl) Ev.c (by omega) rfl (by decide)
  obtain ⟨low2, high2, lets2, e2, w2⟩ := law_spoilt_ok rest w row (by rw [ro.1]; decide)
  refine Run.sset (Ev.callP (ds := [wD mills ps low high lets rest, .lst (row.map D.int)]) (EvL.cons (Ev.var rfl) (EvL.cons er .nil)) .nil ⟨rfl, rfl⟩ e2) ?_
  clear e2 er ro
  refine dig_run sz7 (Ev.var rfl) Ev.c (by omega) rfl (by decide) fun row ro => ?_
  have hl : row.length = 147 := ro.1
  have m1 := w.m1
  have m24 := w.m2
  generalize hP : wD mills ps low high lets rest = P
  show Run (gSeq _ _) [.v (.scr ns), .v (.int c), .v P, .v (wD mills ps low2 high2 lets2 []), .v (.lst (row.map D.int)), .no, .no, .no, .no, .no, .no, .no, .no, .no, .no, .no, .no] _
  refine Run.cut (fun ρ => ∃ low3 high3 lets3 a b, WOk mills ps low3 high3 lets3 ∧ ρ = [.v (.scr ns), .v (.int c), .v P, .v (wD mills ps low3 high3 lets3 []), .v (.lst (row.map D.int)), a, b, .no, .no, .no, .no, .no, .no, .no, .no, .no, .no]) ?_ fun ρ hρ => ?_
  · refine Run.ifP (P := 0 < at_ row 144) (Ev.gt (Ev.ixM (A := D.int) (Ev.var rfl) Ev.c (by omega) (by omega)) Ev.c) (fun h => ?_) fun h => Run.next ⟨_, rfl, low2, high2, lets2, _, _, w2, rfl⟩
    obtain ⟨one, e1, ok1, _⟩ := pick_ev (fm := v2 ixD (vVar 3) (vC (.int 0))) (ft := v2 eqD (v2 ixD (vVar 4) (vVar 16)) (vC (.int 1))) (v := 16) (ρ := [.v (.scr ns), .v (.int c), .v P, .v (wD mills ps low2 high2 lets2 []), .v (.lst (row.map D.int)), .no, .no, .no, .no, .no, .no, .no, .no, .no, .no, .no, .no]) (mills := mills) (fun j => at_ row (j : Int) = 1) (Ev.ixL (Ev.var rfl) Ev.c (by omega) rfl) (by omega) m24 (fun k hk => Ev.eqI (Ev.ixM (A := D.int) (Ev.var rfl) (Ev.var rfl) (by omega) (by omega)) Ev.c) (fun d => Ev.var rfl)
    refine Run.sset (d := letD one) (Ev.tupleL (Ev.vL e1)) ?_
    obtain ⟨two, e2, ok2, _⟩ := pick_ev (fm := v2 ixD (vVar 3) (vC (.int 0))) (ft := v2 eqD (v2 ixD (vVar 4) (v2 addD (vC (.int 24)) (vVar 16))) (vC (.int 1))) (v := 16) (ρ := [.v (.scr ns), .v (.int c), .v P, .v (wD mills ps low2 high2 lets2 []), .v (.lst (row.map D.int)), .v (letD one), .no, .no, .no, .no, .no, .no, .no, .no, .no, .no, .no]) (mills := mills) (fun j => at_ row (24 + (j : Int)) = 1) (Ev.ixL (Ev.var rfl) Ev.c (by omega) rfl) (by omega) m24 (fun k hk => Ev.eqI (Ev.ixM (A := D.int) (Ev.var rfl) (Ev.add Ev.c (Ev.var rfl)) (by omega) (by omega)) Ev.c) (fun d => Ev.var rfl)
    refine Run.sset (d := letD two) (Ev.tupleL (Ev.vL e2)) ?_
    have b5 := ro.2 145 (by omega) (by omega)
    have b6 := ro.2 146 (by omega) (by omega)
    have s5 : at_ sz7 145 = 4 := rfl
    have s6 : at_ sz7 146 = 4 := rfl
    have lp : tbPm.length = 4 := rfl
    obtain ⟨up, hu, _⟩ := tbl_get (tb := tbPm) (fun _ => true) (by decide) (i := at_ row 145) (by omega)
    obtain ⟨dn, hd, _⟩ := tbl_get (tb := tbPm) (fun _ => true) (by decide) (i := at_ row 146) (by omega)
    obtain ⟨low3, high3, e3, w3⟩ := law_levelled_ok [] w2 one two ok1 ok2 up dn
    exact Run.set (Ev.callP (ds := [wD mills ps low2 high2 lets2 [], letD one, letD two, .int up, .int dn]) (EvL.cons (Ev.var rfl) (EvL.cons (Ev.var rfl) (EvL.cons (Ev.var rfl) (EvL.cons (Ev.ixL (ds := tbPm) rfl (Ev.ixM (A := D.int) (Ev.var rfl) Ev.c (by omega) (by omega)) b5.1 hu) (EvL.cons (Ev.ixL (ds := tbPm) rfl (Ev.ixM (A := D.int) (Ev.var rfl) Ev.c (by omega) (by omega)) b6.1 hd) .nil))))) .nil ⟨rfl, rfl⟩ e3) ⟨_, rfl, low3, high3, lets2, _, _, w3, rfl⟩
  clear w2 low2 high2 lets2 ro
  obtain ⟨low2, high2, lets2, a, b, w2, rfl⟩ := hρ
  obtain ⟨way, ew⟩ := cell 5 [.v (.scr ns), .v (.int c), .v P, .v (wD mills ps low2 high2 lets2 []), .v (.lst (row.map D.int)), a, b, .no, .no, .no, .no, .no, .no, .no, .no, .no, .no] (by omega) rfl
  refine Run.sset (Ev.int_ ew) ?_
  have es := law_season_ok rest w
  rw [hP] at es
  refine Run.sset (Ev.callP (ds := [P]) (EvL.cons (Ev.var rfl) .nil) .nil ⟨rfl, rfl⟩ es) ?_
  refine Run.sset (Ev.callP (ds := [seasonD (landD mills ps) low high lets, wD mills ps low2 high2 lets2 [], .bl (decide (way / 160 % 2 = 1))]) (EvL.cons (Ev.var rfl) (EvL.cons (Ev.var rfl) (EvL.cons (by get_elem_tactic_extensible) .nil))) .nil ⟨rfl, rfl⟩ (law_sharing_ok _ w2)) ?_
  have sg1 := law_singles_ok [] w2
  have sg2 := law_singles_ok rest w
  have kp1 := law_kept_ok (mills := mills) (ps := ps) (low := low2) (high := high2) (lets := lets2) []
  have kp2 := law_kept_ok (mills := mills) (ps := ps) (low := low) (high := high) (lets := lets) rest
  rw [hP] at sg2 kp2
  have nb1 := fun G => law_numbers_ok rest w G (letD G) (.inr rfl)
  have nb2 := fun G => law_numbers_ok [] w2 G (letD G) (.inr rfl)
  rw [hP] at nb1
  have rt1 := fun {V ys G} hV hl hm hG b => law_right_ok w (V := V) (ys := ys) (G := G) hV hl hm hG b
  have rt2 := fun {V ys G} hV hl hm hG b => law_right_ok w2 (V := V) (ys := ys) (G := G) hV hl hm hG b
  have bt1 := fun {V ys G} hV hl hm hG f hf => law_both_ok w (V := V) (ys := ys) (G := G) hV hl hm hG f hf
  have bt2 := fun {V ys G} hV hl hm hG f hf => law_both_ok w2 (V := V) (ys := ys) (G := G) hV hl hm hG f hf
  have hW : ∃ W, W = wD mills ps low2 high2 lets2 [] ∧ ∀ ρ : EV.Env, ρ[3]? = some (.v W) → Ev (v2 ixD (vVar 3) (vC (.int 0))) ρ (.int mills) := ⟨_, rfl, fun ρ h => Ev.ixL (Ev.var h) Ev.c (by omega) rfl⟩
  obtain ⟨W, eW, hW0⟩ := hW
  rw [← eW] at sg1 kp1 nb2 ⊢
  clear eW
  generalize seasonD (landD mills ps) low high lets = S1 at *
  generalize seasonD (landD mills ps) low2 high2 lets2 = S2 at *
  show Run (gSeq _ _) [.v (.scr ns), .v (.int c), .v P, .v W, .v (.lst (row.map D.int)), a, b, .v (.int way), .v S1, .v S2, .no, .no, .no, .no, .no, .no, .no] _
  have c2 : ∀ {sem : List D → Option R} {i j : Nat} {x y d : D} {ρ : EV.Env}, sem [x, y] = some (.ok d) → ρ[i]? = some (.v x) → ρ[j]? = some (.v y) → Ev (vCallP 2 0 [0, 1] sem [] (aCons (vVar i) (aCons (vVar j) (aNil))) (aNil)) ρ d := fun h hi hj => Ev.callP (ds := [_, _]) (EvL.cons (Ev.var hi) (EvL.cons (Ev.var hj) .nil)) .nil ⟨rfl, rfl⟩ h
  refine Run.seq (Run.ifP (P := ¬ True ∨ ¬ True) (Ev.orP (Ev.notP (P := True) (c2 sg1 rfl rfl)) fun _ => Ev.notP (P := True) (c2 sg2 rfl rfl)) (fun h => ?_) fun _ => Run.next ?_)
  · rcases h with h | h <;> exact (h trivial).elim
  obtain ⟨ls, el, okl⟩ := law_lots_ok mills row m1 m24 (by omega)
  refine Run.sset (Ev.callP (ds := [.int mills, .lst (row.map D.int)]) (EvL.cons (hW0 _ rfl) (EvL.cons (Ev.var rfl) .nil)) .nil ⟨rfl, rfl⟩ el) (Run.sset (d := .int (c / 8)) (by get_elem_tactic_extensible) ?_)
  show Run (gSeq _ _) [.v (.scr ns), .v (.int c), .v P, .v W, .v (.lst (row.map D.int)), a, b, .v (.int way), .v S1, .v S2, .v (.lst (ls.map letD)), .v (.int (c / 8)), .no, .no, .no, .no, .no] _
  have hls := okl.1
  refine Run.cut (fun ρ => ∃ x y z u, ρ = [.v (.scr ns), .v (.int c), .v P, .v W, .v (.lst (row.map D.int)), a, b, .v (.int way), .v S1, .v S2, .v (.lst (ls.map letD)), .v (.int (c / 8)), x, y, z, u, .no]) ?_ fun ρ hρ => ?_
  · refine Run.for (fun _ ρ => ∃ x y z u, ρ = [.v (.scr ns), .v (.int c), .v P, .v W, .v (.lst (row.map D.int)), a, b, .v (.int way), .v S1, .v S2, .v (.lst (ls.map letD)), .v (.int (c / 8)), x, y, z, u, .no]) (EvL.range1 (j := ((ls.map letD).length : Nat)) (Ev.lenL (Ev.var rfl)) (by rw [List.length_map]; omega)) ⟨_, _, _, _, rfl⟩ (fun k d ρ hd hI => ?_) fun ρ hI => ⟨_, rfl, hI⟩
    obtain ⟨x, y, z, u, rfl⟩ := hI
    obtain ⟨rfl, hk⟩ := range0_get hd
    have hk : k < ls.length := by rw [List.length_map] at hk; omega
    have hG := okl.2 _ (at_mem (xs := ls) (i := (k : Int)) (by omega) (by omega))
    have eG : ∀ ρ : EV.Env, ρ[10]? = some (.v (.lst (ls.map letD))) → ρ[12]? = some (.v (.int (k : Nat))) → Ev (v2 ixD (vVar 10) (vVar 12)) ρ (letD (at_ ls (k : Int))) := fun ρ h1 h2 => Ev.ixM (A := letD) (Ev.var h1) (Ev.var h2) (by omega) (by omega)
    generalize at_ ls (k : Int) = G at hG eG
    refine ⟨_, rfl, ?_⟩
    refine Run.sset (d := .lst ((num4 mills ps low high lets G).map optD)) (Ev.vL (EvL.callP (ds := [P, letD G]) (EvL.cons (Ev.var rfl) (EvL.cons (eG _ rfl rfl) .nil)) .nil ⟨rfl, rfl⟩ (nb1 G))) ?_
    refine Run.sset (d := .lst ((num4 mills ps low2 high2 lets2 G).map optD)) (Ev.vL (EvL.callP (ds := [W, letD G]) (EvL.cons (Ev.var rfl) (EvL.cons (eG _ rfl rfl) .nil)) .nil ⟨rfl, rfl⟩ (nb2 G))) ?_
    refine Run.sset (d := .int ((way / 16 + (k : Int)) % 2)) (by get_elem_tactic_extensible) ?_
    have hf : (way / 16 + (k : Int)) % 2 = 0 ∨ (way / 16 + (k : Int)) % 2 = 1 := by omega
    generalize (way / 16 + (k : Int)) % 2 = form at hf ⊢
    show Run (gSeq _ _) [.v (.scr ns), .v (.int c), .v P, .v W, .v (.lst (row.map D.int)), a, b, .v (.int way), .v S1, .v S2, .v (.lst (ls.map letD)), .v (.int (c / 8)), .v (.int k), .v (.lst ((num4 mills ps low high lets G).map optD)), .v (.lst ((num4 mills ps low2 high2 lets2 G).map optD)), .v (.int form), .no] _
    generalize hρ : ([.v (.scr ns), .v (.int c), .v P, .v W, .v (.lst (row.map D.int)), a, b, .v (.int way), .v S1, .v S2, .v (.lst (ls.map letD)), .v (.int (c / 8)), .v (.int k), .v (.lst ((num4 mills ps low high lets G).map optD)), .v (.lst ((num4 mills ps low2 high2 lets2 G).map optD)), .v (.int form), .no] : EV.Env) = ρ
    have sh : ∀ (f : FE) (t : Int), Ev f ρ (.int t) → ∃ (V : D) (ys : List Int), Ev (vCallP 2 0 [0, 1] sem_law_shown [] (aCons (v2 ixD (vVar 10) (vVar 12)) (aCons f (aNil))) (aNil)) ρ V ∧ SeqI V ys ∧ ys.length ≤ 48 ∧ ∀ x, x ∈ ys ↔ x ∈ G := fun f t ht => by
      obtain ⟨V, ys, e, q⟩ := law_shown_ok G t hG.2
      exact ⟨V, ys, Ev.callP (ds := [letD G, .int t]) (EvL.cons (eG _ (by subst hρ; rfl) (by subst hρ; rfl)) (EvL.cons ht .nil)) .nil ⟨rfl, rfl⟩ e, q⟩
    obtain ⟨V1, ys1, q1, s1, l1, i1⟩ := sh (v2 addD (vVar 11) (vVar 12)) (c / 8 + (k : Int)) (by subst hρ; get_elem_tactic_extensible)
    obtain ⟨V2, ys2, q2, s2, l2, i2⟩ := sh (v2 addD (vVar 7) (vVar 12)) (way + (k : Int)) (by subst hρ; get_elem_tactic_extensible)
    obtain ⟨V3, ys3, q3, s3, l3, i3⟩ := sh (v2 addD (v2 fdivD (vVar 11) (vC (.int 4))) (v2 fdivD (vVar 12) (vC (.int 2)))) (c / 8 / 4 + (k : Int) / 2) (by subst hρ; get_elem_tactic_extensible)
    obtain ⟨V4, ys4, q4, s4, l4, i4⟩ := sh (v2 addD (v2 fdivD (vVar 7) (vC (.int 4))) (v2 fdivD (vVar 12) (vC (.int 3)))) (way / 4 + (k : Int) / 3) (by subst hρ; get_elem_tactic_extensible)
    have x1 := rt1 s1 (by omega) i1 hG.1 false
    have x2 := bt2 s2 (by omega) i2 hG.1 form hf
    have x3 := rt2 s3 (by omega) i3 hG.1 (decide ((k : Int) % 2 = 1))
    have x4 := bt1 s4 (by omega) i4 hG.1 (1 - form) (by omega)
    refine Run.seq (Run.ifP (Ev.notP (P := True) (Ev.callP (ds := [S1, .lst ((num4 mills ps low high lets G).map optD), V1, .bl false]) (EvL.cons (Ev.var (by subst hρ; rfl)) (EvL.cons (Ev.var (by subst hρ; rfl)) (EvL.cons q1 (EvL.cons Ev.c .nil)))) .nil ⟨rfl, rfl⟩ x1)) (fun h => (h trivial).elim) fun _ => Run.next ?_)
    refine Run.seq (Run.ifP (Ev.notP (P := True) (Ev.callP (ds := [S2, .lst ((num4 mills ps low2 high2 lets2 G).map optD), V2, .int form]) (EvL.cons (Ev.var (by subst hρ; rfl)) (EvL.cons (Ev.var (by subst hρ; rfl)) (EvL.cons q2 (EvL.cons (Ev.var (by subst hρ; rfl)) .nil)))) .nil ⟨rfl, rfl⟩ x2)) (fun h => (h trivial).elim) fun _ => Run.next ?_)
    refine Run.seq (Run.ifP (Ev.notP (P := True) (Ev.callP (ds := [S2, .lst ((num4 mills ps low2 high2 lets2 G).map optD), V3, .bl (decide ((k : Int) % 2 = 1))]) (EvL.cons (Ev.var (by subst hρ; rfl)) (EvL.cons (Ev.var (by subst hρ; rfl)) (EvL.cons q3 (EvL.cons (by subst hρ; get_elem_tactic_extensible) .nil)))) .nil ⟨rfl, rfl⟩ x3)) (fun h => (h trivial).elim) fun _ => Run.next ?_)
    refine Run.ifP (Ev.notP (P := True) (Ev.callP (ds := [S1, .lst ((num4 mills ps low high lets G).map optD), V4, .int (1 - form)]) (EvL.cons (Ev.var (by subst hρ; rfl)) (EvL.cons (Ev.var (by subst hρ; rfl)) (EvL.cons q4 (EvL.cons (by subst hρ; get_elem_tactic_extensible) .nil)))) .nil ⟨rfl, rfl⟩ x4)) (fun h => (h trivial).elim) fun _ => Run.next ?_
    subst hρ
    exact ⟨_, _, _, _, rfl⟩
  obtain ⟨x, y, z, u, rfl⟩ := hρ
  refine Run.cut (fun ρ => ∃ x, ρ = [.v (.scr ns), .v (.int c), .v P, .v W, .v (.lst (row.map D.int)), a, b, .v (.int way), .v S1, .v S2, .v (.lst (ls.map letD)), .v (.int (c / 8)), x, y, z, u, .no]) ?_ fun ρ hρ => ?_
  · refine Run.for (fun _ ρ => ∃ x, ρ = [.v (.scr ns), .v (.int c), .v P, .v W, .v (.lst (row.map D.int)), a, b, .v (.int way), .v S1, .v S2, .v (.lst (ls.map letD)), .v (.int (c / 8)), x, y, z, u, .no]) (EvL.range1 (j := ((ls.map letD).length : Nat)) (Ev.lenL (Ev.var rfl)) (by rw [List.length_map]; omega)) ⟨_, rfl⟩ (fun k d ρ hd hI => ?_) fun ρ hI => ⟨_, rfl, hI⟩
    obtain ⟨x, rfl⟩ := hI
    obtain ⟨rfl, hk⟩ := range0_get hd
    have hk : k < ls.length := by rw [List.length_map] at hk; omega
    have hG := okl.2 _ (at_mem (xs := ls) (i := (k : Int)) (by omega) (by omega))
    have eG : ∀ ρ : EV.Env, ρ[10]? = some (.v (.lst (ls.map letD))) → ρ[12]? = some (.v (.int (k : Nat))) → Ev (v2 ixD (vVar 10) (vVar 12)) ρ (letD (at_ ls (k : Int))) := fun ρ h1 h2 => Ev.ixM (A := letD) (Ev.var h1) (Ev.var h2) (by omega) (by omega)
    generalize at_ ls (k : Int) = G at hG eG
    refine ⟨_, rfl, Run.ifP (P := (way / 32 + (k : Int)) % 5 = 0 ∨ (k : Int) = ((ls.map letD).length : Nat) - 1) (by get_elem_tactic_extensible) (fun h => ?_) fun h => Run.next ⟨_, rfl⟩⟩
    have x1 := rt1 (V := letD G) (ys := G) (.inr rfl) (by have := hG.2; omega) (fun _ => Iff.rfl) hG.1 true
    exact Run.ifP (Ev.notP (P := True) (Ev.callP (ds := [S1, .lst ((num4 mills ps low high lets G).map optD), letD G, .bl true]) (EvL.cons (Ev.var rfl) (EvL.cons (Ev.vL (EvL.callP (ds := [P, letD G]) (EvL.cons (Ev.var rfl) (EvL.cons (eG _ rfl rfl) .nil)) .nil ⟨rfl, rfl⟩ (nb1 G))) (EvL.cons (eG _ rfl rfl) (EvL.cons Ev.c .nil)))) .nil ⟨rfl, rfl⟩ x1)) (fun h => (h trivial).elim) fun _ => Run.next ⟨_, rfl⟩
  obtain ⟨x, rfl⟩ := hρ
  exact Run.ret (bl_true (Ev.andP (P := True) (Q := True ∧ True) (c2 sg1 rfl rfl) fun _ => Ev.andP (P := True) (Q := True) (c2 kp1 rfl rfl) fun _ => c2 kp2 rfl rfl) ⟨trivial, trivial, trivial⟩) rfl
end LW
end

section
set_option maxHeartbeats 0
namespace LW
open PySem PySem.Spec PyProof.Rows L2 EV
theorem law_fd {P : Program} {w : World} {K : PySem.W.Frag} {mg : Str → Option Value} {h : Heap} {f : Addr} (X : K.In h) (G : h.Ns mainGlobals mg) (hfa : mg ("law" : Str) = some (.ref f)) (c : Says K) :
    ∃ fd : FuncData, (∀ (s : Shared) (v : Value), BindsTo s fd ⟨[v], []⟩ [("_law_script", v)]) ∧ ∀ base : Heap, FnOk P w K mg base (L2.CX P w) 7 f fd ["_law_script"] (spF (tab K) 1 sem_law) := by
  have hy : Hyp K mg := ⟨c, h, X, G⟩
  obtain ⟨fd, F, _⟩ := ok_law (P := P) (w := w) (base := h) hy
  have e := hfa.symm.trans (glo_law hy)
  cases e
  have b := FunD.bindsA (ps := ["_law_script"]) F fun _ _ _ _ _ _ us hl => match us, hl with | [_], _ => rfl
  refine ⟨fd, fun s v => b s [v] rfl, fun base => ?_⟩
  obtain ⟨fd', F', Gd⟩ := ok_law (P := P) (w := w) (base := base) hy
  have ef : fd' = fd := by
    obtain ⟨_, _, _, _, _, _, _, _, _, _, e1, l1, _⟩ := F.ex
    obtain ⟨_, _, _, _, _, _, _, _, _, _, e2, l2, _⟩ := F'.ex
    rw [l1] at l2
    injection l2 with l2
    injection l2 with _ _ l2 _
    injection l2 with l2
    exact l2.symm
  rw [← ef]
  exact Gd
end LW
open PySem PySem.W PySem.Calls PyProof.Rows
theorem LW.fin_ (hp : ∀ ns : List Int, ns.length ≤ 63 → LW.sem_law [.scr ns] = some (.ok (.bl true))) : PySem.Challenge.rw_millsluices_k06_lot_numbers_and_obstacle.Holds := by
  w_on; o_law
  refine HandSHeadRun.head_any (r := OpenLaw.row PySem.Challenge.rw_millsluices_k06_lot_numbers_and_obstacle) (q := view (OpenLaw.row PySem.Challenge.rw_millsluices_k06_lot_numbers_and_obstacle).prog [58]) (H := LW.hk) (ob := LW.ob) (M := 9000) (loose := LW.loose) (d := HandSHeadRun.topDef (OpenLaw.row PySem.Challenge.rw_millsluices_k06_lot_numbers_and_obstacle).prog 58) (kwd := []) LW.ob_eq
    (by kernel_rfl) (fun s => by kernel_rfl) LW.run (by kernel_rfl) (by kernel_rfl) (by kernel_rfl) (by rfl) (by first | assumption | decide +kernel) (by decide +kernel) ⟨rfl, rfl, rfl, rfl, rfl, by decide +kernel⟩ ?hw ?hc
  case hw => w_witness2
  case hc =>
    refine EV.walk_end (l := PySem.Challenge.rw_millsluices_k06_lot_numbers_and_obstacle) (n := 63) (k := 7) (x := "_law_script") (fun w => L2.CX (PySem.Challenge.rw_millsluices_k06_lot_numbers_and_obstacle).prog w) rfl (by decide) (by kernel_rfl) ⟨rfl, by decide, by decide⟩ ?F (fun w H s e s' c => ?_)
    · intro w mg fa h Y G hmg0
      obtain ⟨K, KX, c⟩ := Y
      have hmg : mg ("law" : PySem.Str) = some (.ref fa) := by
        have e : (HandSHeadRun.topDef (OpenLaw.row PySem.Challenge.rw_millsluices_k06_lot_numbers_and_obstacle).prog 58).name = ("law" : PySem.Str) := by kernel_rfl
        rw [← e]
        exact hmg0
      obtain ⟨fd, hb, hF⟩ := LW.law_fd (P := (PySem.Challenge.rw_millsluices_k06_lot_numbers_and_obstacle).prog) (w := w) KX G hmg c
      refine ⟨K, fd, _, KX, hb, fun H a ms hl hS => ?_, fun g _ _ => hF g⟩
      exact ⟨H, [.scr ms], _, EV.Sub.refl H, .cons (.scr hS (Nat.le_trans hl (by decide))) .nil, rfl, hp ms hl, fun v S' H' _ i => by cases i; rfl⟩
    · obtain ⟨_, _, _, _, _, _, _, _, _, _, _, _, z⟩ := c
      exact z
end
open PySem PySem.W PyProof.Rows
set_option Elab.async false
set_option maxRecDepth 100000 in
set_option maxHeartbeats 8000000 in
theorem PySem.Challenge.cw_millsluices_k06_lot_numbers_and_obstacle_holds : PySem.Challenge.rw_millsluices_k06_lot_numbers_and_obstacle.Holds := by
  exact LW.fin_ fun ns _ => LW.law_ok ns
