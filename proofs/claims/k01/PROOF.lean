import PyProof.Rows.All
import Wide.All
import OpenK.AllK
import Wide.FinOn
import HandS.ForMost
import HandS.Exc
import HandS.More
import HandS.WordsExc
import HandS.ForExc
import HandS.Defaults
import HandS.IsInst
import HandS.Walk
import HandS.TupAny
import HandS.ExcCtx
import HandS.HotCalls
import HandS.ExcInit
import HandS.ExcField
import HandS.ExcIs
import HandS.Deep
import HandS.NoneIn
import HandS.MakeKw
import KE.GoesMore
import KE.GoesZip
import HandS.SetFor
import HandS.Set
import HandS.Strs
import HandS.Zip
import HandS.SlotsOwn
import HandS.Property
import HandS.HeadHook1
import HandS.HeadHook2
import HandS.TupMul
import PyProof.EqKinds
import KE.KExcIs
import HandS.ExcInitHot
import HandS.Style
import HandS.Dict
import KE.DataMinMax
import KE.SortData
import PyProof.Rows.RowBridgeK
import HandS.Sort
import KE.GoesRaise
import HandS.TupLen
import HandS.Iter
import HandS.OwnEq
import KE.KDictWalk
import HandS.GenList
import HandS.GenYield
import HandS.TryOnly
import HandS.SuiteRaise
import HandS.Star
import HandS.DictSub
import HandS.Head0
import HandS.Head1
import HandS.Head2
import HandS.HeadEnd
import PySem.Challenge.RW_millsluices_k01_settings_and_turns
set_option Elab.async false
set_option linter.all false
set_option maxRecDepth 100000
section
set_option maxHeartbeats 4000000
/-! EV: expressions and statements as partial functions over heap-free data. -/
namespace EV
open PySem L2

/-- data -/
inductive D where
  | non | bl (b : Bool) | int (i : Int) | str (s : Str)
  | tup (xs : List D) | lst (xs : List D) | obj (c : Nat) (xs : List D)
  | scr (xs : List Int)
  | dct (ks : List (List Int)) (xs : List D)
instance : Inhabited D := ⟨.non⟩

/-- the classes by number: where they stand, their fields in order -/
structure TabC where
  K : PySem.W.Frag
  cls : Nat → Addr
  flds : Nat → List Str
/-- the tables, and the exception that a suite holds: where it lies, its class, its dict -/
structure Tab where
  B : TabC
  xa : Option (Addr × Value × Option Addr)
instance : Coe Tab TabC := ⟨Tab.B⟩
abbrev Tab.K (T : Tab) : PySem.W.Frag := T.B.K
abbrev Tab.cls (T : Tab) : Nat → Addr := T.B.cls
abbrev Tab.flds (T : Tab) : Nat → List Str := T.B.flds

/-! a dict whose keys are tuples of ints -/
def keyHash (k : List Int) : Int := reduceHash (Builtin.Tuple.tupleHashOf (k.map hashInt))
def entI (x : List Int × Addr × Value) : DictEntry := ⟨keyHash x.1, .ref x.2.1, x.2.2⟩
/-- keys by code: 0 :: k for the tuple k, [1, i] for the int i -/
def isK : List (List Int) → Bool
  | (c :: _) :: _ => c == 1
  | _ => false
def kzK (ks : List (List Int)) : List Key := ks.map fun c => (Sum.inl (c.getD 1 0) : Key)
def dctO (a : Addr) (ks : List (List Int)) (bs : List Addr) (vs : List V) : HO := if isK ks = true then .dK ((kzK ks).zip vs) else .ext fun h =>
  ∃ xs : List (List Int × Addr × Value), xs.map (·.1) = ks.map List.tail ∧ xs.map (·.2.1) = bs ∧ Vals vs (xs.map (·.2.2)) ∧ xs.length ≤ sizeLine ∧ (a == sysModules) = false ∧
    ∃ o es ep, h.get? a = some o ∧ o.ExactDict ∧ o.data = .dict es ep ∧ es.toList = xs.map entI ∧ (ks.map List.tail).Nodup ∧ ep = xs.length
theorem dct_lst {a : Addr} {ks : List (List Int)} {bs : List Addr} {vs ws : List V} (h : some (HO.lst ws) = some (dctO a ks bs vs)) : False := by
  unfold dctO at h
  split at h <;> cases h
/-- the tuples that are the keys -/
def KT (K : PySem.W.Frag) (H : Hp) (ks : List (List Int)) (bs : List Addr) : Prop := bs.length = ks.length ∧ ∀ (i : Nat) c b, ks[i]? = some c → bs[i]? = some b → ∃ k, c = 0 :: k ∧ SqT K H b (k.map V.int)
def KI (ks : List (List Int)) : Prop := ks ≠ [] ∧ ∀ c ∈ ks, ∃ j, c = [1, j]
def KAt (K : PySem.W.Frag) (H : Hp) (ks : List (List Int)) (bs : List Addr) : Prop := KT K H ks bs ∨ KI ks

mutual
/-- the value v stands for the datum d -/
inductive Is (T : TabC) (H : Hp) : V → D → Prop where
  | non : Is T H .non .non
  | bl (b : Bool) : Is T H (.bl b) (.bl b)
  | int (i : Int) : Is T H (.int i) (.int i)
  | str (s : Str) : Is T H (.str s) (.str s)
  | tup {a : Addr} {vs : List V} {ds : List D} : SqT T.K H a vs → Iss T H vs ds → Is T H (.ref a) (.tup ds)
  | lst {a : Addr} {vs : List V} {ds : List D} : H a = some (.lst vs) → Iss T H vs ds → Is T H (.ref a) (.lst ds)
  | obj {a dx : Addr} {c : Nat} {vs : List V} {ds : List D} : H a = some (.ins (T.cls c) dx ((T.flds c).zip vs)) → vs.length ≤ (T.flds c).length → Iss T H vs ds → Is T H (.ref a) (.obj c ds)
  | scr {a : Addr} {ns : List Int} : SqL T.K H a (ns.map V.int) → ns.length ≤ 100 → Is T H (.ref a) (.scr ns)
  | dct {a : Addr} {ks : List (List Int)} {bs : List Addr} {vs : List V} {ds : List D} : H a = some (dctO a ks bs vs) → KAt T.K H ks bs → Iss T H vs ds → Is T H (.ref a) (.dct ks ds)
inductive Iss (T : TabC) (H : Hp) : List V → List D → Prop where
  | nil : Iss T H [] []
  | cons {v : V} {vs : List V} {d : D} {ds : List D} : Is T H v d → Iss T H vs ds → Iss T H (v :: vs) (d :: ds)
end

theorem Same.seqT {K : PySem.W.Frag} {H H' : Hp} {a : Addr} {xs : List V} (e : Same H H') (h : SqT K H a xs) : SqT K H' a xs := by
  rcases h with (h | ⟨o, h⟩) | h
  · exact .inl (.inl (e _ _ h))
  · exact .inl (.inr ⟨o, e _ _ h⟩)
  · exact .inr h

theorem KAt.mono {K : PySem.W.Frag} {H H' : Hp} {ks : List (List Int)} {bs : List Addr} (e : Same H H') (h : KAt K H ks bs) : KAt K H' ks bs := h.imp (fun h => ⟨h.1, fun i c b h1 h2 => let ⟨k, q1, q2⟩ := h.2 i c b h1 h2; ⟨k, q1, Same.seqT e q2⟩⟩) id
mutual
theorem Is.mono {T : TabC} {H H' : Hp} (e : Same H H') : ∀ {v : V} {d : D}, Is T H v d → Is T H' v d
  | _, _, .non => .non
  | _, _, .bl b => .bl b
  | _, _, .int i => .int i
  | _, _, .str s => .str s
  | _, _, .tup h hs => .tup (Same.seqT e h) (Iss.mono e hs)
  | _, _, .lst h hs => .lst (e _ _ h) (Iss.mono e hs)
  | _, _, .obj h l hs => .obj (e _ _ h) l (Iss.mono e hs)
  | _, _, .scr h l => .scr (e.seq h) l
  | _, _, .dct h k hs => .dct (e _ _ h) (k.mono e) (Iss.mono e hs)
theorem Iss.mono {T : TabC} {H H' : Hp} (e : Same H H') : ∀ {vs : List V} {ds : List D}, Iss T H vs ds → Iss T H' vs ds
  | _, _, .nil => .nil
  | _, _, .cons h hs => .cons (Is.mono e h) (Iss.mono e hs)
end

theorem Iss.length {T : TabC} {H : Hp} : ∀ {vs : List V} {ds : List D}, Iss T H vs ds → vs.length = ds.length
  | _, _, .nil => rfl
  | _, _, .cons _ hs => by simp [Iss.length hs]
theorem Iss.get {T : TabC} {H : Hp} : ∀ {vs : List V} {ds : List D} {i : Nat} {v : V}, Iss T H vs ds → vs[i]? = some v → ∃ d, ds[i]? = some d ∧ Is T H v d
  | _, _, _, _, .nil, e => by simp at e
  | _, _, 0, _, .cons h _, e => by simp at e; subst e; exact ⟨_, rfl, h⟩
  | _, _, i + 1, v, .cons _ hs, e => by
    obtain ⟨d, h1, h2⟩ := Iss.get (i := i) (v := v) hs (by simpa using e)
    exact ⟨d, by simpa using h1, h2⟩
theorem Iss.append {T : TabC} {H : Hp} : ∀ {vs ws : List V} {ds es : List D}, Iss T H vs ds → Iss T H ws es → Iss T H (vs ++ ws) (ds ++ es)
  | _, _, _, _, .nil, h => h
  | _, _, _, _, .cons h hs, h' => .cons h (Iss.append hs h')
theorem Iss.take {T : TabC} {H : Hp} : ∀ {vs : List V} {ds : List D} (n : Nat), Iss T H vs ds → Iss T H (vs.take n) (ds.take n)
  | _, _, 0, _ => by simp; exact .nil
  | _, _, _ + 1, .nil => .nil
  | _, _, n + 1, .cons h hs => .cons h (Iss.take n hs)
theorem Iss.drop {T : TabC} {H : Hp} : ∀ {vs : List V} {ds : List D} (n : Nat), Iss T H vs ds → Iss T H (vs.drop n) (ds.drop n)
  | _, _, 0, h => h
  | _, _, _ + 1, .nil => .nil
  | _, _, n + 1, .cons _ hs => Iss.drop n hs
theorem Iss.set {T : TabC} {H : Hp} {v : V} {d : D} (h : Is T H v d) : ∀ {vs : List V} {ds : List D} (i : Nat), Iss T H vs ds → Iss T H (vs.set i v) (ds.set i d)
  | _, _, _, .nil => .nil
  | _, _, 0, .cons _ hs => .cons h hs
  | _, _, i + 1, .cons h' hs => .cons h' (Iss.set h i hs)
theorem Iss.reverse {T : TabC} {H : Hp} : ∀ {vs : List V} {ds : List D}, Iss T H vs ds → Iss T H vs.reverse ds.reverse
  | _, _, .nil => .nil
  | _, _, .cons h hs => by simp only [List.reverse_cons]; exact (Iss.reverse hs).append (.cons h .nil)
theorem Iss.ints {T : TabC} {H : Hp} : ∀ (ns : List Int), Iss T H (ns.map V.int) (ns.map D.int)
  | [] => .nil
  | _ :: r => .cons (.int _) (Iss.ints r)
/-! ### the part of the heap that stands -/
/-- tuples (and what is locked) never change -/
def isFix : HO → Bool
  | .tup _ => true
  | .frz _ _ => true
  | .xd _ => true
  | _ => false
/-- S: what stands for good; H: all. Only lists, instances and the like may be in H alone -/
structure Sub (S H : Hp) : Prop where
  same : Same S H
  fix : ∀ a o, H a = some o → isFix o = true → S a = some o
theorem Sub.refl (H : Hp) : Sub H H := ⟨Same.refl H, fun _ _ h _ => h⟩
/-- a step that changes nothing tracked: more objects -/
structure Kp (S H S' H' : Hp) : Prop where
  s : Same S S'
  h : Same H H'
  sub : Sub S' H'
  hid : ∀ a, H a ≠ none → S a = none → S' a = none
theorem Kp.refl {S H : Hp} (sh : Sub S H) : Kp S H S H := ⟨Same.refl S, Same.refl H, sh, fun _ _ h => h⟩
theorem Same.some {H H' : Hp} (e : Same H H') {a : Addr} (h : H a ≠ none) : H' a ≠ none := by
  cases q : H a with
  | none => exact absurd q h
  | some o => rw [e a o q]; intro z; cases z
theorem Kp.trans {S H S1 H1 S2 H2 : Hp} (a : Kp S H S1 H1) (b : Kp S1 H1 S2 H2) : Kp S H S2 H2 :=
  ⟨a.s.trans b.s, a.h.trans b.h, b.sub, fun x h1 h2 => b.hid x (Same.some a.h h1) (a.hid x h1 h2)⟩
/-- a new object, standing -/
theorem Kp.new {S H : Hp} {p : Addr} {o : HO} (sh : Sub S H) (hp : H p = none) : Kp S H (upd S p o) (upd H p o) := by
  have sp : S p = none := sh.same.free hp
  refine ⟨fun a u e => ?_, fun a u e => ?_, ⟨fun a u e => ?_, fun a u e f => ?_⟩, fun a h1 h2 => ?_⟩
  · rw [upd_ne (ne_of_none e sp)]; exact e
  · rw [upd_ne (ne_of_none e hp)]; exact e
  · by_cases h : a = p
    · subst h; rw [upd_same] at e ⊢; exact e
    · rw [upd_ne h] at e ⊢; exact sh.same a u e
  · by_cases h : a = p
    · subst h; rw [upd_same] at e ⊢; exact e
    · rw [upd_ne h] at e ⊢; exact sh.fix a u e f
  · have : a ≠ p := fun z => h1 (z ▸ hp)
    rw [upd_ne this]; exact h2
/-! ### results -/
/-- an exception: its class by number, its fields -/
structure Xn where
  c : Nat
  fs : List D
inductive R where
  | ok (d : D)
  | ex (x : Xn)
def R1 (o : Option R) (k : D → Option R) : Option R := match o with
  | some (.ok d) => k d
  | some (.ex x) => some (.ex x)
  | none => none
@[simp] theorem R1_ok (d : D) (k : D → Option R) : R1 (some (.ok d)) k = k d := rfl
@[simp] theorem R1_ex (x : Xn) (k : D → Option R) : R1 (some (.ex x)) k = some (.ex x) := rfl
@[simp] theorem R1_none (k : D → Option R) : R1 none k = none := rfl
def okO (o : Option D) : Option R := o.map R.ok
@[simp] theorem okO_some (d : D) : okO (some d) = some (.ok d) := rfl
@[simp] theorem okO_none : okO none = none := rfl

/-- a slot of the frame -/
inductive Sl where
  | no
  | v (d : D)
  | own (ds : List D)
  | ins (c : Nat) (ds : List D)
  | exn (x : Xn)
  | od (ks : List (List Int)) (ds : List D)
abbrev Env := List Sl
abbrev FE := Env → Option R

/-- how an exception lies -/
def XIs (T : TabC) (H : Hp) (x : Xn) (cls : Value) (d : Option Addr) : Prop :=
  cls = .ref (T.cls x.c) ∧ ((x.fs = [] ∧ d = none) ∨ ∃ dx vs, d = some dx ∧ H dx = some (.xd ((T.flds x.c).zip vs)) ∧ vs.length = (T.flds x.c).length ∧ Iss T H vs x.fs)

theorem XIs.mono {T : TabC} {H H' : Hp} {x : Xn} {cls : Value} {d : Option Addr} (e : Same H H') (h : XIs T H x cls d) : XIs T H' x cls d := by
  obtain ⟨h1, h2⟩ := h
  refine ⟨h1, ?_⟩
  rcases h2 with h2 | ⟨dx, vs, h3, h4, h5, h6⟩
  · exact .inl h2
  · exact .inr ⟨dx, vs, h3, e _ _ h4, h5, h6.mono e⟩
/-- the slot i holds the suite's exception -/
def XAt (T : Tab) (S : Hp) (σ : L2.St) (i : Nat) (x : Xn) : Prop := ∃ a cls d, T.xa = some (a, cls, d) ∧ σ[i]? = some (some (.ref a)) ∧ XIs T S x cls d
theorem XAt.mono {T : Tab} {S S' : Hp} {σ : L2.St} {i : Nat} {x : Xn} (e : Same S S') (h : XAt T S σ i x) : XAt T S' σ i x := by
  obtain ⟨a, cls, d, h1, h2, h3⟩ := h
  exact ⟨a, cls, d, h1, h2, h3.mono e⟩
theorem XAt.set {T : Tab} {S : Hp} {σ : L2.St} {i j : Nat} {v : Option V} {x : Xn} (hj : i ≠ j) (h : XAt T S σ j x) : XAt T S (σ.set i v) j x := by
  obtain ⟨a, cls, d, h1, h2, h3⟩ := h
  exact ⟨a, cls, d, h1, by rw [List.getElem?_set_ne hj]; exact h2, h3⟩

structure RepE (T : Tab) (S : Hp) (ρ : Env) (σ : L2.St) : Prop where
  len : σ.length = ρ.length
  v : ∀ (i : Nat) (d : D), ρ[i]? = some (.v d) → ∃ v, σ[i]? = some (some v) ∧ Is T S v d
  x : ∀ (i : Nat) (x : Xn), ρ[i]? = some (.exn x) → XAt T S σ i x
theorem RepE.mono {T : Tab} {S S' : Hp} {ρ : Env} {σ : L2.St} (e : Same S S') (h : RepE T S ρ σ) : RepE T S' ρ σ := ⟨h.len, fun i d q => by
  obtain ⟨v, h1, h2⟩ := h.v i d q
  exact ⟨v, h1, h2.mono e⟩, fun i x q => (h.x i x q).mono e⟩

def REnd (T : Tab) (W : WX) (S H : Hp) (σ : L2.St) (Q : VK) : R → Prop
  | .ok d => ∀ v S' H', Kp S H S' H' → Is T S' v d → Q v H'
  | .ex x => ∀ S' H' cls d, Kp S H S' H' → XIs T S' x cls d → W cls d σ H'
theorem REnd.mono {T : Tab} {W : WX} {S H S' H' : Hp} {σ : L2.St} {Q : VK} {r : R} (k : Kp S H S' H') (h : REnd T W S H σ Q r) : REnd T W S' H' σ Q r := by
  cases r with
  | ok d => exact fun v S2 H2 k2 i => h v S2 H2 (k.trans k2) i
  | ex x => exact fun S2 H2 cls d k2 i => h S2 H2 cls d (k.trans k2) i

section
variable {T : Tab} {W : WX} {S H : Hp} {σ : L2.St} {ρ : Env} {Q P : VK} {f : FE} {k : D → Option R} {r : R}
end

/-! ### atoms -/
section
variable {X : Cx} {T : Tab} {W : WX} {e a b : Expr} {f fa fb : FE} {pos : Pos}
def vC (d : D) : FE := fun _ => some (.ok d)
/-! ### operators by values -/
/-- r does what o says -/
def Op2 (T : TabC) (r : R2) (o : D → D → Option D) : Prop := ∀ (S H : Hp) (x y : V) (p q d : D) (Q : VK), Sub S H → Is T S x p → Is T S y q → o p q = some d → (∀ v S' H', Kp S H S' H' → Is T S' v d → Q v H') → r x y H Q
def v2 (o : D → D → Option D) (fa fb : FE) : FE := fun ρ => R1 (fa ρ) fun p => R1 (fb ρ) fun q => okO (o p q)
theorem Op2.or {r r' : R2} {o : D → D → Option D} {o1 o2 : D → D → Option D} (h1 : Op2 T r o1) (h2 : Op2 T r' o2) (ho : ∀ p q d, o p q = some d → o1 p q = some d ∨ o2 p q = some d) : Op2 T (fun x y H Q => r x y H Q ∨ r' x y H Q) o :=
  fun S H x y p q d Q sh i1 i2 e fin => (ho p q d e).elim (fun e => .inl (h1 S H x y p q d Q sh i1 i2 e fin)) fun e => .inr (h2 S H x y p q d Q sh i1 i2 e fin)
end
end EV
end

section
set_option maxHeartbeats 4000000
/-! EV2: operators, subscripts, slices, comparisons. -/
namespace EV
open PySem L2

/-! ### equality of data -/
mutual
def D.eqv : D → D → Bool
  | .non, .non => true
  | .bl a, .bl b => a == b
  | .bl a, .int j => (if a then 1 else 0) == j
  | .int i, .bl b => i == (if b then 1 else 0)
  | .int i, .int j => i == j
  | .str x, .str y => x == y
  | .lst xs, .lst ys => D.eqvs xs ys
  | .tup xs, .tup ys => D.eqvs xs ys
  | _, _ => false
def D.eqvs : List D → List D → Bool
  | [], [] => true
  | x :: xs, y :: ys => D.eqv x y && D.eqvs xs ys
  | _, _ => false
end
mutual
def D.py : D → PyData
  | .non => .none
  | .bl b => .bool b
  | .int i => .int i
  | .str s => .str s
  | .tup xs => .tuple (D.pys xs)
  | .lst xs => .list (D.pys xs)
  | .obj _ _ => .none
  | .scr _ => .none
  | .dct _ _ => .none
def D.pys : List D → List PyData
  | [] => []
  | x :: xs => D.py x :: D.pys xs
end
mutual
/-- plain data of depth at most n -/
def D.pl : Nat → D → Bool
  | _, .non => true
  | _, .bl _ => true
  | _, .int _ => true
  | _, .str s => PyData.strOk s
  | n + 1, .tup xs => D.pls n xs
  | n + 1, .lst xs => D.pls n xs
  | _, _ => false
def D.pls : Nat → List D → Bool
  | _, [] => true
  | n, x :: xs => D.pl n x && D.pls n xs
end
mutual
theorem shaped_pl : ∀ (n : Nat) (d : D), D.pl n d = true → (D.py d).canLay0 = true ∧ (D.py d).depth ≤ n
  | n, .non, _ => by simp [D.py, PyData.canLay0, PyData.depth]
  | n, .bl _, _ => by simp [D.py, PyData.canLay0, PyData.depth]
  | n, .int _, _ => by simp [D.py, PyData.canLay0, PyData.depth]
  | n, .str s, h => by
    cases n <;> simp only [D.pl] at h <;> simp [D.py, PyData.canLay0, PyData.depth, h]
  | n + 1, .tup xs, h => by
    have h' : D.pls n xs = true := by simpa [D.pl] using h
    have q := shaped_pls n xs h'
    simp only [D.py, PyData.canLay0, PyData.depth]
    exact ⟨q.1, by have := q.2; omega⟩
  | n + 1, .lst xs, h => by
    have h' : D.pls n xs = true := by simpa [D.pl] using h
    have q := shaped_pls n xs h'
    simp only [D.py, PyData.canLay0, PyData.depth]
    exact ⟨q.1, by have := q.2; omega⟩
  | 0, .tup _, h => by simp [D.pl] at h
  | 0, .lst _, h => by simp [D.pl] at h
  | 0, .obj _ _, h => by simp [D.pl] at h
  | _ + 1, .obj _ _, h => by simp [D.pl] at h
  | 0, .scr _, h => by simp [D.pl] at h
  | _ + 1, .scr _, h => by simp [D.pl] at h
  | 0, .dct _ _, h => by simp [D.pl] at h
  | _ + 1, .dct _ _, h => by simp [D.pl] at h
theorem shaped_pls : ∀ (n : Nat) (xs : List D), D.pls n xs = true → PyData.canLayAll0 (D.pys xs) = true ∧ PyData.depthAll (D.pys xs) ≤ n
  | _, [], _ => by simp [D.pys, PyData.canLayAll0, PyData.depthAll]
  | n, x :: xs, h => by
    rw [D.pls, Bool.and_eq_true] at h
    have h1 := shaped_pl n x h.1
    have h2 := shaped_pls n xs h.2
    simp only [D.pys, PyData.canLayAll0, PyData.depthAll, h1.1, h2.1]
    exact ⟨rfl, by have := h1.2; have := h2.2; omega⟩
end
mutual
theorem eqv_py : ∀ (n : Nat) (d e : D), D.pl n d = true → D.pl n e = true → PyData.eqv (D.py d) (D.py e) = D.eqv d e
  | n, d, e, h1, h2 => by
    cases d <;> cases e <;> first
      | (cases n <;> simp [D.pl] at h1; done)
      | (cases n <;> simp [D.pl] at h2; done)
      | (simp only [D.py, PyData.eqv, D.eqv]; done)
      | (cases n with
         | zero => simp [D.pl] at h1
         | succ n =>
           simp only [D.py, PyData.eqv, D.eqv]
           exact eqvs_pys n _ _ (by simpa [D.pl] using h1) (by simpa [D.pl] using h2))
theorem eqvs_pys : ∀ (n : Nat) (ds es : List D), D.pls n ds = true → D.pls n es = true → PyData.eqvAll (D.pys ds) (D.pys es) = D.eqvs ds es
  | _, [], [], _, _ => by simp [D.pys, PyData.eqvAll, D.eqvs]
  | _, [], _ :: _, _, _ => by simp [D.pys, PyData.eqvAll, D.eqvs]
  | _, _ :: _, [], _, _ => by simp [D.pys, PyData.eqvAll, D.eqvs]
  | n, d :: ds, e :: es, h1, h2 => by
    rw [D.pls, Bool.and_eq_true] at h1 h2
    simp only [D.pys, PyData.eqvAll, D.eqvs]
    rw [eqv_py n d e h1.1 h2.1, eqvs_pys n ds es h1.2 h2.2]
end
mutual
theorem Is.dp {T : Tab} {H : Hp} : ∀ {n : Nat} {v : V} {d : D}, Is T H v d → D.pl n d = true → Dp T.K H v (D.py d)
  | _, _, _, .non, _ => by rw [D.py]; exact .non
  | _, _, _, .bl b, _ => by rw [D.py]; exact .bl b
  | _, _, _, .int i, _ => by rw [D.py]; exact .int i
  | _, _, _, .str s, _ => by rw [D.py]; exact .str s
  | n + 1, _, _, .tup h hs, p => by rw [D.py]; exact .tup h (Iss.dps hs (n := n) (by simpa [D.pl] using p))
  | n + 1, _, _, .lst h hs, p => by rw [D.py]; exact .lst (SqL.of h) (Iss.dps hs (n := n) (by simpa [D.pl] using p))
  | 0, _, _, .tup h hs, p => by simp [D.pl] at p
  | 0, _, _, .lst h hs, p => by simp [D.pl] at p
  | n, _, _, .obj h l hs, p => by cases n <;> simp [D.pl] at p
  | n, _, _, .scr h l, p => by cases n <;> simp [D.pl] at p
theorem Iss.dps {T : Tab} {H : Hp} : ∀ {n : Nat} {vs : List V} {ds : List D}, Iss T H vs ds → D.pls n ds = true → DpAll T.K H vs (D.pys ds)
  | _, _, _, .nil, _ => by rw [D.pys]; exact .nil
  | n, _, _, .cons h hs, p => by
    rw [D.pls, Bool.and_eq_true] at p
    rw [D.pys]
    exact .cons (Is.dp h p.1) (Iss.dps hs p.2)
end
def subD : D → D → Option D
  | .int i, .int j => some (.int (i - j))
  | _, _ => none
def modD : D → D → Option D
  | .int i, .int j => if 0 < j then some (.int (i % j)) else none
  | _, _ => none
def cmpD (p : Int → Int → Bool) : D → D → Option D
  | .int i, .int j => some (.bl (p i j))
  | _, _ => none
abbrev ltD := cmpD fun i j => decide (i < j)
abbrev gtD := cmpD fun i j => decide (j < i)
def neD (p q : D) : Option D := if D.pl 8 p && D.pl 8 q then some (.bl (!D.eqv p q)) else none
section
variable {T : Tab} {X : Cx}
variable {W : WX} {a b : Expr} {fa fb : FE} {pos : Pos}
def RO (o : Option (Option R)) (k : Option Int → Option R) : Option R := match o with
  | some none => k none
  | some (some (.ok (.int i))) => k (some i)
  | some (some (.ex x)) => some (.ex x)
  | _ => none
@[simp] theorem RO_none (k : Option Int → Option R) : RO (some none) k = k none := rfl
@[simp] theorem RO_int (i : Int) (k : Option Int → Option R) : RO (some (some (.ok (.int i)))) k = k (some i) := rfl
end
end EV
end

section
set_option maxHeartbeats 4000000
/-! EV3: tests, displays, comprehensions, statements, loops. -/
namespace EV
open PySem L2

section
variable {T : Tab} {X : Cx} {W : WX} {a b c e : Expr} {f fa fb fc : FE} {pos : Pos} {es rest : List Expr}

/-! ### arguments, displays, new lists -/
inductive RL where
  | ok (ds : List D)
  | ex (x : Xn)
abbrev FL := Env → Option RL
def RLEnd (T : Tab) (W : WX) (S H : Hp) (σ : L2.St) (Q : List V → Hp → Prop) : RL → Prop
  | .ok ds => ∀ vs S' H', Kp S H S' H' → Iss T S' vs ds → Q vs H'
  | .ex x => ∀ S' H' cls d, Kp S H S' H' → XIs T S' x cls d → W cls d σ H'
theorem RLEnd.mono {S H S' H' : Hp} {σ : L2.St} {Q : List V → Hp → Prop} {r : RL} (k : Kp S H S' H') (h : RLEnd T W S H σ Q r) : RLEnd T W S' H' σ Q r := by
  cases r with
  | ok d => exact fun v S2 H2 k2 i => h v S2 H2 (k.trans k2) i
  | ex x => exact fun S2 H2 cls d k2 i => h S2 H2 cls d (k.trans k2) i
def aNil : FL := fun _ => some (.ok [])
def R1L (o : Option R) (k : D → Option RL) : Option RL := match o with
  | some (.ok d) => k d
  | some (.ex x) => some (.ex x)
  | none => none
def RL1 (o : Option RL) (k : List D → Option R) : Option R := match o with
  | some (.ok d) => k d
  | some (.ex x) => some (.ex x)
  | none => none
def RLL (o : Option RL) (k : List D → Option RL) : Option RL := match o with
  | some (.ok d) => k d
  | some (.ex x) => some (.ex x)
  | none => none
@[simp] theorem R1L_ok (d : D) (k : D → Option RL) : R1L (some (.ok d)) k = k d := rfl
@[simp] theorem R1L_ex (x : Xn) (k : D → Option RL) : R1L (some (.ex x)) k = some (.ex x) := rfl
@[simp] theorem RL1_ok (d : List D) (k : List D → Option R) : RL1 (some (.ok d)) k = k d := rfl
@[simp] theorem RL1_ex (x : Xn) (k : List D → Option R) : RL1 (some (.ex x)) k = some (.ex x) := rfl
@[simp] theorem RLL_ok (d : List D) (k : List D → Option RL) : RLL (some (.ok d)) k = k d := rfl
@[simp] theorem RLL_ex (x : Xn) (k : List D → Option RL) : RLL (some (.ex x)) k = some (.ex x) := rfl
def aCons (fa : FE) (fr : FL) : FL := fun ρ => R1L (fa ρ) fun d => RLL (fr ρ) fun ds => some (.ok (d :: ds))
def tupD (ds : List D) : Option D := if ds.length ≤ 100000 then some (.tup ds) else none
def vTup (f : FL) : FE := fun ρ => RL1 (f ρ) fun ds => okO (tupD ds)
/-- a new list, in nobody's hands -/
def RNEnd (T : Tab) (W : WX) (S H : Hp) (σ : L2.St) (Q : VK) : RL → Prop
  | .ok ds => ∀ a vs S' H', Kp S H S' H' → H a = none → S' a = none → H' a = some (.lst vs) → Iss T S' vs ds → Q (.ref a) H'
  | .ex x => ∀ S' H' cls d, Kp S H S' H' → XIs T S' x cls d → W cls d σ H'
theorem RNEnd.mono {S H S' H' : Hp} {σ : L2.St} {Q : VK} {r : RL} (k : Kp S H S' H') (h : RNEnd T W S H σ Q r) : RNEnd T W S' H' σ Q r := by
  cases r with
  | ok d => exact fun a vs S2 H2 k2 h1 h2 h3 i => h a vs S2 H2 (k.trans k2) (k.h.free h1) h2 h3 i
  | ex x => exact fun S2 H2 cls d k2 i => h S2 H2 cls d (k.trans k2) i
/-- what is hidden is laid open -/
theorem Kp.open {S H S' H' : Hp} {a : Addr} {o : HO} (k : Kp S H S' H') (hn : H a = none) (h' : H' a = some o) (hs : S' a = none) : Kp S H (upd S' a o) H' := by
  refine ⟨fun b u e => ?_, k.h, ⟨fun b u e => ?_, fun b u e f => ?_⟩, fun b h1 h2 => ?_⟩
  · have : b ≠ a := fun z => by
      have := k.s b u e
      rw [z, hs] at this; cases this
    rw [upd_ne this]; exact k.s b u e
  · by_cases h : b = a
    · subst h; rw [upd_same] at e; rw [← e]; exact h'
    · rw [upd_ne h] at e; exact k.sub.same b u e
  · by_cases h : b = a
    · subst h; rw [upd_same]; rw [h'] at e; exact e
    · rw [upd_ne h]; exact k.sub.fix b u e f
  · have : b ≠ a := fun z => h1 (z ▸ hn)
    rw [upd_ne this]; exact k.hid b h1 h2
end
end EV
end

section
set_option maxHeartbeats 4000000
/-! EV4: the frame with lists of its own; statements. -/
namespace EV
open PySem L2

/-! ### the frame -/
structure Rep (T : Tab) (ρ : Env) (σ : L2.St) (S H : Hp) (L : Nat → Option Addr) : Prop where
  sub : EV.Sub S H
  len : σ.length = ρ.length
  v : ∀ (i : Nat) (d : D), ρ[i]? = some (.v d) → ∃ v, σ[i]? = some (some v) ∧ Is T S v d
  own : ∀ (i : Nat) (ds : List D), ρ[i]? = some (.own ds) → ∃ a vs, L i = some a ∧ σ[i]? = some (some (.ref a)) ∧ H a = some (.lst vs) ∧ S a = none ∧ Iss T S vs ds
  ins : ∀ (i c : Nat) (ds : List D), ρ[i]? = some (.ins c ds) → ∃ a dx vs, L i = some a ∧ σ[i]? = some (some (.ref a)) ∧ H a = some (.ins (T.cls c) dx ((T.flds c).zip vs)) ∧ S a = none ∧ vs.length ≤ (T.flds c).length ∧ Iss T S vs ds
  inj : ∀ i j a, L i = some a → L j = some a → i = j
  dom : ∀ i a, L i = some a → (∃ ds, ρ[i]? = some (.own ds)) ∨ (∃ c ds, ρ[i]? = some (.ins c ds)) ∨ ∃ ks ds, ρ[i]? = some (.od ks ds)
  x : ∀ (i : Nat) (x : Xn), ρ[i]? = some (.exn x) → XAt T S σ i x
  od : ∀ (i : Nat) (ks : List (List Int)) (ds : List D), ρ[i]? = some (.od ks ds) → ∃ a bs vs, L i = some a ∧ σ[i]? = some (some (.ref a)) ∧ H a = some (dctO a ks bs vs) ∧ S a = none ∧ KAt T.K S ks bs ∧ Iss T S vs ds
structure Stp (S H : Hp) (L : Nat → Option Addr) (S' H' : Hp) (L' : Nat → Option Addr) : Prop where
  s : Same S S'
  fr : ∀ a o, H a = some o → (∀ i, L i ≠ some a) → H' a = some o
  hid : ∀ a, H a ≠ none → S a = none → (∀ i, L i ≠ some a) → S' a = none
  own : ∀ i a, L' i = some a → (∃ j, L j = some a) ∨ (H a = none ∧ ((∃ xs, H' a = some (.lst xs)) ∨ ∃ ks bs vs, H' a = some (dctO a ks bs vs)))
  lk : ∀ a xs, H a = some (.lst xs) → ∃ ys, H' a = some (.lst ys)
  ik : ∀ a C dx fs, H a = some (.ins C dx fs) → ∃ fs', H' a = some (.ins C dx fs')
  dk : ∀ a ks bs vs, H a = some (dctO a ks bs vs) → ∃ ks' bs' vs', H' a = some (dctO a ks' bs' vs')
section
variable {T : Tab} {ρ : Env} {σ : L2.St} {S H S' H' S2 H2 : Hp} {L L' L2' : Nat → Option Addr}
theorem Stp.refl : Stp S H L S H L := ⟨Same.refl S, fun _ _ h _ => h, fun _ _ h _ => h, fun i a h => .inl ⟨i, h⟩, fun _ xs h => ⟨xs, h⟩, fun _ _ _ fs h => ⟨fs, h⟩, fun _ ks bs vs h => ⟨ks, bs, vs, h⟩⟩
theorem Stp.trans (a : Stp S H L S' H' L') (b : Stp S' H' L' S2 H2 L2') : Stp S H L S2 H2 L2' := by
  have nl : ∀ x o, H x = some o → (∀ i, L i ≠ some x) → ∀ i, L' i ≠ some x := fun x o h n i z => by
    rcases a.own i x z with ⟨j, q⟩ | ⟨q, _⟩
    · exact n j q
    · rw [h] at q; cases q
  refine ⟨a.s.trans b.s, fun x o h n => b.fr x o (a.fr x o h n) (nl x o h n), fun x h1 h2 n => ?_, fun i x z => ?_, fun x xs h => ?_, fun x C dx fs h => ?_, fun x ks bs vs h => ?_⟩
  · cases q : H x with
    | none => exact absurd q h1
    | some o => exact b.hid x (by rw [a.fr x o q n]; intro z; cases z) (a.hid x h1 h2 n) (nl x o q n)
  · rcases b.own i x z with ⟨j, q⟩ | ⟨q, q2⟩
    · rcases a.own j x q with q | ⟨q, ⟨xs, q2⟩ | ⟨ks, bs, vs, q2⟩⟩
      · exact .inl q
      · exact .inr ⟨q, .inl (b.lk x xs q2)⟩
      · exact .inr ⟨q, .inr (b.dk x ks bs vs q2)⟩
    · by_cases hj : ∃ j, L j = some x
      · exact .inl hj
      · refine .inr ⟨?_, q2⟩
        cases e : H x with
        | none => rfl
        | some o =>
          rw [a.fr x o e fun i z => hj ⟨i, z⟩] at q
          cases q
  · obtain ⟨ys, h1⟩ := a.lk x xs h
    exact b.lk x ys h1
  · obtain ⟨ys, h1⟩ := a.ik x C dx fs h
    exact b.ik x C dx ys h1
  · obtain ⟨ks', bs', vs', h1⟩ := a.dk x ks bs vs h
    exact b.dk x ks' bs' vs' h1
theorem Kp.stp (k : Kp S H S' H') : Stp S H L S' H' L := ⟨k.s, fun a o h _ => k.h a o h, fun a h1 h2 _ => k.hid a h1 h2, fun i a h => .inl ⟨i, h⟩, fun a xs h => ⟨xs, k.h a _ h⟩, fun a _ _ fs h => ⟨fs, k.h a _ h⟩, fun a ks bs vs h => ⟨ks, bs, vs, k.h a _ h⟩⟩
theorem Rep.kp (r : Rep T ρ σ S H L) (k : Kp S H S' H') : Rep T ρ σ S' H' L := by
  refine ⟨k.sub, r.len, fun i d e => ?_, fun i ds e => ?_, fun i c ds e => ?_, r.inj, r.dom, fun i x q => (r.x i x q).mono k.s, fun i ks ds e => ?_⟩
  · obtain ⟨v, h1, h2⟩ := r.v i d e
    exact ⟨v, h1, h2.mono k.s⟩
  · obtain ⟨a, vs, h1, h2, h3, h4, h5⟩ := r.own i ds e
    exact ⟨a, vs, h1, h2, k.h a _ h3, k.hid a (by rw [h3]; intro z; cases z) h4, h5.mono k.s⟩
  · obtain ⟨a, dx, vs, h1, h2, h3, h4, h5, h6⟩ := r.ins i c ds e
    exact ⟨a, dx, vs, h1, h2, k.h a _ h3, k.hid a (by rw [h3]; intro z; cases z) h4, h5, h6.mono k.s⟩
  · obtain ⟨a, bs, vs, h1, h2, h3, h4, h5, h6⟩ := r.od i ks ds e
    exact ⟨a, bs, vs, h1, h2, k.h a _ h3, k.hid a (by rw [h3]; intro z; cases z) h4, h5.mono k.s, h6.mono k.s⟩
/-- a slot is set to a new list of its own -/
def on (L : Nat → Option Addr) (i : Nat) (a : Addr) : Nat → Option Addr := fun j => if j = i then some a else L j
theorem Rep.setOwn {i : Nat} {a : Addr} {vs : List V} {ds : List D} (hi : i < ρ.length) (r : Rep T ρ σ S H L) (ha : H a = some (.lst vs)) (hs : S a = none) (hn : ∀ j, L j ≠ some a) (h : Iss T S vs ds) : Rep T (ρ.set i (.own ds)) (σ.set i (some (.ref a))) S H (EV.on L i a) := by
  have on_ne : ∀ {j}, j ≠ i → EV.on L i a j = L j := fun h => if_neg h
  have on_same : EV.on L i a i = some a := if_pos rfl
  refine ⟨r.sub, by simp [r.len], fun j e q => ?_, fun j es q => ?_, fun j c es q => ?_, fun j k b h1 h2 => ?_, fun j b q => ?_, fun j x q => by
      by_cases hj : i = j
      · subst hj
        by_cases hl : i < ρ.length
        · rw [List.getElem?_set_self hl] at q; cases q
        · rw [List.getElem?_eq_none (by simpa using hl)] at q; cases q
      · rw [List.getElem?_set_ne hj] at q
        exact (r.x j x q).set hj, fun j ks es q => by
      by_cases hj : i = j
      · subst hj
        by_cases hl : i < ρ.length
        · rw [List.getElem?_set_self hl] at q; cases q
        · rw [List.getElem?_eq_none (by simpa using hl)] at q; cases q
      · rw [List.getElem?_set_ne hj] at q ⊢
        rw [on_ne (Ne.symm hj)]
        exact r.od j ks es q⟩
  · by_cases hj : i = j
    · subst hj
      rw [List.getElem?_set_self hi] at q; cases q
    · rw [List.getElem?_set_ne hj] at q ⊢
      exact r.v j e q
  · by_cases hj : i = j
    · subst hj
      rw [List.getElem?_set_self hi] at q; cases q
      exact ⟨a, vs, on_same, List.getElem?_set_self (by rw [r.len]; exact hi), ha, hs, h⟩
    · rw [List.getElem?_set_ne hj] at q ⊢
      rw [on_ne (Ne.symm hj)]
      exact r.own j es q
  · by_cases hj : i = j
    · subst hj
      rw [List.getElem?_set_self hi] at q; cases q
    · rw [List.getElem?_set_ne hj] at q ⊢
      rw [on_ne (Ne.symm hj)]
      exact r.ins j c es q
  · by_cases hj : j = i
    · subst hj
      rw [on_same] at h1; cases h1
      by_cases hk : k = j
      · exact hk.symm
      · rw [on_ne hk] at h2; exact absurd h2 (hn k)
    · rw [on_ne hj] at h1
      by_cases hk : k = i
      · subst hk
        rw [on_same] at h2; cases h2
        exact absurd h1 (hn j)
      · rw [on_ne hk] at h2; exact r.inj j k b h1 h2
  · by_cases hj : j = i
    · subst hj
      exact .inl ⟨ds, List.getElem?_set_self hi⟩
    · rw [on_ne hj] at q
      rw [List.getElem?_set_ne (Ne.symm hj)]
      exact r.dom j b q
/-- a list of the frame's own changes -/
theorem Rep.upd {i : Nat} {a : Addr} {ds ds' : List D} {vs' : List V} (r : Rep T ρ σ S H L) (h : ρ[i]? = some (.own ds)) (hL : L i = some a) (h' : Iss T S vs' ds') : Rep T (ρ.set i (.own ds')) σ S (L2.upd H a (.lst vs')) L := by
  obtain ⟨a0, vs0, e1, e2, e3, e4, e5⟩ := r.own i ds h
  rw [hL] at e1; cases e1
  have hi : i < ρ.length := (List.getElem?_eq_some_iff.mp h).1
  refine ⟨⟨fun b u e => ?_, fun b u e f => ?_⟩, by simp [r.len], fun j e q => ?_, fun j es q => ?_, fun j c es q => ?_, r.inj, fun j b q => ?_, fun j x q => by
      by_cases hj : i = j
      · subst hj
        by_cases hl : i < ρ.length
        · rw [List.getElem?_set_self hl] at q; cases q
        · rw [List.getElem?_eq_none (by simpa using hl)] at q; cases q
      · rw [List.getElem?_set_ne hj] at q
        exact r.x j x q, fun j ks es q => by
      by_cases hj : i = j
      · subst hj
        by_cases hl : i < ρ.length
        · rw [List.getElem?_set_self hl] at q; cases q
        · rw [List.getElem?_eq_none (by simpa using hl)] at q; cases q
      · rw [List.getElem?_set_ne hj] at q
        obtain ⟨b, bs, vs, q1, q2, q3, q4, q5⟩ := r.od j ks es q
        have : b ≠ a := fun z => hj (r.inj i j a hL (z ▸ q1))
        exact ⟨b, bs, vs, q1, q2, by rw [upd_ne this]; exact q3, q4, q5⟩⟩
  · have : b ≠ a := fun z => by rw [z, e4] at e; cases e
    rw [upd_ne this]; exact r.sub.same b u e
  · by_cases hb : b = a
    · subst hb; rw [upd_same] at e; cases e; cases f
    · rw [upd_ne hb] at e; exact r.sub.fix b u e f
  · by_cases hj : i = j
    · subst hj
      rw [List.getElem?_set_self hi] at q; cases q
    · rw [List.getElem?_set_ne hj] at q
      exact r.v j e q
  · by_cases hj : i = j
    · subst hj
      rw [List.getElem?_set_self hi] at q; cases q
      exact ⟨a, vs', hL, e2, upd_same, e4, h'⟩
    · rw [List.getElem?_set_ne hj] at q
      obtain ⟨b, vs, q1, q2, q3, q4, q5⟩ := r.own j es q
      have : b ≠ a := fun z => hj (r.inj i j a hL (z ▸ q1))
      exact ⟨b, vs, q1, q2, by rw [upd_ne this]; exact q3, q4, q5⟩
  · by_cases hj : i = j
    · subst hj
      rw [List.getElem?_set_self hi] at q; cases q
    · rw [List.getElem?_set_ne hj] at q
      obtain ⟨b, dx, vs, q1, q2, q3, q4, q5⟩ := r.ins j c es q
      have : b ≠ a := fun z => hj (r.inj i j a hL (z ▸ q1))
      exact ⟨b, dx, vs, q1, q2, by rw [upd_ne this]; exact q3, q4, q5⟩
  · by_cases hj : i = j
    · subst hj
      exact .inl ⟨ds', List.getElem?_set_self hi⟩
    · rw [List.getElem?_set_ne hj]
      exact r.dom j b q
theorem Stp.upd {i : Nat} {a : Addr} {ws vs : List V} (hL : L i = some a) (ha : H a = some (.lst ws)) : Stp S H L S (L2.upd H a (.lst vs)) L :=
  ⟨Same.refl S, fun b u h n => by rw [upd_ne (fun (z : b = a) => n i (by rw [z]; exact hL))]; exact h, fun b _ h _ => h, fun j b h => .inl ⟨j, h⟩, fun b xs h => by
    by_cases hb : b = a
    · subst hb; exact ⟨vs, upd_same⟩
    · exact ⟨xs, by rw [upd_ne hb]; exact h⟩, fun b C dx fs h => by
    have : b ≠ a := fun z => by rw [z, ha] at h; cases h
    exact ⟨fs, by rw [upd_ne this]; exact h⟩, fun b ks bs ws h => by
    have : b ≠ a := fun z => by rw [z, ha] at h; exact dct_lst h
    exact ⟨ks, bs, ws, by rw [upd_ne this]; exact h⟩⟩
end
/-! data without lists and instances -/
mutual
def D.pure : D → Bool
  | .non => true
  | .bl _ => true
  | .int _ => true
  | .str _ => true
  | .tup xs => D.pures xs
  | _ => false
def D.pures : List D → Bool
  | [] => true
  | x :: xs => D.pure x && D.pures xs
end
mutual
theorem Is.pure {T : Tab} {S H : Hp} (sh : EV.Sub S H) : ∀ {v : V} {d : D}, Is T H v d → d.pure = true → Is T S v d
  | _, _, .non, _ => .non
  | _, _, .bl b, _ => .bl b
  | _, _, .int i, _ => .int i
  | _, _, .str s, _ => .str s
  | _, _, .tup h hs, p => by
    refine .tup ?_ (Iss.pure sh hs (by simpa [D.pure] using p))
    rcases h with (h | ⟨o, h⟩) | h
    · exact .inl (.inl (sh.fix _ _ h rfl))
    · exact .inl (.inr ⟨o, sh.fix _ _ h rfl⟩)
    · exact .inr h
  | _, _, .lst h hs, p => by simp [D.pure] at p
  | _, _, .obj h l hs, p => by simp [D.pure] at p
  | _, _, .scr h l, p => by simp [D.pure] at p
  | _, _, .dct h k hs, p => by simp [D.pure] at p
theorem Iss.pure {T : Tab} {S H : Hp} (sh : EV.Sub S H) : ∀ {vs : List V} {ds : List D}, Iss T H vs ds → D.pures ds = true → Iss T S vs ds
  | _, _, .nil, _ => .nil
  | _, _, .cons h hs, p => by
    rw [D.pures, Bool.and_eq_true] at p
    exact .cons (Is.pure sh h p.1) (Iss.pure sh hs p.2)
end
/-! ### statements -/
inductive Out where
  | nx (ρ : Env)
  | rt (d : D)
  | bk (ρ : Env)
  | ct (ρ : Env)
  | rs (x : Xn) (ρ : Env)
  | rl (ds : List D)
abbrev FS := Env → Option Out
def SEnd (T : Tab) (W : WX) (Dn : Ends) (S H : Hp) (L : Nat → Option Addr) : Out → Prop
  | .nx ρ => ∀ σ' S' H' L', Rep T ρ σ' S' H' L' → Stp S H L S' H' L' → Dn.nx σ' H'
  | .rt d => ∀ v S' H' L', EV.Sub S' H' → Stp S H L S' H' L' → Is T S' v d → Dn.rt v H'
  | .bk ρ => ∀ σ' S' H' L', Rep T ρ σ' S' H' L' → Stp S H L S' H' L' → Dn.bk σ' H'
  | .ct ρ => ∀ σ' S' H' L', Rep T ρ σ' S' H' L' → Stp S H L S' H' L' → Dn.ct σ' H'
  | .rs x ρ => ∀ σ' S' H' L' cls d, Rep T ρ σ' S' H' L' → Stp S H L S' H' L' → XIs T S' x cls d → W cls d σ' H'
  | .rl ds => ∀ a vs S' H' L', EV.Sub S' H' → Stp S H L S' H' L' → (H a = none ∨ ∃ i, L i = some a) → S' a = none → H' a = some (.lst vs) → Iss T S' vs ds → Dn.rt (.ref a) H'
theorem Stp.young {S H S' H' : Hp} {L L' : Nat → Option Addr} {a : Addr} (k : Stp S H L S' H' L') (h : H' a = none ∨ ∃ i, L' i = some a) : H a = none ∨ ∃ i, L i = some a := by
  rcases h with h | ⟨i, h⟩
  · by_cases hl : ∃ i, L i = some a
    · exact .inr hl
    · refine .inl ?_
      cases e : H a with
      | none => rfl
      | some o =>
        rw [k.fr a o e fun i z => hl ⟨i, z⟩] at h
        cases h
  · rcases k.own i a h with q | ⟨q, _⟩
    · exact .inr q
    · exact .inl q
theorem SEnd.mono {T : Tab} {W : WX} {Dn : Ends} {S H S1 H1 : Hp} {L L1 : Nat → Option Addr} {o : Out} (k : Stp S H L S1 H1 L1) (h : SEnd T W Dn S H L o) : SEnd T W Dn S1 H1 L1 o := by
  cases o with
  | nx ρ => exact fun σ' S' H' L' r s => h σ' S' H' L' r (k.trans s)
  | rt d => exact fun v S' H' L' sh s i => h v S' H' L' sh (k.trans s) i
  | bk ρ => exact fun σ' S' H' L' r s => h σ' S' H' L' r (k.trans s)
  | ct ρ => exact fun σ' S' H' L' r s => h σ' S' H' L' r (k.trans s)
  | rs x ρ => exact fun σ' S' H' L' cls d r s i => h σ' S' H' L' cls d r (k.trans s) i
  | rl ds => exact fun a vs S' H' L' sh s hy h1 h2 i => h a vs S' H' L' sh (k.trans s) (k.young hy) h1 h2 i
section
variable {X : Cx} {T : Tab} {W : WX} {st : Stmt} {rest body els : List Stmt} {g g1 g2 : FS} {e : Expr} {f : FE} {pos : Pos}
def gNext : FS := fun ρ => some (.nx ρ)
def gSeq (g1 g2 : FS) : FS := fun ρ => match g1 ρ with
  | some (.nx ρ') => g2 ρ'
  | o => o
def gBrk : FS := fun ρ => some (.bk ρ)
/-! an expression's part in a statement; mode B: own lists are not seen; mode A: all is seen, the result is pure -/
def RS (o : Option R) (ρ : Env) (k : D → Option Out) : Option Out := match o with
  | some (.ok d) => k d
  | some (.ex x) => some (.rs x ρ)
  | none => none
@[simp] theorem RS_ok (d : D) (ρ : Env) (k : D → Option Out) : RS (some (.ok d)) ρ k = k d := rfl
@[simp] theorem RS_ex (x : Xn) (ρ : Env) (k : D → Option Out) : RS (some (.ex x)) ρ k = some (.rs x ρ) := rfl
variable {S H : Hp} {σ : L2.St} {ρ : Env} {L : Nat → Option Addr} {Dn : Ends} {P : VK} {k : D → Option Out} {o : Out}
theorem XIs.pure {x : Xn} {cls : Value} {d : Option Addr} (sh : EV.Sub S H) (h : XIs T H x cls d) (p : D.pures x.fs = true) : XIs T S x cls d := by
  obtain ⟨h1, h2⟩ := h
  refine ⟨h1, ?_⟩
  rcases h2 with h2 | ⟨dx, vs, h3, h4, h5, h6⟩
  · exact .inl h2
  · exact .inr ⟨dx, vs, h3, sh.fix _ _ h4 rfl, h5, h6.pure sh p⟩
/-! x = e -/
def gSet (i : Nat) (f : FE) : FS := fun ρ => RS (f ρ) ρ fun d => some (.nx (ρ.set i (.v d)))
section
variable {i : Nat} {x : Str} {p : Pos}
end
end
end EV
end

section
set_option maxHeartbeats 4000000
/-! EV5: own lists, branches, loops, targets. -/
namespace EV
open PySem L2
section
variable {X : Cx} {T : Tab} {W : WX} {st : Stmt} {rest body els : List Stmt} {g g1 g2 : FS} {e a b c : Expr} {es : List Expr} {f fa fb fc : FE} {pos : Pos}
variable {S H : Hp} {σ : L2.St} {ρ : Env} {L : Nat → Option Addr} {Dn : Ends} {P : VK} {o : Out} {i : Nat} {x : Str} {p : Pos}

/-! ### a new list of the frame's own -/
def RSL (o : Option RL) (ρ : Env) (k : List D → Option Out) : Option Out := match o with
  | some (.ok d) => k d
  | some (.ex x) => some (.rs x ρ)
  | none => none
@[simp] theorem RSL_ok (d : List D) (ρ : Env) (k : List D → Option Out) : RSL (some (.ok d)) ρ k = k d := rfl
def setOwn (i : Nat) (ρ : Env) (ds : List D) : Option Out := if i < ρ.length then some (.nx (ρ.set i (.own ds))) else none
def gOwn (i : Nat) (f : FL) : FS := fun ρ => RSL (f ρ) ρ (setOwn i ρ)
/-! ### an expression alone, return -/
def gDrop (f : FE) : FS := fun ρ => RS (f ρ) ρ fun _ => some (.nx ρ)
def gRet (f : FE) : FS := fun ρ => RS (f ρ) ρ fun d => some (.rt d)
section
variable {p1 p2 p3 : Pos}
end
section
variable {p1 p2 : Pos} {fk : FE}
end
end
end EV
end

section
set_option maxHeartbeats 4000000
/-! EV6: targets, what is walked, for, while, comprehensions. -/
namespace EV
open PySem L2

/-! ### targets: fg says what a store does to the frame; is: the slots that it may set -/
abbrev FG := D → Env → Option Env
abbrev FGs := List D → Env → Option Env
section
variable {X : Cx} {T : Tab} {W : WX} {st : Stmt} {rest body els : List Stmt} {g g1 g2 : FS} {e a b c : Expr} {es : List Expr} {f fa fb fc : FE} {pos : Pos}
variable {S H : Hp} {σ : L2.St} {ρ : Env} {L : Nat → Option Addr} {Dn : Ends} {P : VK} {o : Out} {i : Nat} {x : Str} {p : Pos} {is js : List Nat} {fg : FG} {fgs : FGs}
theorem PG.or {e : Expr} {t u : TG} (h : PG X e t) (h' : PG X e u) : PG X e (fun v σ H Q => t v σ H Q ∨ u v σ H Q) := ⟨fun pins s σ H v uu Q I r q => q.elim (h.run pins s σ H v uu Q I r) (h'.run pins s σ H v uu Q I r)⟩
/-! ### what is walked -/
/-- J gives the data ds one by one, while what stands behind S1 stands -/
structure IW (T : TabC) (J : It) (S1 : Hp) (ds : List D) : Prop where
  go : ∀ i S H, Same S1 S → EV.Sub S H → i < ds.length → J.go i H
  stop : ∀ S H, Same S1 S → EV.Sub S H → J.stop ds.length H
  yld : ∀ i S H x H', Same S1 S → EV.Sub S H → i < ds.length → J.yld i H x H' → ∃ d S', ds[i]? = some d ∧ Kp S H S' H' ∧ Is T S' x d
def RIEnd (T : Tab) (W : WX) (S H : Hp) (σ : L2.St) (R : It → Hp → Prop) : RL → Prop
  | .ok ds => ∀ J S' H', Kp S H S' H' → IW T J S' ds → R J H'
  | .ex x => ∀ S' H' cls d, Kp S H S' H' → XIs T S' x cls d → W cls d σ H'
theorem RIEnd.mono {S' H' : Hp} {R : It → Hp → Prop} {r : RL} (k : Kp S H S' H') (h : RIEnd T W S H σ R r) : RIEnd T W S' H' σ R r := by
  cases r with
  | ok d => exact fun J S2 H2 k2 i => h J S2 H2 (k.trans k2) i
  | ex x => exact fun S2 H2 cls d k2 i => h S2 H2 cls d (k.trans k2) i
theorem PI.or {tg e : Expr} {t u : TI} (h : PI X tg e t) (h' : PI X tg e u) : PI X tg e (fun σ H R => t σ H R ∨ u σ H R) := ⟨fun pins s σ H Q I q => q.elim (h.run pins s σ H Q I) (h'.run pins s σ H Q I)⟩
/-- the items of a list, a tuple, the script -/
def seqD : D → Option (List D)
  | .lst xs => some xs
  | .tup xs => some xs
  | .scr ns => some (ns.map D.int)
  | _ => none
def iSeq (f : FE) : FL := fun ρ => R1L (f ρ) fun d => (seqD d).map RL.ok
/-! ### for -/
def loopF (fg : FG) (b : FS) : List D → Env → Option Out
  | [], ρ => some (.nx ρ)
  | d :: ds, ρ => match fg d ρ with
    | none => none
    | some ρ1 => match b ρ1 with
      | some (.nx ρ') => loopF fg b ds ρ'
      | some (.ct ρ') => loopF fg b ds ρ'
      | some (.bk ρ') => some (.nx ρ')
      | o => o
def gFor (fi : FL) (fg : FG) (b : FS) : FS := fun ρ => RSL (fi ρ) ρ fun ds => loopF fg b ds ρ
end
end EV
end

section
set_option maxHeartbeats 4000000
/-! EV7: comprehensions; calls of built-ins. -/
namespace EV
open PySem L2
section
variable {X : Cx} {T : Tab} {W : WX} {st : Stmt} {g g1 g2 : FS} {e a b c : Expr} {es : List Expr} {f fa fb fc : FE} {pos : Pos}
variable {S H : Hp} {σ : L2.St} {ρ : Env} {L : Nat → Option Addr} {Dn : Ends} {P : VK} {o : Out} {i : Nat} {x : Str} {p : Pos} {is js : List Nat} {fg : FG} {fgs : FGs}

def wipeE (ρ : Env) : List Nat → Env
  | [] => ρ
  | v :: vs => (wipeE ρ vs).set v .no
/-- what the frame's own lists are not seen of -/
def maskS : Sl → Sl
  | .v d => .v d
  | _ => .no
def mask (ρ : Env) : Env := ρ.map maskS
/-- one item's turn: nothing (none), left out (some none), its value -/
def itemF (fg : FG) (ft fe : FE) (ρ : Env) (d : D) : Option (Option D) := match fg d (mask ρ) with
  | none => none
  | some ρ1 => match ft ρ1 with
    | some (.ok (.bl true)) => (match fe ρ1 with
      | some (.ok v) => some (some v)
      | _ => none)
    | some (.ok (.bl false)) => some none
    | _ => none
def lcF (fg : FG) (ft fe : FE) (ρ : Env) : List D → Option (List D)
  | [] => some []
  | d :: ds => match itemF fg ft fe ρ d with
    | none => none
    | some r => match lcF fg ft fe ρ ds with
      | none => none
      | some rs => some (r.toList ++ rs)
def nLc (fi : FL) (fg : FG) (ft fe : FE) (vs : List Nat) : FL := fun ρ => RLL (fi ρ) fun ds => if ds.length ≤ 90000 then (lcF fg ft fe (wipeE ρ vs) ds).map RL.ok else none
section
variable {elt tg iter : Expr} {ifs : List Expr} {scope : Scope} {own : List (Str × Nat)} {fi : FL} {ft fe : FE}
section
variable {y : Str} {py spos : Pos} {i : Nat}
end
end
def vCall (o : List D → Option D) (fs : FL) : FE := fun ρ => RL1 (fs ρ) fun ds => okO (o ds)
def nCall (o : List D → Option (List D)) (fs : FL) : FL := fun ρ => RLL (fs ρ) fun ds => (o ds).map RL.ok
section
variable {r : List V → Hp → VK → Prop} {od : List D → Option D} {ol : List D → Option (List D)} {fs : FL} {id Ty : String}
end
end
end EV
end

section
set_option maxHeartbeats 4000000
/-! EV8: defs, calls, own classes. -/
namespace EV
open PySem L2

def FEnd (T : TabC) (S H : Hp) (Q : VK) (E : XK) : R → Prop
  | .ok d => ∀ v S' H', Kp S H S' H' → Is T S' v d → Q v H'
  | .ex x => ∀ S' H' cls d, Kp S H S' H' → XIs T S' x cls d → E cls d H'
section
variable {P : Program} {w : World} {K : PySem.W.Frag} {mg : Str → Option Value} {base : Heap} {x qual : Str} {params : Arguments} {body : List Stmt} {scope : Scope} {dvs : List V} {kws : List (Str × V)} {f : Addr} {fd : FuncData} {N ps : List Str} {k : Nat} {T : Tab} {g : FS}
end

/-! ### how arguments are bound: written ones, keywords, defaults, put in the parameters' order -/
def pick {α : Type} (perm : List Nat) (xs : List α) : List α := perm.filterMap fun j => xs[j]?
theorem Vals.pick {xs : List V} {us : List Value} (h : Vals xs us) : ∀ perm : List Nat, Vals (EV.pick perm xs) (EV.pick perm us)
  | [] => .nil
  | j :: r => by
    unfold EV.pick
    rw [List.filterMap_cons, List.filterMap_cons]
    cases e : xs[j]? with
    | none =>
      rw [h.none_of e]
      exact Vals.pick h r
    | some x =>
      obtain ⟨u, e2, ru⟩ := h.get e
      rw [e2]
      exact .cons ru (Vals.pick h r)
theorem Iss.pick {T : Tab} {H : Hp} {xs : List V} {us : List D} (h : Iss T H xs us) : ∀ perm : List Nat, Iss T H (EV.pick perm xs) (EV.pick perm us)
  | [] => .nil
  | j :: r => by
    unfold EV.pick
    rw [List.filterMap_cons, List.filterMap_cons]
    cases e : xs[j]? with
    | none =>
      have : us[j]? = none := by
        have h1 := h.length
        have h2 : xs.length ≤ j := List.getElem?_eq_none_iff.mp e
        exact List.getElem?_eq_none_iff.mpr (by omega)
      rw [this]
      exact Iss.pick h r
    | some x =>
      obtain ⟨u, e2, ru⟩ := h.get e
      rw [e2]
      exact .cons ru (Iss.pick h r)
structure ArgB (K : PySem.W.Frag) (fd : FuncData) (ps : List Str) (n : Nat) (ks : List Str) (dvs : List V) (perm : List Nat) : Prop where
  to : ∃ ds : List Value, Vals dvs ds ∧ ∀ (s : Shared) (us ws : List Value), K.In s.heap → us.length = n → ws.length = ks.length → BindsTo s fd ⟨us, ks.zip ws⟩ (ps.zip (pick perm (us ++ ws ++ ds)))
/-- no default is used -/
theorem ArgB.plain {K : PySem.W.Frag} {x qual : Str} {params : Arguments} {body : List Stmt} {scope : Scope} {f : Addr} {fd : FuncData} {ps ks : List Str} {n : Nat} {perm : List Nat} {dvs : List V} {kws : List (Str × V)} (F : FunD K x qual params body scope dvs kws f fd)
    (h : ∀ (dV kV doc pm : Value) (an : Option Addr) (cdv ct : Value) (us ws : List Value), us.length = n → ws.length = ks.length → bindArgs (PySem.W.fnOf x qual params body scope dV kV doc pm an cdv ct) ⟨us, ks.zip ws⟩ = pure (ps.zip (pick perm (us ++ ws ++ [])))) : ArgB K fd ps n ks [] perm := by
  obtain ⟨oc, od, dV, kV, doc, pm, an, cdv, ct, osl, rfl, lk, hcd, hD, hK⟩ := F.ex
  exact ⟨[], .nil, fun s us ws _ l1 l2 => BindsTo.of_eq (h dV kV doc pm an cdv ct us ws l1 l2)⟩
section
variable {X : Cx} {T : Tab} {W : WX} {k n : Nat} {f C : Addr} {fd : FuncData} {ps ks : List Str} {sp : Sp} {x m : Str} {p pos apos : Pos} {e o : Expr} {es : List Expr} {kws : List Keyword} {dvs : List V} {dds : List D} {perm : List Nat} {sem : List D → Option R} {fs fk : FL} {fo : FE}
end
end EV
end

section
set_option maxHeartbeats 4000000
/-! EV9: instances of own classes: fields, making, methods; isinstance; constants of the module. -/
namespace EV
open PySem L2

section
variable {X : Cx} {T : Tab} {W : WX} {st : Stmt} {e a b c : Expr} {es : List Expr} {f fa fb : FE} {pos p1 p2 : Pos} {S H : Hp} {σ : L2.St} {ρ : Env} {L : Nat → Option Addr} {i k ci : Nat} {x fl : Str}

/-- what the text has of the class number ci and its field k -/
structure Fld (T : TabC) (ci k : Nat) (f : Str) : Prop where
  cls : Cls T.K (T.cls ci)
  no : NoAttr T.K (T.cls ci) f
  at_ : (T.flds ci)[k]? = some f
  nd : f ∉ (T.flds ci).take k
  few : (T.flds ci).length ≤ 900
end

section
variable {P : Program} {w : World} {K : PySem.W.Frag} {mg : Str → Option Value} {base : Heap} {x qual : Str} {params : Arguments} {body : List Stmt} {scope : Scope} {dvs : List V} {kws : List (Str × V)} {f : Addr} {fd : FuncData} {N ps : List Str} {k ci : Nat} {T : Tab} {g : FS}
end
end EV
end

section
set_option maxHeartbeats 4000000
/-! EV10: making instances, methods, isinstance of built-in types. -/
namespace EV
open PySem L2
section
variable {X : Cx} {T : Tab} {W : WX} {k n ci : Nat} {f C : Addr} {fd : FuncData} {ps ks : List Str} {sp : Sp} {x m : Str} {p pos apos : Pos} {e o a : Expr} {es : List Expr} {kws : List Keyword} {dvs : List V} {dds : List D} {perm : List Nat} {sem : List D → Option R} {fs fk : FL} {fo fa : FE}
theorem Kp.made {S H S' H' : Hp} {x dx : Addr} {o : HO} (sh : EV.Sub S H) (hx : H x = none) (hd : H dx = none) (s1 : Same S S') (s2 : ∀ a u, a ≠ x → L2.upd (L2.upd H dx (.own x)) x o a = some u → H' a = some u) (s3 : EV.Sub S' H')
    (s4 : ∀ a, L2.upd (L2.upd H dx (.own x)) x o a ≠ none → S a = none → a ≠ x → S' a = none) : Kp S H S' H' := by
  have up : ∀ a u, H a = some u → L2.upd (L2.upd H dx (.own x)) x o a = some u := fun a u h => by
    rw [upd_ne (ne_of_none h hx), upd_ne (ne_of_none h hd)]
    exact h
  refine ⟨s1, fun a u h => s2 a u (ne_of_none h hx) (up a u h), s3, fun a h1 h2 => ?_⟩
  cases q : H a with
  | none => exact absurd q h1
  | some u => exact s4 a (by rw [up a u q]; intro z; cases z) h2 (ne_of_none q hx)
structure MethI (T : TabC) (ci : Nat) (m : Str) (f : Addr) : Prop where
  cls : Cls T.K (T.cls ci)
  meth : Meth T.K (T.cls ci) m f
  no : m ∉ T.flds ci
/-! ### isinstance of built-in types -/
inductive Ty where
  | non | bl | int | str | lst | tup
def Ty.nm : Ty → String
  | .non => "NoneType" | .bl => "bool" | .int => "int" | .str => "str" | .lst => "list" | .tup => "tuple"
def D.ty : D → Option Ty
  | .non => some .non | .bl _ => some .bl | .int _ => some .int | .str _ => some .str | .lst _ => some .lst | .tup _ => some .tup | .scr _ => some .lst
  | _ => none
theorem ty_of {H : Hp} {v : V} {d : D} {t : Ty} (h : Is T H v d) (e : d.ty = some t) : TyX T.K H v (.type t.nm) := by
  cases h with
  | non => cases e; exact .base .non
  | bl b => cases e; exact .base (.bl _)
  | int b => cases e; exact .base (.int _)
  | str b => cases e; exact .base (.str _)
  | tup h hs =>
    cases e
    rcases h with (h | ⟨o, h⟩) | ⟨o, its, n, h1, h2, _⟩
    · exact .base (.tup h)
    · exact .fTuple h
    · exact .kTuple h1 h2
  | lst h hs => cases e; exact .base (.lst h)
  | obj h hl hs => cases e
  | dct h hk hs => cases e
  | scr h hl =>
    cases e
    rcases h with (h | ⟨o, h⟩) | ⟨o, its, n, h1, h2, _⟩
    · exact .base (.lst h)
    · exact .base (.frz h)
    · exact .kList h1 h2
/-- the classes written as a tuple -/
inductive PTy (X : Cx) : List Expr → List Ty → Prop where
  | nil : PTy X [] []
  | cons {y : Str} {q : Pos} {es : List Expr} {u : Ty} {us : List Ty} (hmy : X.mg y = none) (hvy : bootBuiltins y = some (.type u.nm)) (hr : PTy X es us) (hgy : Gl X y := by rfl) (hny : y ≠ "__name__" := by decide) (hdy : (y == ("__debug__" : Str)) = false := by decide)
      (he : starEach (.Name y q :: es) X.env = (false, eval (.Name y q) X.env) :: starEach es X.env := by rfl) : PTy X (.Name y q :: es) (u :: us)
end
end EV
end

section
set_option maxHeartbeats 4000000
/-! EV12: sorted(set(e)); constants of the module. -/
namespace EV
open PySem L2

section
variable {X : Cx} {T : Tab} {W : WX} {a : Expr} {fa : FE} {p p2 q pos : Pos}
end

/-! ### a constant of the module, as it stands in what the head has seen -/
mutual
def kD (K : PySem.W.Frag) : D → Value → Bool
  | .non, .none => true
  | .bl b, .bool c => b == c
  | .int i, .int j _ => decide (i = j)
  | .str x, .str y _ => decide (x = y)
  | .tup ds, .ref a => (match K.lookup a with
    | some ⟨.type c, _, .seq its _, _⟩ => decide (c = "tuple") && (decide (its.size ≤ sizeLine) && kDs K ds its.toList)
    | _ => false)
  | _, _ => false
def kDs (K : PySem.W.Frag) : List D → List Value → Bool
  | [], [] => true
  | d :: ds, v :: vs => kD K d v && kDs K ds vs
  | _, _ => false
end
theorem and2 {a b : Bool} (h : (a && b) = true) : a = true ∧ b = true := by simpa using h
mutual
theorem kD_ok {T : Tab} : ∀ {d : D} {v : Value}, kD T.K d v = true → ∃ x, RelV x v ∧ ∀ H, Is T H x d
  | .non, v, h => by
    cases v <;> first | (simp [kD] at h; done) | exact ⟨.non, rfl, fun _ => .non⟩
  | .bl b, v, h => by
    cases v <;> first | (simp [kD] at h; done) | skip
    rw [kD] at h
    have := eq_of_beq h
    subst this
    exact ⟨.bl b, rfl, fun _ => .bl b⟩
  | .int i, v, h => by
    cases v <;> first | (simp [kD] at h; done) | skip
    rw [kD] at h
    have := of_decide_eq_true h
    subst this
    exact ⟨.int i, ⟨_, rfl⟩, fun _ => .int i⟩
  | .str i, v, h => by
    cases v <;> first | (simp [kD] at h; done) | skip
    rw [kD] at h
    have := of_decide_eq_true h
    subst this
    exact ⟨.str i, ⟨_, rfl⟩, fun _ => .str i⟩
  | .tup ds, v, h => by
    cases v <;> first | (simp [kD] at h; done) | skip
    rename_i a
    rw [kD] at h
    split at h <;> try cases h
    rename_i c od its n sl e
    obtain ⟨h1, h2⟩ := and2 h
    obtain ⟨h3, h4⟩ := and2 h2
    obtain ⟨xs, r, hi⟩ := kDs_ok h4
    have hc : c = "tuple" := of_decide_eq_true h1
    subst hc
    exact ⟨.ref a, rfl, fun H => .tup (.inr ⟨_, its, n, e, rfl, rfl, of_decide_eq_true h3, r⟩) (hi H)⟩
  | .lst _, v, h => by cases v <;> simp [kD] at h
  | .obj _ _, v, h => by cases v <;> simp [kD] at h
  | .scr _, v, h => by cases v <;> simp [kD] at h
  | .dct _ _, v, h => by cases v <;> simp [kD] at h
theorem kDs_ok {T : Tab} : ∀ {ds : List D} {vs : List Value}, kDs T.K ds vs = true → ∃ xs, Vals xs vs ∧ ∀ H, Iss T H xs ds
  | [], [], _ => ⟨[], .nil, fun _ => .nil⟩
  | [], _ :: _, h => by simp [kDs] at h
  | _ :: _, [], h => by simp [kDs] at h
  | d :: ds, v :: vs, h => by
    rw [kDs] at h
    obtain ⟨h1, h2⟩ := and2 h
    obtain ⟨x, r1, i1⟩ := kD_ok h1
    obtain ⟨xs, r2, i2⟩ := kDs_ok h2
    exact ⟨x :: xs, .cons r1 r2, fun H => .cons (i1 H) (i2 H)⟩
end
section
variable {X : Cx} {T : Tab} {W : WX} {x : Str} {pos : Pos}
end
end EV
namespace EV
open PySem L2
end EV
namespace EV
open PySem L2
section
variable {K : PySem.W.Frag} {x qual : Str} {params : Arguments} {body : List Stmt} {scope : Scope} {f : Addr} {fd : FuncData} {ps ks : List Str} {n : Nat} {perm : List Nat} {dvs : List V} {kws : List (Str × V)}
end
end EV
namespace EV
open PySem L2
section
variable {X : Cx} {T : Tab} {W : WX} {e : Expr} {f : FE} {pos : Pos}
end
end EV
end

section
set_option maxHeartbeats 4000000
/-! EV14: reasoning about the pure functions. -/
namespace EV
open PySem L2

abbrev Ev (f : FE) (ρ : Env) (d : D) : Prop := f ρ = some (.ok d)
abbrev EvL (f : FL) (ρ : Env) (ds : List D) : Prop := f ρ = some (.ok ds)
section
variable {f fa fb fc : FE} {fs fr fk : FL} {ρ : Env} {i j : Int} {P Q : Prop} {d d' p q : D} {ds es : List D}
theorem Ev.c : Ev (vC d) ρ d := rfl
theorem Ev.v2 {o : D → D → Option D} (ha : Ev fa ρ p) (hb : Ev fb ρ q) (h : o p q = some d) : Ev (v2 o fa fb) ρ d := by
  unfold Ev EV.v2; rw [ha, hb]; simp [h]
theorem Ev.sub (ha : Ev fa ρ (.int i)) (hb : Ev fb ρ (.int j)) : Ev (EV.v2 subD fa fb) ρ (.int (i - j)) := .v2 ha hb rfl
theorem Ev.mod (ha : Ev fa ρ (.int i)) (hb : Ev fb ρ (.int j)) (h : 0 < j) : Ev (EV.v2 modD fa fb) ρ (.int (i % j)) := .v2 ha hb (if_pos h)
theorem Ev.lt (ha : Ev fa ρ (.int i)) (hb : Ev fb ρ (.int j)) : Ev (EV.v2 ltD fa fb) ρ (.bl (decide (i < j))) := .v2 ha hb rfl
theorem Ev.gt (ha : Ev fa ρ (.int i)) (hb : Ev fb ρ (.int j)) : Ev (EV.v2 gtD fa fb) ρ (.bl (decide (j < i))) := .v2 ha hb rfl
theorem Ev.ne (ha : Ev fa ρ p) (hb : Ev fb ρ q) (hp : D.pl 8 p = true) (hq : D.pl 8 q = true) : Ev (EV.v2 neD fa fb) ρ (.bl (!D.eqv p q)) := .v2 ha hb (by simp [neD, hp, hq])
/-! arguments -/
theorem EvL.nil : EvL aNil ρ [] := rfl
theorem EvL.cons (ha : Ev fa ρ d) (hr : EvL fr ρ ds) : EvL (aCons fa fr) ρ (d :: ds) := by
  unfold EvL aCons; rw [ha, hr]; rfl
theorem Ev.tup (h : EvL fs ρ ds) (hl : ds.length ≤ 100000) : Ev (vTup fs) ρ (.tup ds) := by
  unfold Ev vTup; rw [h]; simp [tupD, hl]
theorem Ev.call {o : List D → Option D} (h : EvL fs ρ ds) (e : o ds = some d) : Ev (vCall o fs) ρ d := by
  unfold Ev vCall; rw [h]; simp [e, RL1]
theorem EvL.call {o : List D → Option (List D)} (h : EvL fs ρ ds) (e : o ds = some es) : EvL (nCall o fs) ρ es := by
  unfold EvL nCall; rw [h]; simp [e, RLL]
theorem EvL.seqT (h : Ev f ρ (.tup ds)) : EvL (iSeq f) ρ ds := by unfold EvL iSeq; rw [h]; rfl
end

/-! ### statements -/
def Run (g : FS) (ρ : Env) (Q : Out → Prop) : Prop := ∃ o, g ρ = some o ∧ Q o
section
variable {g g1 g2 : FS} {f fa fb fc fkx : FE} {fl : FL} {ρ ρ' : Env} {Q : Out → Prop} {d : D} {ds : List D} {i : Nat} {P : Prop}
def After (g2 : FS) (Q : Out → Prop) : Out → Prop
  | .nx ρ' => Run g2 ρ' Q
  | o => Q o
theorem Run.mono {Q' : Out → Prop} (h : Run g ρ Q) (w : ∀ o, Q o → Q' o) : Run g ρ Q' := let ⟨o, e, q⟩ := h; ⟨o, e, w o q⟩
theorem Run.seq (h : Run g1 ρ (After g2 Q)) : Run (gSeq g1 g2) ρ Q := by
  obtain ⟨o, e, q⟩ := h
  cases o with
  | nx ρ' =>
    obtain ⟨o2, e2, q2⟩ := q
    exact ⟨o2, by unfold gSeq; rw [e]; exact e2, q2⟩
  | rt d => exact ⟨_, by unfold gSeq; rw [e], q⟩
  | bk d => exact ⟨_, by unfold gSeq; rw [e], q⟩
  | ct d => exact ⟨_, by unfold gSeq; rw [e], q⟩
  | rs d _ => exact ⟨_, by unfold gSeq; rw [e], q⟩
  | rl d => exact ⟨_, by unfold gSeq; rw [e], q⟩
theorem Run.next (h : Q (.nx ρ)) : Run gNext ρ Q := ⟨_, rfl, h⟩
theorem Run.brk (h : Q (.bk ρ)) : Run gBrk ρ Q := ⟨_, rfl, h⟩
theorem Run.set (e : Ev f ρ d) (h : Q (.nx (ρ.set i (.v d)))) : Run (gSet i f) ρ Q := ⟨_, by unfold gSet; rw [e]; rfl, h⟩
theorem Run.own (e : EvL fl ρ ds) (hi : i < ρ.length) (h : Q (.nx (ρ.set i (.own ds)))) : Run (gOwn i fl) ρ Q := ⟨_, by unfold gOwn; rw [e]; simp only [RSL, EV.setOwn, hi, if_true], h⟩
theorem Run.drop (e : Ev f ρ d) (h : Q (.nx ρ)) : Run (gDrop f) ρ Q := ⟨_, by unfold gDrop; rw [e]; rfl, h⟩
theorem Run.ret (e : Ev f ρ d) (h : Q (.rt d)) : Run (gRet f) ρ Q := ⟨_, by unfold gRet; rw [e]; rfl, h⟩
/-- what a turn may end with -/
def Turn' (I : Env → Prop) (Q : Out → Prop) : Out → Prop
  | .nx ρ => I ρ
  | .ct ρ => I ρ
  | .bk ρ => Q (.nx ρ)
  | o => Q o
theorem loop_run {fg : FG} {b : FS} (I : Nat → Env → Prop) : ∀ (ds : List D) (n : Nat) (ρ : Env), I n ρ →
    (∀ k d ρ, ds[k]? = some d → I (n + k) ρ → ∃ ρ1, fg d ρ = some ρ1 ∧ Run b ρ1 (Turn' (I (n + k + 1)) Q)) → (∀ ρ, I (n + ds.length) ρ → Q (.nx ρ)) → ∃ o, loopF fg b ds ρ = some o ∧ Q o
  | [], n, ρ, h0, _, hq => ⟨_, rfl, hq ρ h0⟩
  | d :: ds, n, ρ, h0, st, hq => by
    obtain ⟨ρ1, e1, o, e2, q⟩ := st 0 d ρ rfl h0
    have rest : ∀ ρ2, I (n + 1) ρ2 → ∃ o, loopF fg b ds ρ2 = some o ∧ Q o := fun ρ2 h2 => loop_run I ds (n + 1) ρ2 h2 (fun k d ρ hd hI => by
      have := st (k + 1) d ρ (by simpa using hd) (by rw [show n + (k + 1) = n + 1 + k by omega]; exact hI)
      rw [show n + (k + 1) + 1 = n + 1 + k + 1 by omega] at this
      exact this) (fun ρ h => hq ρ (by rw [List.length_cons, show n + (ds.length + 1) = n + 1 + ds.length by omega]; exact h))
    cases o with
    | nx ρ2 =>
      obtain ⟨o, e, q⟩ := rest ρ2 q
      exact ⟨o, by rw [loopF, e1]; simp only [e2]; exact e, q⟩
    | ct ρ2 =>
      obtain ⟨o, e, q⟩ := rest ρ2 q
      exact ⟨o, by rw [loopF, e1]; simp only [e2]; exact e, q⟩
    | bk ρ2 => exact ⟨_, by rw [loopF, e1]; simp only [e2], q⟩
    | rt d2 => exact ⟨_, by rw [loopF, e1]; simp only [e2], q⟩
    | rs x ρ2 => exact ⟨_, by rw [loopF, e1]; simp only [e2], q⟩
    | rl d2 => exact ⟨_, by rw [loopF, e1]; simp only [e2], q⟩
theorem Run.for {fg : FG} {b : FS} (I : Nat → Env → Prop) (e : EvL fl ρ ds) (h0 : I 0 ρ) (st : ∀ k d ρ, ds[k]? = some d → I k ρ → ∃ ρ1, fg d ρ = some ρ1 ∧ Run b ρ1 (Turn' (I (k + 1)) Q)) (hq : ∀ ρ, I ds.length ρ → Q (.nx ρ)) : Run (gFor fl fg b) ρ Q := by
  obtain ⟨o, e2, q⟩ := loop_run (fg := fg) (b := b) (Q := Q) I ds 0 ρ h0 (fun k d ρ hd hI => by
    rw [Nat.zero_add] at hI ⊢
    exact st k d ρ hd hI) (fun ρ h => hq ρ (by rw [Nat.zero_add] at h; exact h))
  exact ⟨o, by unfold gFor; rw [e]; exact e2, q⟩
end
/-! ### comprehensions -/
theorem lcF_of {α : Type} {fg : FG} {ft fe : FE} {ρ : Env} (A : α → D) (o : α → Option D) : ∀ (xs : List α), (∀ x ∈ xs, itemF fg ft fe ρ (A x) = some (o x)) → lcF fg ft fe ρ (xs.map A) = some (xs.filterMap o)
  | [], _ => rfl
  | x :: xs, h => by
    rw [List.map_cons, lcF, h x List.mem_cons_self]
    simp only []
    rw [lcF_of A o xs fun y hy => h y (List.mem_cons_of_mem _ hy)]
    cases e : o x with
    | none => simp [List.filterMap_cons, e]
    | some d => simp [List.filterMap_cons, e]
theorem EvL.lc {α : Type} {fi : FL} {fg : FG} {ft fe : FE} {vs : List Nat} {ρ : Env} (xs : List α) (A : α → D) (o : α → Option D) (hi : EvL fi ρ (xs.map A)) (hl : xs.length ≤ 90000) (h : ∀ x ∈ xs, itemF fg ft fe (wipeE ρ vs) (A x) = some (o x)) : EvL (nLc fi fg ft fe vs) ρ (xs.filterMap o) := by
  unfold EvL nLc
  rw [hi]
  simp only [RLL, List.length_map, hl, if_true, lcF_of A o xs h, Option.map]
def at_ {α : Type} [Inhabited α] (xs : List α) (i : Int) : α := xs.getD i.toNat default
end EV
end

section
set_option maxHeartbeats 4000000
/-! EV16: own classes: isinstance, ==, in, properties. -/
namespace EV
open PySem L2

/-- what the checks say of an own class -/
structure OwnC (T : TabC) (ci : Nat) : Prop where
  cls : Cls T.K (T.cls ci)
  ha : PySem.W.findIn T.K (.ref (T.cls ci)) "__class__" = some (some (.builtin "object.__class__"))
  hn : PySem.W.specialIn T.K (.builtin "object.__class__") "__get__" = some (some (.builtin "getset_descriptor.__get__"))
  htk : PySem.W.takesIn T.K (.builtin "object.__class__") = some true
  hm : PySem.W.mroIn T.K (T.cls ci) (.type "object") = some true
theorem OwnC.ty {T : Tab} {ci : Nat} {H : Hp} {v : V} {ds : List D} (o : OwnC T ci) (h : Is T H v (.obj ci ds)) : TyX T.K H v (.ref (T.cls ci)) := by
  cases h with
  | obj h hl hs => exact .base (.ins h o.cls o.ha o.hn o.htk o.hm)
section
variable {X : Cx} {T : Tab} {W : WX} {k n ci : Nat} {f C : Addr} {fd : FuncData} {ps : List Str} {sp : Sp} {x m : Str} {p q pos apos : Pos} {e a b o : Expr} {sem : List D → Option R} {fa fb fo : FE} {perm : List Nat}
/-! ### a == b, a an instance -/
/-- other instances have classes that are not below C -/
structure EqI (T : TabC) (ci : Nat) (cs : List Nat) (f : Addr) : Prop where
  m : Meth T.K (T.cls ci) "__eq__" f
  o : ∀ c ∈ cs, OwnC T c ∧ PySem.W.notFirst T.K (T.cls ci) (.ref (T.cls c)) = true
  p : ∀ t : Ty, PySem.W.notFirst T.K (T.cls ci) (.type t.nm) = true
def tyOk (cs : List Nat) (d : D) : Bool := match d with
  | .obj c _ => cs.contains c
  | d => d.ty.isSome
theorem EqI.ty {cs : List Nat} (E : EqI T ci cs f) {H : Hp} {v : V} {d : D} (h : Is T H v d) (e : tyOk cs d = true) : ∃ tb, TyX T.K H v tb ∧ PySem.W.notFirst T.K (T.cls ci) tb = true := by
  cases d with
  | obj c xs =>
    obtain ⟨o1, o2⟩ := E.o c (List.contains_iff_mem.mp e)
    exact ⟨_, o1.ty h, o2⟩
  | scr ns => exact ⟨_, ty_of (t := .lst) h rfl, E.p .lst⟩
  | non => exact ⟨_, ty_of (t := .non) h rfl, E.p .non⟩
  | bl b => exact ⟨_, ty_of (t := .bl) h rfl, E.p .bl⟩
  | int b => exact ⟨_, ty_of (t := .int) h rfl, E.p .int⟩
  | str b => exact ⟨_, ty_of (t := .str) h rfl, E.p .str⟩
  | tup b => exact ⟨_, ty_of (t := .tup) h rfl, E.p .tup⟩
  | lst b => exact ⟨_, ty_of (t := .lst) h rfl, E.p .lst⟩
  | dct ks b => cases e
end
end EV
end

section
set_option maxHeartbeats 4000000
/-! EV17: what is looked at of own classes in the module as it stands. -/
namespace EV
open PySem L2

/-- the getter of a property -/
def getAd (K : PySem.W.Frag) (C : Addr) (f : Str) : Addr := match PySem.W.recIn K (He.ma K C f) "property" with
  | some (.ref g :: _) => g
  | _ => 0
def fnWA (K : PySem.W.Frag) (a : Addr) : He.FnW := match K.lookup a with
  | some ⟨_, _, .func fd, _⟩ => some (fd.name, fd.qualname, fd.params, fd.body, fd.scope, fd.globals, fd.closure, fd.builtins)
  | _ => none
def okA (K : PySem.W.Frag) (a : Addr) (d : He.DefD) : Bool := PySem.W.keepIn K (.ref a) && (match K.lookup a with
  | some ⟨_, _, .func fd, _⟩ => PySem.W.codeIn K fd.code d.qual && (He.dflB K fd.defaults (d.dvs K) && He.kwdB K fd.kwdefaults (d.kws K))
  | _ => false)
theorem funA {K : PySem.W.Frag} {a : Addr} {d : He.DefD} (e : fnWA K a = d.val) (c : okA K a d = true) : ∃ fd, FunD K d.name d.qual d.params d.body d.scope (d.dvs K) (d.kws K) a fd := by
  obtain ⟨kp, c2⟩ := He.ba c
  unfold fnWA at e
  cases q : K.lookup a with
  | none =>
    rw [q] at c2
    cases c2
  | some o =>
    obtain ⟨oc, od, dt, osl⟩ := o
    rw [q] at c2 e
    cases dt with
    | func fd =>
      obtain ⟨n1, n2, n3, n4, n5, n6, n7, n8, n9, n10, n11, n12, n13, n14, n15⟩ := fd
      have e2 : (some (n1, n2, n3, n4, n5, n6, n7, n15) : He.FnW) = some (d.name, d.qual, d.params, .stmts d.body, d.scope, mainGlobals, [], builtinsNs) := e
      simp only [Option.some.injEq, Prod.mk.injEq] at e2
      obtain ⟨h1, h2, h3, h4, h5, h6, h7, h8⟩ := e2
      subst h1 h2 h3 h4 h5 h6 h7 h8
      have c3 : (PySem.W.codeIn K n13 d.qual && (He.dflB K n8 (d.dvs K) && He.kwdB K n9 (d.kws K))) = true := c2
      obtain ⟨k1, k2⟩ := He.ba c3
      obtain ⟨k3, k4⟩ := He.ba k2
      exact ⟨_, ⟨oc, od, n8, n9, n10, n11, n12, n13, n14, osl, rfl, q, k1, He.dflB_ok k3, He.kwdB_ok k4⟩, kp⟩
    | _ => cases c2
def propB (K : PySem.W.Frag) (C : Addr) (f : Str) : Bool := He.eqO (PySem.W.findIn K (.ref C) f) (some (some (.ref (He.ma K C f)))) && (He.eqO (PySem.W.specialIn K (.ref (He.ma K C f)) "__get__") (some (some (.builtin "property.__get__"))) &&
  (decide (PySem.W.takesIn K (.ref (He.ma K C f)) = some true) && (match PySem.W.recIn K (He.ma K C f) "property" with
  | some (.ref _ :: _) => true
  | _ => false)))
end EV
end

section
set_option maxHeartbeats 4000000
/-! EV20: try .. except C as e: the suite, isinstance(e, ..), e.f. -/
namespace EV
open PySem L2 PyProof.Rows

/-- what isinstance asks of an own error's class -/
structure ExK (K : PySem.W.Frag) (C : Addr) : Prop where
  cl : (PySem.W.clsIn K C).isSome = true
  ga : PySem.W.findIn K (.ref C) "__getattribute__" = some (some (.builtin "BaseException.__getattribute__"))
  gg : PySem.W.findIn K (.ref C) "__getattr__" = some none
  hs : PySem.W.subIn K (.ref C) (.type "BaseException") = some true
  ha : PySem.W.findIn K (.ref C) "__class__" = some (some (.builtin "object.__class__"))
  hn : PySem.W.specialIn K (.builtin "object.__class__") "__get__" = some (some (.builtin "getset_descriptor.__get__"))
  ht : PySem.W.takesIn K (.builtin "object.__class__") = some true
  hm : PySem.W.mroIn K C (.type "object") = some true
  hd : PySem.W.hasDictIn K C = true
/-! ### the frame at a suite's ends -/
section
variable {T T2 : Tab} {ρ : Env} {σ : L2.St} {S H S' H' : Hp} {L : Nat → Option Addr}
end

/-! ### try: body, except C as e: suite -/
section
variable {X : Cx} {T : Tab} {W : WX} {g g1 g2 : FS} {e a b c : Expr} {es : List Expr} {f fa fb fc : FE} {pos pos' np : Pos} {body suite : List Stmt} {b₀ : Stmt}
variable {S H : Hp} {σ : L2.St} {ρ : Env} {L : Nat → Option Addr} {Dn : Ends} {o : Out} {i ci k : Nat} {x n y : Str} {p q : Pos}
/-! ### isinstance(e, ..), e the suite's exception -/
/-- classes as values, each with the numbers of the errors below it -/
inductive PCl (X : Cx) : List Expr → List V → List Value → List (List Nat) → Prop where
  | nil : PCl X [] [] [] []
  | own {y : Str} {q : Pos} {C : Addr} {ys : List Nat} {es : List Expr} {cs : List V} {us : List Value} {yss : List (List Nat)} (hg : Gl X y) (hd : (y == ("__debug__" : Str)) = false) (hm : X.mg y = some (.ref C)) (h : PCl X es cs us yss)
      (hs : starEach (.Name y q :: es) X.env = (false, eval (.Name y q) X.env) :: starEach es X.env) : PCl X (.Name y q :: es) (.ref C :: cs) (.ref C :: us) (ys :: yss)
  | ty {y : Str} {q : Pos} {t : String} {ys : List Nat} {es : List Expr} {cs : List V} {us : List Value} {yss : List (List Nat)} (hg : Gl X y) (hd : (y == ("__debug__" : Str)) = false) (hn : y ≠ "__name__") (hm : X.mg y = none) (hv : bootBuiltins y = some (.type t)) (h : PCl X es cs us yss)
      (hs : starEach (.Name y q :: es) X.env = (false, eval (.Name y q) X.env) :: starEach es X.env) : PCl X (.Name y q :: es) (.ty t :: cs) (.type t :: us) (ys :: yss)
theorem PCl.cl {es : List Expr} {cs : List V} {us : List Value} {yss : List (List Nat)} (h : PCl X es cs us yss) : Paired ClsV cs us := by
  induction h with
  | nil => exact .nil
  | own _ _ _ _ _ ih => exact .cons (.own _) ih
  | ty _ _ _ _ _ _ _ ih => exact .cons (.ty _) ih
end
end EV
end

section
set_option maxHeartbeats 4000000
/-! EV25: dicts whose keys are tuples of ints: in, not in, new ones, d[k] = v at a new key. -/
namespace EV
open PySem L2 PyProof.Rows
/-! ### keys by code -/
def tagT (ks : List (List Int)) : Bool := ks.all fun c => c.head? == some 0
theorem KAt.t {K : PySem.W.Frag} {H : Hp} {ks : List (List Int)} {bs : List Addr} (ht : tagT ks = true) (h : KAt K H ks bs) : KT K H ks bs := h.resolve_right fun z => by
  obtain ⟨hn, hc⟩ := z
  cases ks with
  | nil => exact hn rfl
  | cons c ks =>
    obtain ⟨j, rfl⟩ := hc c List.mem_cons_self
    unfold tagT at ht
    rw [List.all_cons, Bool.and_eq_true] at ht
    have := ht.1
    simp at this
section
variable {X : Cx} {pins : List (Addr × Obj)} {σ : L2.St} {H : Hp} {s : Shared} {a b : Addr} {k : List Int} {ks : List (List Int)} {bs : List Addr} {vs : List V} {n : Nat}
section
variable {P : Program} {w : World} {K : Type} [DecidableEq K] {knd : HeapKind P w K} {A : Around} {E : Value → Shared → Prop} {s : Shared}
end
end
section
variable {X : Cx} {T : Tab} {W : WX} {st : Stmt} {g : FS} {e a b c : Expr} {f fa fb fk fv : FE} {pos p p1 p2 : Pos} {n i : Nat} {x : Str}
variable {S H S' H' : Hp} {σ : L2.St} {ρ : Env} {L : Nat → Option Addr} {Dn : Ends} {o : Out}
theorem KAt.nil {K : PySem.W.Frag} {H : Hp} : KAt K H [] [] := .inl ⟨rfl, fun i k b h _ => by simp at h⟩
end
end EV
end

section
set_option maxHeartbeats 4000000
/-! EV32: != of instances whose class has an __eq__ of its own and no __ne__; a & b, a | b of instances of one class. -/
namespace PySem
open PySem.W PyProof.Rows
section
variable {prog : Program} {w : World} {A : Around} {E : Value → Shared → Prop} {s : Shared} {K : PySem.W.Frag} {x C L f : Addr} {h₀ : Heap} {m : Str → Option Value} {ox : Obj} {od : Option Obj} {b tb : Value}
end
end PySem
namespace EV
open PySem L2
section
variable {X : Cx} {T : Tab} {W : WX} {k n ci : Nat} {f C : Addr} {fd : FuncData} {ps : List Str} {sp : Sp} {x m : Str} {p q pos apos : Pos} {e a b o : Expr} {sem : List D → Option R} {fa fb fo : FE} {perm : List Nat}
/-! ### a != b -/
structure NeI (T : TabC) (ci : Nat) (cs : List Nat) (f : Addr) : Prop where
  e : EqI T ci cs f
  n : PySem.W.findIn T.K (.ref (T.cls ci)) "__ne__" = some (some (.builtin "object.__ne__"))
  o : PySem.W.mroIn T.K (T.cls ci) (.type "object") = some true
/-! ### a & b, a | b of two instances of one class -/
structure AndI (T : TabC) (ci : Nat) (op : Operator) (f : Addr) : Prop where
  m : Meth T.K (T.cls ci) (PySem.dunder op.info.2) f
  o : OwnC T ci
  s : PySem.W.selfFirst T.K (T.cls ci) = true
end
end EV
end

section
set_option maxHeartbeats 4000000
/-! EV40: dicts whose keys are tuples of ints: d[k], len(d), for k in d. -/
namespace EV
open PySem L2 PyProof.Rows
def getT {α : Type} : List (List Int) → List α → List Int → Option α
  | c :: ks, x :: xs, k => if c = 0 :: k then some x else getT ks xs k
  | _, _, _ => none
section
variable {X : Cx} {T : Tab} {W : WX} {e a b o i tg : Expr} {f fa fb : FE} {pos p : Pos} {n : Nat} {td ty : TE} {x : Str}
end
end EV
end

section
set_option maxHeartbeats 4000000
/-! EV51: a generator's body as a partial function: what is out so far, and the frame. -/
namespace EV
open PySem L2
abbrev GFS := List D → Env → Option (List D × Out)
section
variable {X : Cx} {T : Tab} {W : WX} {st : Stmt} {rest body els : List Stmt} {g : FS} {gg g1 g2 : GFS} {e c : Expr} {f fc : FE} {pos yp : Pos} {fg : FG} {is : List Nat}
variable {S H : Hp} {σ : L2.St} {ρ : Env} {L : Nat → Option Addr} {Dn : GEnds} {yd : List D} {r : List D × Out}
def GSEnd (T : Tab) (W : WX) (Dn : GEnds) (S H : Hp) (L : Nat → Option Addr) : List D × Out → Prop
  | (yd, .nx ρ) => ∀ ys σ' S' H' L', Rep T ρ σ' S' H' L' → Stp S H L S' H' L' → Iss T S' ys yd → Dn.nx ys σ' H'
  | (yd, .bk ρ) => ∀ ys σ' S' H' L', Rep T ρ σ' S' H' L' → Stp S H L S' H' L' → Iss T S' ys yd → Dn.bk ys σ' H'
  | (yd, .ct ρ) => ∀ ys σ' S' H' L', Rep T ρ σ' S' H' L' → Stp S H L S' H' L' → Iss T S' ys yd → Dn.ct ys σ' H'
  | (_, .rs x ρ) => ∀ σ' S' H' L' cls d, Rep T ρ σ' S' H' L' → Stp S H L S' H' L' → XIs T S' x cls d → W cls d σ' H'
  | (_, .rt _) => False
  | (_, .rl _) => False
theorem GSEnd.mono {S1 H1 : Hp} {L1 : Nat → Option Addr} (k : Stp S H L S1 H1 L1) (h : GSEnd T W Dn S H L r) : GSEnd T W Dn S1 H1 L1 r := by
  obtain ⟨yd, o⟩ := r
  cases o with
  | nx ρ => exact fun ys σ' S' H' L' r s i => h ys σ' S' H' L' r (k.trans s) i
  | bk ρ => exact fun ys σ' S' H' L' r s i => h ys σ' S' H' L' r (k.trans s) i
  | ct ρ => exact fun ys σ' S' H' L' r s i => h ys σ' S' H' L' r (k.trans s) i
  | rs x ρ => exact fun σ' S' H' L' cls d r s i => h σ' S' H' L' cls d r (k.trans s) i
  | rt d => exact h
  | rl ds => exact h
end
end EV
end

section
set_option maxHeartbeats 4000000
/-! EV53: a def f(a, .., *v): called by place, or with its one parameter by name. -/
namespace EV
open PySem L2 PyProof.Rows
theorem FEnd.mono {T : TabC} {S H S' H' : Hp} {Q : VK} {E : XK} {r : R} (k : Kp S H S' H') (h : FEnd T S H Q E r) : FEnd T S' H' Q E r := by
  cases r with
  | ok d => exact fun v S2 H2 k2 i => h v S2 H2 (k.trans k2) i
  | ex x => exact fun S2 H2 cls d k2 i => h S2 H2 cls d (k.trans k2) i
theorem Iss.split {T : TabC} {S : Hp} : ∀ {vs : List V} {ds : List D} (_ : Iss T S vs ds) (n : Nat), Iss T S (vs.take n) (ds.take n) ∧ Iss T S (vs.drop n) (ds.drop n)
  | _, _, .nil, n => by rw [List.take_nil, List.take_nil, List.drop_nil, List.drop_nil]; exact ⟨.nil, .nil⟩
  | _, _, .cons i is, 0 => ⟨.nil, .cons i is⟩
  | _, _, .cons i is, n + 1 => ⟨.cons i (Iss.split is n).1, (Iss.split is n).2⟩
section
variable {P : Program} {w : World} {K : PySem.W.Frag} {mg : Str → Option Value} {base : Heap} {x qual : Str} {params : Arguments} {body : List Stmt} {scope : Scope} {dvs : List V} {kws : List (Str × V)} {f : Addr} {fd : FuncData} {N ps : List Str} {k : Nat} {T : Tab} {g : FS} {p1 pv : Str}
end
section
variable {X : Cx} {T : Tab} {W : WX} {k : Nat} {f : Addr} {x p1 : Str} {p pos kpos : Pos} {e : Expr} {es : List Expr} {sem : List D → Option R} {fs : FL} {fe : FE}
end
end EV
end

section
set_option maxHeartbeats 4000000
/-! EV56: generators that sleep are not touched: what runs where each of them would be stuck if it were woken, runs, and leaves them as they are. -/
namespace EV
open PySem
open Sem (wp)
/-- asleep -/
def Susp (x : GenState) : Prop := ∃ k l c p fs cl, x = .suspended k l c p fs cl
/-- one that seems to sleep but can not be woken -/
def dull : GenState → GenState
  | .suspended _ l c p fs cl => .suspended (fun _ => .unsupported "") l c p fs cl
  | x => x
def PlainG : GenState → Prop
  | .suspended _ _ _ _ fs _ => splitAtGen fs = none
  | _ => True
def PlainE : End → Prop
  | .susp _ _ _ _ _ _ fs => splitAtGen fs = none
  | .ret _ => True
/-- a: as it is; b: the sleepers of z are dull in it -/
structure Dim (z a b : Array GenState) : Prop where
  size : a.size = b.size
  old : ∀ (i : Nat) (x : GenState), z[i]? = some x → Susp x → a[i]? = some x ∧ b[i]? = some (dull x)
  new : ∀ i : Nat, (∀ x : GenState, z[i]? = some x → ¬ Susp x) → a[i]? = b[i]? ∧ ∀ y : GenState, b[i]? = some y → PlainG y
theorem Dim.cases {z a b : Array GenState} (D : Dim z a b) (i : Nat) : (∃ x, z[i]? = some x ∧ Susp x ∧ a[i]? = some x ∧ b[i]? = some (dull x)) ∨ ((∀ x, z[i]? = some x → ¬ Susp x) ∧ a[i]? = b[i]? ∧ ∀ y, b[i]? = some y → PlainG y) := by
  by_cases h : ∃ x, z[i]? = some x ∧ Susp x
  · obtain ⟨x, h1, h2⟩ := h
    exact .inl ⟨x, h1, h2, D.old i x h1 h2⟩
  · have h' : ∀ x, z[i]? = some x → ¬ Susp x := fun x h1 h2 => h ⟨x, h1, h2⟩
    exact .inr ⟨h', D.new i h'⟩
theorem PlainE.gs {e : End} (h : PlainE e) : PlainG e.genState := by cases e <;> exact h
theorem Susp.seen {x : GenState} (h : Susp x) : (dull x).seen = x.seen := by
  obtain ⟨k, l, c, p, fs, cl, rfl⟩ := h; rfl
theorem Dim.gen {z a b : Array GenState} (D : Dim z a b) {i : Nat} {st : GenState} (h : b[i]? = some st) : ∃ st', a[i]? = some st' ∧ st'.seen = st.seen := by
  rcases D.cases i with ⟨x, _, s, e1, e2⟩ | ⟨_, e, _⟩
  · rw [e2] at h; cases h
    exact ⟨x, e1, s.seen.symm⟩
  · exact ⟨st, e.trans h, rfl⟩
theorem get_set {a : Array GenState} {g i : Nat} {x : GenState} : (a.setIfInBounds g x)[i]? = if g = i then (if g < a.size then some x else none) else a[i]? := by
  rw [Array.getElem?_setIfInBounds]
theorem Dim.set {z a b : Array GenState} (D : Dim z a b) {g : Nat} {x : GenState} (hg : ∀ y, z[g]? = some y → ¬ Susp y) (hx : PlainG x) : Dim z (a.setIfInBounds g x) (b.setIfInBounds g x) where
  size := by simp [D.size]
  old := fun i y h1 h2 => by
    have ne : g ≠ i := fun e => hg y (e ▸ h1) h2
    rw [get_set, get_set, if_neg ne, if_neg ne]
    exact D.old i y h1 h2
  new := fun i h => by
    rw [get_set, get_set, D.size]
    by_cases e : g = i
    · rw [if_pos e, if_pos e]
      refine ⟨rfl, fun y hy => ?_⟩
      split at hy <;> cases hy
      exact hx
    · rw [if_neg e, if_neg e]
      exact D.new i h
theorem Dim.push {z a b : Array GenState} (D : Dim z a b) {x : GenState} (hz : z.size ≤ b.size) (hx : PlainG x) : Dim z (a.push x) (b.push x) where
  size := by simp [D.size]
  old := fun i y h1 h2 => by
    obtain ⟨e1, e2⟩ := D.old i y h1 h2
    have l1 := (Array.getElem?_eq_some_iff.mp e1).1
    have l2 := (Array.getElem?_eq_some_iff.mp e2).1
    rw [Array.getElem?_push, Array.getElem?_push, if_neg (by omega), if_neg (by omega)]
    exact ⟨e1, e2⟩
  new := fun i h => by
    rw [Array.getElem?_push, Array.getElem?_push, D.size]
    by_cases e : i = b.size
    · rw [if_pos e, if_pos e]
      exact ⟨rfl, fun y hy => by cases hy; exact hx⟩
    · rw [if_neg e, if_neg e]
      exact D.new i h
section
variable {M : Model}
/-- every sleeper stands as it stood -/
def Kept (z a : Array GenState) : Prop := ∀ (i : Nat) (x : GenState), z[i]? = some x → Susp x → a[i]? = some x
theorem Kept.refl (z : Array GenState) : Kept z z := fun _ _ h _ => h
theorem Kept.trans {a b c : Array GenState} (h : Kept a b) (h' : Kept b c) : Kept a c := fun i x h1 h2 => h' i x (h i x h1 h2) h2
theorem Dim.bare {z a b : Array GenState} (D : Dim z a b) (hz : PyProof.Rows.AllBare z) (hb : PyProof.Rows.AllBare b) : PyProof.Rows.AllBare a := fun x hx => by
  obtain ⟨i, hi, e⟩ := Array.mem_iff_getElem.mp hx
  have e1 : a[i]? = some x := by rw [Array.getElem?_eq_getElem hi, e]
  rcases D.cases i with ⟨y, h1, _, e2, _⟩ | ⟨_, e2, _⟩
  · rw [e1] at e2; cases e2
    exact hz _ (Array.mem_of_getElem? h1)
  · rw [e1] at e2
    exact hb x (Array.mem_of_getElem? e2.symm)
end
end EV
end

section
set_option maxHeartbeats 4000000
/-! EV57: one stretch of a generator's run, from a wake to the next sleep. -/
namespace EV
open PySem
open Sem (wp)
def Sg (M : Model) (A : Around) (F : End → Shared → Prop) (c : Code) (t : Sem PySem.Fin) (fs : List PySem.Frame) (s : Shared) : Prop := ∀ Γ p, Γ.code = c → Γ.Woken A → ∃ e s', Runs M Γ p t fs s e s' ∧ F e s'
section
variable {M : Model} {A : Around} {F : End → Shared → Prop} {c : Code} {fs : List PySem.Frame} {s : Shared}
theorem Sg.mono {G : End → Shared → Prop} {t : Sem PySem.Fin} (h : Sg M A F c t fs s) (k : ∀ e s', F e s' → G e s') : Sg M A G c t fs s := fun Γ p h1 h2 => let ⟨e, s', r, q⟩ := h Γ p h1 h2; ⟨e, s', r, k e s' q⟩
section
variable {env : PySem.Env} {K : Flow → Sem PySem.Fin} {J : Value → Sem PySem.Fin} {gd : Bool → Bool} {lv : List Value → List Value}
/-- what a loop's call does with an exception that comes back -/
def back (env : PySem.Env) (x : Value) : Sem Unit := do
  if (← field x 1) == Value.none then unsupported "frame.own-activation:exception-without-traceback"
  setFlight x env.frame
end
end
section
variable {P : Program} {w : World} {A : Around} {F : End → Shared → Prop} {fs : List PySem.Frame} {s : Shared} {env : PySem.Env}
end
end EV
end

section
set_option maxHeartbeats 4000000
/-! EV58: what is gone never comes back. -/
namespace EV
open PySem
open Sem (wp)
structure Mono (h h' : Heap) : Prop where
  sz : h.objs.size ≤ h'.objs.size
  gone : ∀ b, b < h.objs.size → h.get? b = none → h'.get? b = none
theorem Mono.refl (h : Heap) : Mono h h := ⟨Nat.le_refl _, fun _ _ e => e⟩
theorem Mono.trans {a b c : Heap} (x : Mono a b) (y : Mono b c) : Mono a c := ⟨Nat.le_trans x.sz y.sz, fun i l e => y.gone i (Nat.lt_of_lt_of_le l x.sz) (x.gone i l e)⟩
theorem size_psh (h : Heap) (o : Obj) : (h.push o).objs.size = h.objs.size + 1 := by cases h; simp [Heap.push]
theorem Mono.push {h : Heap} {o : Obj} : Mono h (h.push o) := by
  refine ⟨by rw [size_psh]; omega, fun b l e => ?_⟩
  cases q : (h.push o).get? b with
  | none => rfl
  | some u =>
    obtain ⟨e1, e2⟩ := Heap.get?_some_iff.mp q
    have e3 : h.objs[b]? = some u := by
      cases h
      simp only [Heap.push] at e1 l
      rw [Array.getElem?_push, if_neg (Nat.ne_of_lt l)] at e1
      exact e1
    rw [Heap.get?_some_iff.mpr ⟨e3, e2⟩] at e
    cases e
section
variable {M : Model}
end
/-! ### the old part of a heap -/
def cutA (n : Nat) (h : Heap) : Heap := { h with objs := h.objs.extract 0 n }
theorem cutA_get {n : Nat} {h : Heap} {b : Nat} (hb : b < n) : (cutA n h).get? b = h.get? b := by
  unfold cutA Heap.get?
  have e : (h.objs.extract 0 n)[b]? = h.objs[b]? := by
    rw [Array.getElem?_extract]
    split
    · simp
    · rename_i q
      rw [Array.getElem?_eq_none (by omega)]
  rw [show ({ h with objs := h.objs.extract 0 n } : Heap).objs[b]? = (h.objs.extract 0 n)[b]? from rfl, e]
theorem cutA_size {n : Nat} {h : Heap} (hn : n ≤ h.objs.size) : (cutA n h).objs.size = n := by simp [cutA]; omega
theorem cutA_le {n : Nat} {h : Heap} : (cutA n h).objs.size ≤ n := by simp [cutA]; omega
theorem cutA_lt {n : Nat} {h : Heap} {b : Addr} {o : Obj} (e : (cutA n h).get? b = some o) : b < n ∧ h.get? b = some o := by
  have l : b < n := Nat.lt_of_lt_of_le (Heap.lt_size e) cutA_le
  exact ⟨l, (cutA_get l).symm.trans e⟩
def cutS (n : Nat) (s : Shared) : Shared := { s with heap := cutA n s.heap }
def cutH (n : Nat) (H : L2.Hp) : L2.Hp := fun b => if b < n then H b else none
theorem cutH_lt {n : Nat} {H : L2.Hp} {b : Addr} (h : b < n) : cutH n H b = H b := if_pos h
theorem cutH_some {n : Nat} {H : L2.Hp} {b : Addr} {o : L2.HO} (h : cutH n H b = some o) : b < n ∧ H b = some o := by
  unfold cutH at h
  split at h
  · exact ⟨by assumption, h⟩
  · cases h
end EV
end

section
set_option maxHeartbeats 4000000
/-! EV59: a generator's body: its contexts, one for each stretch; what a stretch keeps. -/
namespace EV
open PySem L2 PyProof.Rows
/-- what all stretches share; ga, g: the generator's object and number; lc: where its frame stands; rx: it begins with an exception -/
structure Fam where
  P : Program
  w : World
  K : PySem.W.Frag
  mg : Str → Option Value
  base : Heap
  N : List Str
  qual : Str
  scope : Scope
  f : Addr
  cd : Value
  A : Around
  outer : List PySem.Env
  lc : Nat
  ga : Addr
  g : Nat
  go : Obj
  rx : Bool
abbrev Fam.env (F : Fam) : PySem.Env := envOfC F.qual F.scope F.lc F.f F.cd
abbrev Fam.M (F : Fam) : Model := model F.P F.w
def Fam.X (F : Fam) (s : Shared) (H : Hp) (E : XK) : Cx where
  prog := F.P
  w := F.w
  K := F.K
  mg := F.mg
  base := F.base
  A := F.A.deeper F.env
  N := F.N
  s_0 := s
  H_0 := H
  env := F.env
  outer := F.outer
  stack := F.env :: F.outer
  ex := []
  calm := true
  fn := fun _ => true
  pn := [(F.ga, F.go)]
  xe := fun e s' => wpAny F.M (F.A.deeper F.env) (leaving F.env e) (fun _ s'' => L2N.CX F.P F.w F.outer H s E e s'' ∧ s''.heap.get? F.ga = some F.go) (fun _ _ => False) s'
/-- an object as it stands -/
def rawO (b : Addr) (o : Obj) : HO := .ext fun h => h.get? b = some o
theorem rawO_ok {P : Program} {w : World} {H : Hp} {h : Heap} {b : Addr} {o : Obj} (e : h.get? b = some o) : ObjOk P w H h b (rawO b o) := ⟨e, ⟨o, e⟩, fun _ _ q k => k o q⟩
theorem of_rawO {P : Program} {w : World} {H : Hp} {h : Heap} {b : Addr} {o : Obj} (x : ObjOk P w H h b (rawO b o)) : h.get? b = some o := x.1
/-- what a stretch began with: the state; what the generator tracks, what stands, its own lists; what its consumer tracks; the exceptions it may let out -/
structure Wk where
  s : Shared
  H : Hp
  S : Hp
  L : Nat → Option Addr
  Hc : Hp
  E : XK
/-- a stretch under way -/
structure GE (F : Fam) (q : Wk) (ip : List (Addr × Obj)) (σ : L2.St) (S H : Hp) (L : Nat → Option Addr) (s : Shared) : Prop where
  inv : Inv (F.X (cutS F.lc q.s) (cutH F.lc q.H) q.E) ip σ H s
  sb : EV.Sub S H
  stp : Stp q.S q.H q.L S H L
  hc : ∀ b o, q.Hc b = some o → q.H b = some o ∧ ∀ i, q.L i ≠ some b
  ho : ∀ b, q.H b ≠ none → q.Hc b = none → F.lc ≤ b
  sub : EV.Sub q.S q.Hc
  env : Env0 F.P F.w F.K F.mg F.base F.A F.outer q.s q.Hc
  sz : F.lc ≤ q.s.heap.objs.size
  lq : ∀ i b, q.L i = some b → F.lc ≤ b
  fst : q.H = q.Hc ∨ ∀ c d h, ¬ q.E c d h
/-- sl: what generators that sleep in a loop of this body hold; ip: the body's own iterators -/
structure GI (F : Fam) (q : Wk) (sl : Addr → Prop) (ip : List (Addr × Obj)) (σ : L2.St) (S H : Hp) (L : Nat → Option Addr) (s : Shared) : Prop extends GE F q ip σ S H L s where
  sleep : ∀ b, sl b → F.lc ≤ b ∧ q.Hc b = none ∧ S b = none ∧ (∃ o, H b = some (rawO b o)) ∧ ∀ i, L i ≠ some b
  mono : Mono q.s.heap s.heap
  young : ∀ p ∈ (F.ga, F.go) :: ip, F.lc ≤ p.1
/-- each list of its own is a list or a dict -/
structure Kin (S H : Hp) (L : Nat → Option Addr) : Prop where
  k : ∀ i b, L i = some b → (∃ vs, H b = some (.lst vs)) ∨ ∃ ks bs vs, H b = some (dctO b ks bs vs)
  h : ∀ i b, L i = some b → S b = none
/-- what is the generator's alone -/
def Pv (F : Fam) (sl : Addr → Prop) (ip : List (Addr × Obj)) (L : Nat → Option Addr) (b : Addr) : Prop :=
  b = F.lc ∨ (∃ x, F.env.cells.lookup x = some b) ∨ (∃ p ∈ (F.ga, F.go) :: ip, p.1 = b) ∨ sl b ∨ ∃ i, L i = some b
open Classical in
noncomputable def minus (p : Addr → Prop) (H : Hp) : Hp := fun b => if p b then none else H b
theorem minus_of {p : Addr → Prop} {H : Hp} {b : Addr} (h : p b) : minus p H b = none := if_pos h
theorem minus_not {p : Addr → Prop} {H : Hp} {b : Addr} (h : ¬ p b) : minus p H b = H b := if_neg h
theorem minus_some {p : Addr → Prop} {H : Hp} {b : Addr} {o : HO} (h : minus p H b = some o) : ¬ p b ∧ H b = some o := by
  unfold minus at h
  split at h
  · cases h
  · exact ⟨by assumption, h⟩
/-- from a wake to a sleep, as the consumer sees it -/
structure Turned (F : Fam) (s₀ : Shared) (Hc Sc : Hp) (H S : Hp) (s : Shared) : Prop where
  os : s.os = s₀.os
  bare : AllBare s.gens
  un : Un (frs F.outer) (List.range' F.lc (s₀.heap.objs.size - F.lc)) Hc H s₀.heap s.heap
  hok : HOk F.P F.w H s.heap
  kp : Kp Sc Hc S H
  gen : s.heap.get? F.ga = some F.go
section
variable {F : Fam} {q : Wk} {sl : Addr → Prop} {ip : List (Addr × Obj)} {σ : L2.St} {S H : Hp} {L : Nat → Option Addr} {s : Shared}
theorem dct_plain {a : Addr} {ks : List (List Int)} {bs : List Addr} {vs : List V} {o : HO} (e : dctO a ks bs vs = o) : (∀ x, o ≠ .own x) ∧ (∀ xs, o ≠ .tup xs) ∧ isFix o = false := by
  unfold dctO at e
  split at e <;> subst e <;> exact ⟨fun _ z => (nomatch z), fun _ z => (nomatch z), rfl⟩
theorem GE.old (I : GE F q ip σ S H L s) {b : Addr} {o : HO} (h : q.Hc b = some o) : H b = some o :=
  I.stp.fr b o (I.hc b o h).1 (I.hc b o h).2
theorem GE.none_of (I : GE F q ip σ S H L s) {b : Addr} (hb : b < F.lc) (h : q.Hc b = none) {o : Obj} (e : q.s.heap.get? b = some o) : H b = none := by
  have h1 : q.H b = none := by
    cases z : q.H b with
    | none => rfl
    | some x => exact absurd (I.ho b (by rw [z]; intro w; cases w) h) (Nat.not_le.mpr hb)
  exact I.inv.base.free b o ((cutA_get hb).trans e) ((cutH_lt hb).trans h1) (by exact List.not_mem_nil)
theorem GI.own_lc (I : GI F q sl ip σ S H L s) {i : Nat} {b : Addr} (h : L i = some b) : F.lc ≤ b := by
  rcases I.stp.own i b h with ⟨j, hj⟩ | ⟨h0, h1⟩
  · exact I.lq j b hj
  · refine Nat.le_of_not_lt fun hlt => ?_
    have hn : H b ≠ none := by
      rcases h1 with ⟨xs, e⟩ | ⟨ks, bs, vs, e⟩ <;> (rw [e]; intro z; cases z)
    have hc : q.Hc b = none := by
      cases z : q.Hc b with
      | none => rfl
      | some x =>
        have := (I.hc b x z).1
        rw [h0] at this; cases this
    cases z : q.s.heap.get? b with
    | some o => exact hn (I.none_of hlt hc z)
    | none =>
      have gone := I.mono.gone b (Nat.lt_of_lt_of_le hlt I.sz) z
      have : ∃ o, s.heap.get? b = some o := by
        rcases h1 with ⟨xs, e⟩ | ⟨ks, bs, vs, e⟩
        · obtain ⟨_, its, n, _, r⟩ := I.inv.hok b _ e
          exact ⟨_, r⟩
        · have k := I.inv.hok b _ e
          unfold dctO at k
          split at k
          · obtain ⟨_, _, vs, _, o, es, ep, r, _⟩ := k
            exact ⟨o, r⟩
          · exact k.2.1
      obtain ⟨o, e⟩ := this
      rw [gone] at e; cases e
theorem GI.not_pv (I : GI F q sl ip σ S H L s) {b : Addr} {o : HO} (h : q.Hc b = some o) : ¬ Pv F sl ip L b := by
  have ho := I.old h
  rintro (z | ⟨x, z⟩ | ⟨p, hp, z⟩ | z | ⟨i, z⟩)
  · rw [z] at ho
    have : H F.lc = none := I.inv.free
    rw [ho] at this; cases this
  · rw [I.inv.freeC x b z] at ho; cases ho
  · have := (I.inv.pin p (show p ∈ [(F.ga, F.go)] ++ ip from hp)).2.1
    rw [z, ho] at this; cases this
  · rw [(I.sleep b z).2.1] at h; cases h
  · rcases I.stp.own i b z with ⟨j, hj⟩ | ⟨h0, _⟩
    · exact (I.hc b o h).2 j hj
    · rw [(I.hc b o h).1] at h0; cases h0
theorem GI.pv (I : GI F q sl ip σ S H L s) (kn : Kin S H L) {b : Addr} (h : Pv F sl ip L b) : F.lc ≤ b ∧ (∃ o, s.heap.get? b = some o) ∧ S b = none ∧ q.Hc b = none := by
  have hc : q.Hc b = none := by
    cases z : q.Hc b with
    | none => rfl
    | some o => exact absurd h (I.not_pv z)
  have sn : H b = none → S b = none := fun e => by
    cases z : S b with
    | none => rfl
    | some o => rw [I.sb.same b o z] at e; cases e
  rcases h with z | ⟨x, z⟩ | ⟨p, hp, z⟩ | z | ⟨i, z⟩
  · subst z
    obtain ⟨m, ⟨o, es, ep, ho, _⟩, _⟩ := I.inv.loc
    exact ⟨Nat.le_refl _, ⟨o, ho⟩, sn I.inv.free, hc⟩
  · have h1 := I.inv.ok.cab x b rfl z
    have h2 : (cutS F.lc q.s).heap.objs.size = F.lc := cutA_size I.sz
    have h1 : (cutS F.lc q.s).heap.objs.size ≤ b := h1
    obtain ⟨v, o, ho, _⟩ := I.inv.cell x b z
    exact ⟨by rw [← h2]; exact h1, ⟨o, ho⟩, sn (I.inv.freeC x b z), hc⟩
  · have hp' : p ∈ [(F.ga, F.go)] ++ ip := hp
    have k := I.inv.pin p hp'
    have y := I.young p hp
    rw [z] at k y
    exact ⟨y, ⟨_, k.1⟩, sn k.2.1, hc⟩
  · obtain ⟨h1, h2, h3, ⟨o, h4⟩, _⟩ := I.sleep b z
    exact ⟨h1, ⟨o, of_rawO (by have := I.inv.hok b _ h4; exact this)⟩, h3, hc⟩
  · refine ⟨I.own_lc z, ?_, kn.h i b z, hc⟩
    rcases kn.k i b z with ⟨vs, e⟩ | ⟨ks, bs, vs, e⟩
    · obtain ⟨_, its, n, _, r⟩ := I.inv.hok b _ e
      exact ⟨_, r⟩
    · have k := I.inv.hok b _ e
      unfold dctO at k
      split at k
      · obtain ⟨_, _, vs, _, o, es, ep, r, _⟩ := k
        exact ⟨o, r⟩
      · exact k.2.1
/-- what a private thing is for the generator -/
theorem GI.pv_kind (I : GI F q sl ip σ S H L s) (kn : Kin S H L) {b : Addr} {o : HO} (h : Pv F sl ip L b) (e : H b = some o) : (∀ x, o ≠ .own x) ∧ (∀ xs, o ≠ .tup xs) ∧ isFix o = false := by
  rcases h with z | ⟨x, z⟩ | ⟨p, hp, z⟩ | z | ⟨i, z⟩
  · rw [z] at e
    have : H F.lc = none := I.inv.free
    rw [e] at this; cases this
  · rw [I.inv.freeC x b z] at e; cases e
  · have := (I.inv.pin p (show p ∈ [(F.ga, F.go)] ++ ip from hp)).2.1
    rw [z, e] at this; cases this
  · obtain ⟨_, _, _, ⟨o', h4⟩, _⟩ := I.sleep b z
    rw [e] at h4; cases h4
    exact ⟨fun _ z => (nomatch z), fun _ z => (nomatch z), rfl⟩
  · rcases kn.k i b z with ⟨vs, e'⟩ | ⟨ks, bs, vs, e'⟩
    · rw [e] at e'; cases e'
      exact ⟨fun _ z => (nomatch z), fun _ z => (nomatch z), rfl⟩
    · rw [e] at e'
      exact dct_plain (Option.some.inj e').symm
theorem GE.un (I : GE F q ip σ S H L s) {H' : Hp} (h1 : ∀ b, H b = none → H' b = none) (h2 : ∀ b o, q.Hc b = some o → H' b = some o) :
    Un (frs F.outer) (List.range' F.lc (q.s.heap.objs.size - F.lc)) q.Hc H' q.s.heap s.heap := by
  have lt : ∀ b o, q.s.heap.get? b = some o → b ∉ List.range' F.lc (q.s.heap.objs.size - F.lc) → b < F.lc := fun b o e hn => by
    have l : b < q.s.heap.objs.size := Heap.lt_size e
    refine Nat.lt_of_not_le fun hle => hn (List.mem_range'_1.mpr ⟨hle, ?_⟩)
    rw [Nat.add_sub_cancel' I.sz]
    exact l
  have hn : ∀ b, b < F.lc → q.Hc b = none → cutH F.lc q.H b = none := fun b hb h => by
    rw [cutH_lt hb]
    cases z : q.H b with
    | none => rfl
    | some x => exact absurd (I.ho b (by rw [z]; intro w; cases w) h) (Nat.not_le.mpr hb)
  refine ⟨fun b o e n hb hx => ?_, fun b o e n hb hx => ?_, fun b o e n hx => ?_, fun b o e hx => ?_, fun b xs e => h2 b _ e, fun b o u e => h2 b _ e, fun b ps e => ⟨#[], by rw [h2 b _ e]; simp⟩⟩
  · have l := lt b o e hx
    exact I.inv.base.keep b o ((cutA_get l).trans e) (hn b l n) hb (by exact List.not_mem_nil)
  · have l := lt b o e hx
    exact I.inv.base.slot b o ((cutA_get l).trans e) (hn b l n) hb (by exact List.not_mem_nil)
  · exact h1 b (I.none_of (lt b o e hx) n e)
  · have l := lt b o e hx
    exact I.inv.base.there b o ((cutA_get l).trans e) (by exact List.not_mem_nil)
theorem GE.gen (I : GE F q ip σ S H L s) : s.heap.get? F.ga = some F.go := (I.inv.pin (F.ga, F.go) (List.mem_append_left _ (List.mem_singleton.mpr rfl))).1
/-- it falls asleep -/
theorem GI.asleep (I : GI F q sl ip σ S H L s) (kn : Kin S H L) : Turned F q.s q.Hc q.S (minus (Pv F sl ip L) H) S s := by
  have os : s.os = q.s.os := I.inv.os
  refine ⟨os, I.inv.bare, I.un (fun b h => ?_) fun b o h => ?_, fun b o e => ?_, ⟨I.stp.s, fun b o h => ?_, ⟨fun b o h => ?_, fun b o h f => ?_⟩, fun b h1 h2 => ?_⟩, I.gen⟩
  · by_cases p : Pv F sl ip L b
    · exact minus_of p
    · rw [minus_not p]; exact h
  · rw [minus_not (I.not_pv h)]; exact I.old h
  · obtain ⟨np, e⟩ := minus_some e
    refine (I.inv.hok b o e).stay (fun c u _ y => y) (fun c y => ?_) fun c xs y => ?_
    · rw [minus_not fun p => (I.pv_kind kn p y).1 _ rfl]; exact y
    · rw [minus_not fun p => (I.pv_kind kn p y).2.1 _ rfl]; exact y
  · rw [minus_not (I.not_pv h)]; exact I.old h
  · rw [minus_not fun p => by rw [(I.pv kn p).2.2.1] at h; cases h]; exact I.sb.same b o h
  · exact I.sb.fix b o (minus_some h).2 f
  · cases z : q.Hc b with
    | none => exact absurd z h1
    | some o => exact I.stp.hid b (by rw [(I.hc b o z).1]; intro w; cases w) h2 (I.hc b o z).2
end
end EV
end

section
set_option maxHeartbeats 4000000
/-! EV60: it is woken; the promise of a stretch; statements of a generator's body. -/
namespace EV
open PySem L2 PyProof.Rows
/-- the state in which a sleeper may be woken: what is its own is as it was -/
structure WakeOk (F : Fam) (pv : Addr → Prop) (S : Hp) (s s' : Shared) (Hc Sc : Hp) : Prop where
  env : Env0 F.P F.w F.K F.mg F.base F.A F.outer s' Hc
  sub : EV.Sub Sc Hc
  same : Same S Sc
  raw : ∀ b, pv b → s'.heap.get? b = s.heap.get? b
  hid : ∀ b, pv b → Hc b = none
  gens : ∀ i x, i ≠ F.g → s.gens[i]? = some x → Susp x → s'.gens[i]? = some x
open Classical in
noncomputable def plus (p : Addr → Prop) (H Hc : Hp) : Hp := fun b => if p b then H b else Hc b
theorem plus_of {p : Addr → Prop} {H Hc : Hp} {b : Addr} (h : p b) : plus p H Hc b = H b := if_pos h
theorem plus_not {p : Addr → Prop} {H Hc : Hp} {b : Addr} (h : ¬ p b) : plus p H Hc b = Hc b := if_neg h
theorem ff_cut {h base : Heap} {n : Nat} : ∀ {l : List PySem.Env}, h.FunFrames base l → (∀ b ∈ frs l, b < n) → (cutA n h).FunFrames base l
  | [], _, _ => trivial
  | env :: r, ⟨hk, ⟨L, o, hf, hn, ho, hd⟩, hr⟩, hb => by
    have m : ∀ b, b ∈ frs r → b ∈ frs (env :: r) := fun b hm => by
      unfold frs at hm ⊢
      rw [List.filterMap_cons]
      split
      · exact hm
      · exact List.mem_cons_of_mem _ hm
    have hL : L ∈ frs (env :: r) := by
      unfold frs
      rw [List.filterMap_cons, hf]
      exact List.mem_cons_self
    exact ⟨hk, ⟨L, o, hf, hn, (cutA_get (hb L hL)).trans ho, hd⟩, ff_cut hr fun b hm => hb b (m b hm)⟩
/-- what the generator tracks of its own -/
def Own (sl : Addr → Prop) (L : Nat → Option Addr) (b : Addr) : Prop := sl b ∨ ∃ i, L i = some b
abbrev noXg : XK := fun _ _ _ => False
section
variable {F : Fam} {T : Tab} {q : Wk} {sl : Addr → Prop} {ip : List (Addr × Obj)} {σ : L2.St} {ρ : EV.Env} {S H : Hp} {L : Nat → Option Addr} {s s' : Shared}
theorem Own.pv {b : Addr} (h : Own sl L b) : Pv F sl ip L b := by
  rcases h with h | h
  · exact .inr (.inr (.inr (.inl h)))
  · exact .inr (.inr (.inr (.inr h)))
theorem GI.woken {Hc Sc : Hp} {E' : XK} (I : GI F q sl ip σ S H L s) (kn : Kin S H L) (r : Rep T ρ σ S H L) (w : WakeOk F (Pv F sl ip L) S s s' Hc Sc) (hE : plus (Own sl L) H Hc = Hc ∨ ∀ c d h, ¬ E' c d h) :
    GI F ⟨s', plus (Own sl L) H Hc, Sc, L, Hc, E'⟩ sl ip σ Sc (plus (Own sl L) H Hc) L s' ∧ Rep T ρ σ Sc (plus (Own sl L) H Hc) L := by
  have hlc : Pv F sl ip L F.lc := .inl rfl
  have sz : F.lc ≤ s'.heap.objs.size := by
    obtain ⟨_, ⟨o, e⟩, _⟩ := I.pv kn hlc
    exact Nat.le_of_lt (Heap.lt_size ((w.raw _ hlc).trans e))
  have nown : ∀ b, H b = none → ¬ Own sl L b := fun b e h => by
    rcases h with h | ⟨i, h⟩
    · obtain ⟨_, _, _, ⟨o, h4⟩, _⟩ := I.sleep b h
      rw [e] at h4; cases h4
    · rcases kn.k i b h with ⟨vs, k⟩ | ⟨ks, bs, vs, k⟩ <;> (rw [e] at k; cases k)
  have pn : ∀ b, Pv F sl ip L b → H b = none → plus (Own sl L) H Hc b = none := fun b p e => by
    rw [plus_not (nown b e)]; exact w.hid b p
  have olt : ∀ b, Own sl L b → F.lc ≤ b := fun b h => (I.pv kn h.pv).1
  have hcO : ∀ b o, Hc b = some o → ¬ Own sl L b := fun b o e h => by rw [w.hid b h.pv] at e; cases e
  have hcP : ∀ b o, Hc b = some o → plus (Own sl L) H Hc b = some o := fun b o e => by rw [plus_not (hcO b o e)]; exact e
  have ok := I.inv.ok
  have frl : ∀ b ∈ frs F.outer, b < F.lc := fun b hb => by
    obtain ⟨_, o, e, _⟩ := ok.funs.mem hb
    exact (cutA_lt e).1
  have sub' : EV.Sub Sc (plus (Own sl L) H Hc) := by
    refine ⟨fun b o e => hcP b o (w.sub.same b o e), fun b o e f => ?_⟩
    by_cases h : Own sl L b
    · rw [plus_of h] at e
      rw [(I.pv_kind kn h.pv e).2.2] at f; cases f
    · rw [plus_not h] at e
      exact w.sub.fix b o e f
  have scn : ∀ b, Pv F sl ip L b → Sc b = none := fun b p => by
    cases z : Sc b with
    | none => rfl
    | some o =>
      have := w.sub.same b o z
      rw [w.hid b p] at this; cases this
  have hbase : F.base.objs.size ≤ F.lc := Nat.le_trans ok.bsz cutA_le
  have inv : Inv (F.X (cutS F.lc s') (cutH F.lc (plus (Own sl L) H Hc)) E') ip σ (plus (Own sl L) H Hc) s' := by
    have cl : ∀ b, b < F.lc → ¬ Own sl L b := fun b hb h => absurd (olt b h) (Nat.not_le.mpr hb)
    refine ⟨⟨ok.mod, ok.kind, ok.glob, ok.blt, cutA_le, ok.inj, ok.has, fun x c _ h => ?_, ok.hd, ok.frames, ok.stk, ok.exf, fun b o e => ?_, ?_, ok.noex, ok.exfs, ff_cut w.env.funs frl, fun b hb => ?_⟩, rfl, w.env.bare, ?_, ?_, fun x c h => ?_, pn _ hlc I.inv.free, fun x c h => pn _ (.inr (.inl ⟨x, h⟩)) (I.inv.freeC x c h), fun p hp => ?_, ?_, I.inv.len⟩
    · refine Nat.le_trans (show (cutS F.lc s').heap.objs.size ≤ F.lc from cutA_le) ?_
      exact (I.pv kn (.inr (.inl ⟨x, h⟩))).1
    · have l : b < F.lc := Nat.lt_of_lt_of_le (Heap.lt_size e) hbase
      exact ⟨(cutA_get l).trans (w.env.bs b o e).1, by show cutH F.lc _ b = none; rw [cutH_lt l, plus_not (cl b l)]; exact (w.env.bs b o e).2⟩
    · show F.base.objs.size ≤ (cutS F.lc s').heap.objs.size
      exact Nat.le_trans hbase (Nat.le_of_eq (cutA_size sz).symm)
    · show cutH F.lc _ b = none
      rw [cutH_lt (frl b hb), plus_not (cl b (frl b hb))]
      exact w.env.frf b hb
    · refine ⟨fun b o e _ _ _ => (cutA_lt e).2, fun b o e _ _ _ => ⟨o.slots, (cutA_lt e).2⟩, fun b o e n _ => ?_, fun b o e _ => ⟨o, (cutA_lt e).2⟩, fun b xs e => (cutH_some e).2, fun b o u e => (cutH_some e).2, fun b ps e => ⟨#[], by rw [(cutH_some e).2]; simp⟩⟩
      have n : cutH F.lc _ b = none := n
      rw [cutH_lt (cutA_lt e).1] at n
      exact n
    · obtain ⟨m, ns, hv⟩ := I.inv.loc
      refine ⟨m, ?_, fun i x v h1 h2 h3 => ?_⟩
      · obtain ⟨o, es, ep, ho, r⟩ := ns
        exact ⟨o, es, ep, (w.raw _ hlc).trans ho, r⟩
      · obtain ⟨u, rv, lk⟩ := hv i x v h1 h2 h3
        refine ⟨u, rv, ?_⟩
        rcases lk with lk | ⟨k, c, e, ⟨o, ho, hd⟩⟩
        · exact .inl lk
        · exact .inr ⟨k, c, e, o, (w.raw _ (.inr (.inl ⟨x, e⟩))).trans ho, hd⟩
    · obtain ⟨v, o, ho, hd⟩ := I.inv.cell x c h
      exact ⟨v, o, (w.raw _ (.inr (.inl ⟨x, h⟩))).trans ho, hd⟩
    · have hp' : p ∈ (F.ga, F.go) :: ip := hp
      have P : Pv F sl ip L p.1 := .inr (.inr (.inl ⟨p, hp', rfl⟩))
      obtain ⟨h1, h2, h3, h4, h5⟩ := I.inv.pin p hp
      exact ⟨(w.raw _ P).trans h1, pn _ P h2, h3, h4, h5⟩
    · intro b o e
      by_cases h : Own sl L b
      · rw [plus_of h] at e
        have k := I.inv.hok b o e
        have rw' := w.raw b h.pv
        rcases h with h | ⟨i, h⟩
        · obtain ⟨_, _, _, ⟨o', h4⟩, _⟩ := I.sleep b h
          rw [e] at h4; cases h4
          exact rawO_ok (rw'.trans (of_rawO k))
        · rcases kn.k i b h with ⟨vs, k'⟩ | ⟨ks, bs, vs, k'⟩
          · rw [e] at k'; cases k'
            obtain ⟨l, its, n, r, e2⟩ := k
            exact ⟨l, its, n, r, rw'.trans e2⟩
          · rw [e] at k'
            have k' := Option.some.inj k'
            subst k'
            unfold dctO at k ⊢
            split
            · rename_i hk
              rw [if_pos hk] at k
              obtain ⟨l, z, vs', kv, o, es, ep, e2, r⟩ := k
              exact ⟨l, z, vs', kv, o, es, ep, rw'.trans e2, r⟩
            · rename_i hk
              rw [if_neg hk] at k
              obtain ⟨k1, ⟨o, k2⟩, k3⟩ := k
              exact ⟨k3 _ _ k1 fun o q => rw'.trans q, ⟨o, rw'.trans k2⟩, k3⟩
      · rw [plus_not h] at e
        exact (w.env.hok b o e).stay (fun c u _ y => y) (fun c y => hcP c _ y) fun c xs y => hcP c _ y
  refine ⟨⟨⟨inv, sub', Stp.refl, fun b o e => ⟨hcP b o e, fun i z => ?_⟩, fun b h1 h2 => ?_, w.sub, w.env, sz, fun i b h => (I.pv kn (.inr (.inr (.inr (.inr ⟨i, h⟩))))).1, hE⟩, fun b h => ?_, Mono.refl _, I.young⟩, ?_⟩
  · have e : Hc b = some o := e
    rw [w.hid b (.inr (.inr (.inr (.inr ⟨i, z⟩))))] at e; cases e
  · refine olt b ?_
    by_cases h : Own sl L b
    · exact h
    · have h1 : plus (Own sl L) H Hc b ≠ none := h1
      rw [plus_not h] at h1
      exact absurd h2 h1
  · obtain ⟨h1, h2, h3, h4, h5⟩ := I.sleep b h
    have P : Pv F sl ip L b := .inr (.inr (.inr (.inl h)))
    exact ⟨h1, w.hid b P, scn b P, by rw [plus_of (.inl h)]; exact h4, h5⟩
  · refine ⟨sub', r.len, fun i d e => ?_, fun i ds e => ?_, fun i c ds e => ?_, r.inj, r.dom, fun i x e => (r.x i x e).mono w.same, fun i ks ds e => ?_⟩
    · obtain ⟨v, h1, h2⟩ := r.v i d e
      exact ⟨v, h1, h2.mono w.same⟩
    · obtain ⟨a, vs, h1, h2, h3, h4, h5⟩ := r.own i ds e
      exact ⟨a, vs, h1, h2, by rw [plus_of (.inr ⟨i, h1⟩)]; exact h3, scn a (.inr (.inr (.inr (.inr ⟨i, h1⟩)))), h5.mono w.same⟩
    · obtain ⟨a, dx, vs, h1, h2, h3, h4, h5, h6⟩ := r.ins i c ds e
      exact ⟨a, dx, vs, h1, h2, by rw [plus_of (.inr ⟨i, h1⟩)]; exact h3, scn a (.inr (.inr (.inr (.inr ⟨i, h1⟩)))), h5, h6.mono w.same⟩
    · obtain ⟨a, bs, vs, h1, h2, h3, h4, h5, h6⟩ := r.od i ks ds e
      exact ⟨a, bs, vs, h1, h2, by rw [plus_of (.inr ⟨i, h1⟩)]; exact h3, scn a (.inr (.inr (.inr (.inr ⟨i, h1⟩)))), h5.mono w.same, h6.mono w.same⟩
/-- a step within a stretch -/
theorem GI.step {σ' : L2.St} {S' H' : Hp} {L' : Nat → Option Addr} (I : GI F q sl ip σ S H L s) (J : Inv (F.X (cutS F.lc q.s) (cutH F.lc q.H) q.E) ip σ' H' s') (sb : EV.Sub S' H') (st : Stp S H L S' H' L') (m : Mono s.heap s'.heap) : GI F q sl ip σ' S' H' L' s' := by
  refine ⟨⟨J, sb, I.stp.trans st, I.hc, I.ho, I.sub, I.env, I.sz, I.lq, I.fst⟩, fun b h => ?_, I.mono.trans m, I.young⟩
  obtain ⟨h1, h2, h3, ⟨o, h4⟩, h5⟩ := I.sleep b h
  refine ⟨h1, h2, st.hid b (by rw [h4]; intro z; cases z) h3 h5, ⟨o, st.fr b _ h4 h5⟩, fun i z => ?_⟩
  rcases st.own i b z with ⟨j, hj⟩ | ⟨h0, _⟩
  · exact h5 j hj
  · rw [h4] at h0; cases h0
theorem GE.step {σ' : L2.St} {S' H' : Hp} {L' : Nat → Option Addr} (I : GE F q ip σ S H L s) (J : Inv (F.X (cutS F.lc q.s) (cutH F.lc q.H) q.E) ip σ' H' s') (sb : EV.Sub S' H') (st : Stp S H L S' H' L') : GE F q ip σ' S' H' L' s' :=
  ⟨J, sb, I.stp.trans st, I.hc, I.ho, I.sub, I.env, I.sz, I.lq, I.fst⟩
end
/-- a frame without an instance under way -/
def noIns (ρ : EV.Env) : Bool := ρ.all fun x : EV.Sl => match x with | .ins _ _ => false | _ => true
theorem Kin.of {T : Tab} {ρ : EV.Env} {σ : L2.St} {S H : Hp} {L : Nat → Option Addr} (r : Rep T ρ σ S H L) (h : noIns ρ = true) : Kin S H L := by
  have ni : ∀ (i c : Nat) (ds : List D), ρ[i]? = some (EV.Sl.ins c ds) → False := fun i c ds e => by
    have := List.all_eq_true.mp h _ (List.mem_of_getElem? e)
    cases this
  refine ⟨fun i b e => ?_, fun i b e => ?_⟩
  · rcases r.dom i b e with ⟨ds, q⟩ | ⟨c, ds, q⟩ | ⟨ks, ds, q⟩
    · obtain ⟨a, vs, h1, _, h3, _⟩ := r.own i ds q
      rw [e] at h1; cases h1
      exact .inl ⟨vs, h3⟩
    · exact (ni i c ds q).elim
    · obtain ⟨a, bs, vs, h1, _, h3, _⟩ := r.od i ks ds q
      rw [e] at h1; cases h1
      exact .inr ⟨ks, bs, vs, h3⟩
  · rcases r.dom i b e with ⟨ds, q⟩ | ⟨c, ds, q⟩ | ⟨ks, ds, q⟩
    · obtain ⟨a, vs, h1, _, _, h4, _⟩ := r.own i ds q
      rw [e] at h1; cases h1
      exact h4
    · exact (ni i c ds q).elim
    · obtain ⟨a, bs, vs, h1, _, _, h4, _⟩ := r.od i ks ds q
      rw [e] at h1; cases h1
      exact h4
/-- the promise of a stretch: zs will be handed out -/
def Ph (F : Fam) (T : Tab) : List D → Shared → Hp → Hp → XK → End → Shared → Prop
  | [], s₀, Hc, Sc, E, e, s => (F.rx = false ∧ ∃ r, e = .ret (.ok r) ∧ (r = .ret .none ∨ r = .next) ∧ ∃ H S, Turned F s₀ Hc Sc H S s) ∨ (∃ x, e = .ret (.error x) ∧ L2N.CX F.P F.w F.outer (cutH F.lc Hc) (cutS F.lc s₀) E x s ∧ s.heap.get? F.ga = some F.go)
  | d :: zs, s₀, Hc, Sc, _, e, s => ∃ (v : Value) (g : Bool) (l : List Value) (k : Resume → Sem PySem.Fin) (c : Code) (p : Pos) (fs : List PySem.Frame) (H S : Hp) (pv : Addr → Prop) (x : V), e = .susp v g l k c p fs ∧ e.quiet = true ∧ Turned F s₀ Hc Sc H S s ∧ RelV x v ∧ Is T S x d ∧
      (∀ b, pv b → F.lc ≤ b ∧ (∃ o, s.heap.get? b = some o) ∧ H b = none ∧ S b = none) ∧ pv F.ga ∧
      ∀ s' Hc' Sc', WakeOk F pv S s s' Hc' Sc' → Sg F.M F.A (Ph F T zs s' Hc' Sc' noXg) c (k (.send .none)) fs s'
abbrev Pq (F : Fam) (T : Tab) (zs : List D) (q : Wk) : End → Shared → Prop := Ph F T zs q.s q.Hc q.S q.E
structure GC (F : Fam) (c : Code) (fs : List PySem.Frame) (gd : Bool → Bool) : Prop where
  over : F.A.over c fs = F.A.deeper F.env
  split : splitAtGen fs = none
  guard : fs.any Frame.guarded = false
  gd : gd false = false
/-- exceptions are let out only where nothing is left to be handed out -/
def Eok (q : Wk) (zs : List D) : Prop := (∀ c d h, ¬ q.E c d h) ∨ zs = []
structure GK (F : Fam) (T : Tab) (q : Wk) (S H : Hp) (L : Nat → Option Addr) (w : List D) (sl : Addr → Prop) (ip : List (Addr × Obj)) (c : Code) (fs : List PySem.Frame) (K : Flow → Sem PySem.Fin) (J : Value → Sem PySem.Fin) (o : Out) (zs : List D) : Prop where
  ok : ∀ (q' : Wk) (ρ' : EV.Env) (σ' : L2.St) (S' H' : Hp) (L' : Nat → Option Addr) (s' : Shared), Eok q' zs → (w = [] → q' = q ∧ Stp S H L S' H' L') → Same S S' → GI F q' sl ip σ' S' H' L' s' → Rep T ρ' σ' S' H' L' →
    (o = .nx ρ' → Sg F.M F.A (Pq F T zs q') c (K .next) fs s') ∧ (o = .bk ρ' → Sg F.M F.A (Pq F T zs q') c (K .brk) fs s') ∧ (o = .ct ρ' → Sg F.M F.A (Pq F T zs q') c (K .cont) fs s')
  rt : ∀ (q' : Wk) (ip' : List (Addr × Obj)) (σ' : L2.St) (S' H' : Hp) (L' : Nat → Option Addr) (s' : Shared), Eok q' zs → GE F q' ip' σ' S' H' L' s' → o = .rt .non → Sg F.M F.A (Pq F T zs q') c (K (.ret .none)) fs s'
  exc : ∀ (q' : Wk) (zs' : List D) (x : Value) (s' : Shared), Eok q' zs' → (q'.H = q'.Hc ∨ ∀ c d h, ¬ q'.E c d h) → (F.X (cutS F.lc q'.s) (cutH F.lc q'.H) q'.E).xe x s' → Sg F.M F.A (Pq F T zs' q') c (J x) fs s'
/-- what is asked of an exception's end -/
def Xok (T : Tab) (q : Wk) (S H : Hp) (L : Nat → Option Addr) (r : List D × Out) : Prop := ∀ x ρ', r.2 = .rs x ρ' → r.1 = [] ∧ ∀ σ' S' H' L' cls d, Rep T ρ' σ' S' H' L' → Stp S H L S' H' L' → XIs T S' x cls d → q.E cls d H'
def Ext (g : GFS) : Prop := ∀ yd ρ r, g yd ρ = some r → ∃ w, r.1 = yd ++ w
structure GZ (F : Fam) (T : Tab) (m : Sem Flow) (g : GFS) : Prop where
  ext : Ext g
  run : ∀ (q : Wk) (sl : Addr → Prop) (ip : List (Addr × Obj)) (yd zs w : List D) (c : Code) (fs : List PySem.Frame) (K : Flow → Sem PySem.Fin) (J : Value → Sem PySem.Fin) (gd : Bool → Bool) (lv : List Value → List Value) (s : Shared) (ρ : EV.Env) (σ : L2.St) (S H : Hp) (L : Nat → Option Addr) (r : List D × Out),
    GC F c fs gd → GI F q sl ip σ S H L s → Rep T ρ σ S H L → g yd ρ = some r → r.1 = yd ++ w → Eok q (w ++ zs) → GK F T q S H L w sl ip c fs K J r.2 zs → Xok T q S H L r →
    Sg F.M F.A (Pq F T (w ++ zs) q) c (m.wrap K J gd lv) fs s
end EV
end

section
set_option maxHeartbeats 4000000
/-! EV62: loops of a generator's body. -/
namespace EV
open PySem L2 PyProof.Rows
section
variable {F : Fam} {T : Tab} {q q' : Wk} {sl : Addr → Prop} {ip : List (Addr × Obj)} {σ : L2.St} {ρ : EV.Env} {S H : Hp} {L : Nat → Option Addr} {s s' : Shared}
variable {c c' : Code} {fs : List PySem.Frame} {K : Flow → Sem PySem.Fin} {J : Value → Sem PySem.Fin} {gd : Bool → Bool} {lv : List Value → List Value} {o : Out} {zs zs' w : List D}
variable {st : Stmt} {rest body els : List Stmt} {g : FS} {gg g1 g2 : GFS} {e ce : Expr} {f fc : FE} {pos yp p : Pos} {fg : FG} {is : List Nat}
/-- the frame that a loop's code leaves behind -/
abbrev loopFr (F : Fam) (K : Flow → Sem PySem.Fin) (J : Value → Sem PySem.Fin) (gd : Bool → Bool) (lv : List Value → List Value) (c : Code) (p : Pos) : PySem.Frame :=
  .ret (fun r => ((match r with | .ok f => (.pure f : Sem Flow) | .error e => .raise e).onRaise (back F.env)).wrap K J gd lv) none (gd false) (lv []) c p []
theorem GC.loop (gc : GC F c fs gd) (hw : c'.weight = 0) (hu : c'.cUnits = 0) : GC F c' (loopFr F K J gd lv c p :: fs) id where
  over := (GenW.over_loop hw hu).trans gc.over
  split := by
    show (splitAtGen fs).map _ = none
    rw [gc.split]; rfl
  guard := by
    show (gd false || fs.any Frame.guarded) = false
    rw [gc.gd, gc.guard]; rfl
  gd := rfl
end
end EV
end

section
set_option maxHeartbeats 4000000
/-! EV64: a generator def: what a call of it gives. -/
namespace EV
open PySem L2 PyProof.Rows
/-- a generator's object -/
def GenO (o : Obj) (g : Nat) : Prop := ∃ nm qn, o.cls = .type "generator" ∧ o.data = .fields #[.int g 0, nm, qn] ∧ o.slots = #[]
theorem GenO.at {o : Obj} {g : Nat} {h : Heap} {a : Addr} (x : GenO o g) (e : h.get? a = some o) : h.IsGen a g := let ⟨nm, qn, h1, h2, h3⟩ := x; ⟨o, nm, qn, e, h1, h2, h3⟩
/-- what is asked of the exception that it may begin with -/
def XG (T : Tab) (r : RL) (S H : Hp) (E : XK) : Prop := match r with
  | .ok _ => ∀ c d h, ¬ E c d h
  | .ex x => ∀ S' H' cls d, Kp S H S' H' → XIs T S' x cls d → E cls d H'
def isEx : RL → Bool
  | .ok _ => false
  | .ex _ => true
def outs : RL → List D
  | .ok ys => ys
  | .ex _ => []
/-- a generator that has not begun -/
structure Born (P : Program) (w : World) (K : PySem.W.Frag) (mg : Str → Option Value) (base : Heap) (T : Tab) (k : Nat) (outer : List PySem.Env) (s : Shared) (S : Hp) (r : RL) (u : Value) (s' : Shared) : Prop where
  ex : ∃ (N : List Str) (qual : Str) (scope : Scope) (f : Addr) (cd : Value) (a : Addr) (go : Obj) (c : Code) (pv : Addr → Prop), u = .ref a ∧ GenO go s.gens.size ∧ s'.gens = s.gens.push (.fresh c) ∧ s'.heap.get? a = some go ∧
    (∀ b, pv b → s.heap.objs.size ≤ b ∧ ∃ o, s'.heap.get? b = some o) ∧ pv a ∧ s'.os = s.os ∧ (∀ b o, s.heap.get? b = some o → s'.heap.get? b = some o) ∧
    ∀ (A : Around) (s2 : Shared) (Hc Sc : Hp) (E : XK), Room k A → A.frames = some outer → WakeOk ⟨P, w, K, mg, base, N, qual, scope, f, cd, A, outer, s.heap.objs.size, a, s.gens.size, go, isEx r⟩ pv S s' s2 Hc Sc → XG T r Sc Hc E →
      Sg (model P w) A (Ph ⟨P, w, K, mg, base, N, qual, scope, f, cd, A, outer, s.heap.objs.size, a, s.gens.size, go, isEx r⟩ T (outs r) s2 Hc Sc E) c ((model P w).den c) [] s2
structure GnOk (P : Program) (w : World) (K : PySem.W.Frag) (mg : Str → Option Value) (base : Heap) (T : Tab) (k : Nat) (f : Addr) (fd : FuncData) (ps : List Str) (sem : List D → Option RL) : Prop where
  run : ∀ (A : Around) (outer : List PySem.Env) (s : Shared) (H S : Hp) (args : Args) (us : List Value) (vs : List V) (ds : List D) (r : RL), Room k A → Env0 P w K mg base A outer s H → BindsTo s fd args (ps.zip us) → Vals vs us → EV.Sub S H → Iss T S vs ds → vs.length = ps.length → sem ds = some r →
    codeAny (model P w) A (.call (.ref f) args) (fun r' s' => match r' with | .ok (.ret u) => Born P w K mg base T k outer s S r u s' | _ => False) s
section
variable {P : Program} {w : World} {K : PySem.W.Frag} {mg : Str → Option Value} {base : Heap} {x qual : Str} {params : Arguments} {body : List Stmt} {scope : Scope} {dvs : List V} {kws : List (Str × V)} {f : Addr} {fd : FuncData} {N ps : List Str} {k : Nat} {T : Tab} {gg : GFS}
end
end EV
end

section
set_option maxHeartbeats 4000000
/-! EV65: who takes from a generator: next. -/
namespace EV
open PySem L2 PyProof.Rows
open Sem (wp)
/-! ### next -/
/-- what a generator that is woken does -/
def GoZ (M : Model) (A : Around) (Φ : End → Shared → Prop) (gs : GenState) (s : Shared) : Prop := match gs with
  | .fresh c => Sg M A Φ c (M.den c) [] s
  | .suspended k _ c _ fs _ => Sg M A Φ c (k (.send .none)) fs s
  | _ => False
end EV
end

section
set_option maxHeartbeats 4000000
/-! EV66: a call of a generator def. -/
namespace EV
open PySem L2 PyProof.Rows
def ZEnd (T : Tab) (W : WX) (S H : Hp) (σ : L2.St) (R : RL → Hp → Hp → Prop) : RL → Prop
  | .ok ys => ∀ S' H', Kp S H S' H' → R (.ok ys) S' H'
  | .ex x => (∀ S' H' cls d, Kp S H S' H' → XIs T S' x cls d → W cls d σ H') ∧ ∀ S' H', Kp S H S' H' → R (.ex x) S' H'
theorem ZEnd.mono {T : Tab} {W : WX} {S H S1 H1 : Hp} {σ : L2.St} {R : RL → Hp → Hp → Prop} {r : RL} (k : Kp S H S1 H1) (h : ZEnd T W S H σ R r) : ZEnd T W S1 H1 σ R r := by
  cases r with
  | ok ys => exact fun S' H' k' => h S' H' (k.trans k')
  | ex x => exact ⟨fun S' H' cls d k' => h.1 S' H' cls d (k.trans k'), fun S' H' k' => h.2 S' H' (k.trans k')⟩
theorem ZEnd.at {T : Tab} {W : WX} {S H : Hp} {σ : L2.St} {R : RL → Hp → Hp → Prop} {r : RL} (sh : EV.Sub S H) (h : ZEnd T W S H σ R r) : R r S H := by
  cases r with
  | ok ys => exact h S H (Kp.refl sh)
  | ex x => exact h.2 S H (Kp.refl sh)
section
variable {X : Cx} {T : Tab} {W : WX} {k n : Nat} {f : Addr} {fd : FuncData} {ps ks : List Str} {x : Str} {p pos : Pos} {e : Expr} {es : List Expr} {kws : List Keyword} {dvs : List V} {dds : List D} {perm : List Nat} {sem : List D → Option RL} {fs fk : FL}
end
end EV
end

section
set_option maxHeartbeats 4000000
/-! EV67: taking from a generator; what a body does while it sleeps. -/
namespace EV
open PySem L2 PyProof.Rows
structure GId where
  N : List Str
  qual : Str
  scope : Scope
  f : Addr
  cd : Value
  lc : Nat
  a : Addr
  g : Nat
  go : Obj
  rx : Bool
abbrev fC (X : Cx) (A : Around) (d : GId) : Fam := ⟨X.prog, X.w, X.K, X.mg, X.base, d.N, d.qual, d.scope, d.f, d.cd, A, X.stack, d.lc, d.a, d.g, d.go, d.rx⟩
/-- the generator is younger than the consumer's frame and what it holds -/
structure Abv (X : Cx) (pins : List (Addr × Obj)) (lc : Nat) : Prop where
  s0 : X.s_0.heap.objs.size ≤ lc
  loc : X.env.locals < lc
  cell : ∀ x c, X.env.cells.lookup x = some c → c < lc
  pin : ∀ p ∈ X.pn ++ pins, p.1 < lc
theorem Abv.of {X : Cx} {pins : List (Addr × Obj)} {σ : L2.St} {H : Hp} {s : Shared} (I : Inv X pins σ H s) : Abv X pins s.heap.objs.size :=
  ⟨I.sz, I.lt, fun x c e => let ⟨_, q⟩ := I.cell x c e; q.lt, fun p hp => Heap.lt_size (I.pin p hp).1⟩
/-- a generator that sleeps, as its consumer holds it -/
def Nap (X : Cx) (A : Around) (T : Tab) (d : GId) (zs : List D) (bg : Bool) (E : XK) (EC : Hp → Hp → Prop) (s : Shared) (H S : Hp) : Prop := ∃ (gs : GenState) (pv : Addr → Prop) (S₀ : Hp) (s₀ : Shared),
  (bg = true → Susp gs) ∧ s.gens[d.g]? = some gs ∧ s.heap.get? d.a = some d.go ∧ Same S₀ S ∧ (∀ b, pv b → d.lc ≤ b ∧ s.heap.get? b = s₀.heap.get? b ∧ (∃ o, s.heap.get? b = some o) ∧ H b = none ∧ S b = none) ∧ pv d.a ∧ (∀ i x, i ≠ d.g → s₀.gens[i]? = some x → Susp x → s.gens[i]? = some x) ∧
  ∀ s' Hc Sc, WakeOk (fC X A d) pv S₀ s₀ s' Hc Sc → EC Sc Hc → GoZ (model X.prog X.w) A (Ph (fC X A d) T zs s' Hc Sc E) gs s'
section
variable {X : Cx} {A : Around} {T : Tab} {W : WX} {d : GId} {pins : List (Addr × Obj)} {σ : L2.St} {ρ : Env} {H S : Hp} {L : Nat → Option Addr} {s s' : Shared} {zs : List D} {E : XK} {EC : Hp → Hp → Prop}
/-! ### while it sleeps: its things are frozen -/
open Classical in
noncomputable def frz (pv : Addr → Prop) (s : Shared) (H : Hp) : Hp := fun b => if pv b then (match s.heap.get? b with | some o => some (rawO b o) | none => none) else H b
theorem frz_of {pv : Addr → Prop} {b : Addr} {o : Obj} (h : pv b) (e : s.heap.get? b = some o) : frz pv s H b = some (rawO b o) := by
  unfold frz; rw [if_pos h, e]
theorem frz_not {pv : Addr → Prop} {b : Addr} (h : ¬ pv b) : frz pv s H b = H b := if_neg h
structure PvOk (X : Cx) (pins : List (Addr × Obj)) (lc : Nat) (pv : Addr → Prop) (s : Shared) (H S : Hp) : Prop where
  ab : Abv X pins lc
  p : ∀ b, pv b → lc ≤ b ∧ (∃ o, s.heap.get? b = some o) ∧ H b = none ∧ S b = none
theorem PvOk.ne {lc : Nat} {pv : Addr → Prop} (h : PvOk X pins lc pv s H S) {b : Addr} (hb : b < lc) : ¬ pv b := fun z => absurd (h.p b z).1 (Nat.not_le.mpr hb)
theorem PvOk.np {lc : Nat} {pv : Addr → Prop} (h : PvOk X pins lc pv s H S) {b : Addr} {o : HO} (e : H b = some o) : ¬ pv b := fun z => by rw [(h.p b z).2.2.1] at e; cases e
theorem PvOk.same {lc : Nat} {pv : Addr → Prop} (h : PvOk X pins lc pv s H S) {b : Addr} {o : HO} (e : H b = some o) : frz pv s H b = some o := by rw [frz_not (h.np e)]; exact e
theorem PvOk.kp {lc : Nat} {pv : Addr → Prop} (h : PvOk X pins lc pv s H S) (sb : EV.Sub S H) : Kp S H S (frz pv s H) := by
  refine ⟨Same.refl S, fun b o e => h.same e, ⟨fun b o e => h.same (sb.same b o e), fun b o e f => ?_⟩, fun b _ h2 => h2⟩
  by_cases z : pv b
  · obtain ⟨_, ⟨o', e'⟩, _⟩ := h.p b z
    rw [frz_of z e'] at e; cases e; cases f
  · rw [frz_not z] at e
    exact sb.fix b o e f
theorem PvOk.inv {lc : Nat} {pv : Addr → Prop} (h : PvOk X pins lc pv s H S) (I : Inv X pins σ H s) : Inv X pins σ (frz pv s H) s := by
  refine ⟨I.ok, I.os, I.bare, ⟨I.base.keep, I.base.slot, fun b o e n hx => ?_, I.base.there, fun b xs e => h.same (I.base.tups b xs e), fun b o u e => h.same (I.base.frzs b o u e), fun b ps e => ?_⟩, I.loc, I.cell, ?_, fun x c e => ?_, fun p hp => ?_, fun b o e => ?_, I.len⟩
  · rw [frz_not (h.ne (Nat.lt_of_lt_of_le (Heap.lt_size e) h.ab.s0))]; exact I.base.free b o e n hx
  · obtain ⟨more, e'⟩ := I.base.tbls b ps e
    exact ⟨more, h.same e'⟩
  · rw [frz_not (h.ne h.ab.loc)]; exact I.free
  · rw [frz_not (h.ne (h.ab.cell x c e))]; exact I.freeC x c e
  · obtain ⟨h1, h2, h3⟩ := I.pin p hp
    exact ⟨h1, by rw [frz_not (h.ne (h.ab.pin p hp))]; exact h2, h3⟩
  · by_cases z : pv b
    · obtain ⟨_, ⟨o', e'⟩, _⟩ := h.p b z
      rw [frz_of z e'] at e; cases e
      exact rawO_ok e'
    · rw [frz_not z] at e
      exact (I.hok b o e).stay (fun c u _ y => y) (fun c y => h.same y) fun c xs y => h.same y
end
end EV
end

section
set_option maxHeartbeats 4000000
/-! EV69: list(g(..)). -/
namespace EV
open PySem L2 PyProof.Rows
section
variable {X : Cx} {A : Around} {T : Tab} {W : WX} {d : GId} {pins : List (Addr × Obj)} {σ : L2.St} {ρ : Env} {H S : Hp} {L : Nat → Option Addr} {s s' : Shared} {zs : List D} {E : XK} {EC : Hp → Hp → Prop}
/-- the consumer's own steps with a thing q of its own -/
theorem Nap.own {bg : Bool} {q : Addr} {o : HO} (N : Nap X A T d zs bg E EC s H S) (hg : s'.gens = s.gens) (hk : ∀ b u, b ≠ q → s.heap.get? b = some u → s'.heap.get? b = some u) (hq : H q ≠ none ∨ s.heap.get? q = none) : Nap X A T d zs bg E EC s' (upd H q o) S := by
  obtain ⟨gs, pv, S₀, s₀, hsu, hgs, hga, ss, hpv, pva, hge, go⟩ := N
  have ne : ∀ b, pv b → b ≠ q := fun b hb z => by
    obtain ⟨_, _, ⟨u, a3⟩, a4, _⟩ := hpv b hb
    rcases hq with h | h
    · rw [z] at a4; exact h a4
    · rw [z, h] at a3; cases a3
  refine ⟨gs, pv, S₀, s₀, hsu, by rw [hg]; exact hgs, hk _ _ (ne _ pva) hga, ss, fun b hb => ?_, pva, fun i x h1 h2 h3 => by rw [hg]; exact hge i x h1 h2 h3, go⟩
  obtain ⟨a1, a2, ⟨u, a3⟩, a4, a5⟩ := hpv b hb
  have a6 := hk b u (ne b hb) a3
  exact ⟨a1, a6.trans (a3.symm.trans a2), ⟨u, a6⟩, by rw [upd_ne (ne b hb)]; exact a4, a5⟩
theorem Nap.obj {bg : Bool} (N : Nap X A T d zs bg E EC s H S) : s.heap.get? d.a = some d.go := let ⟨_, _, _, _, _, _, h, _⟩ := N; h
theorem Kp.back {S' H' : Hp} {q : Addr} {o : HO} (k : Kp S (upd H q o) S' H') (hq : H q = none) : Kp S H S' H' := by
  refine ⟨k.s, fun b u e => k.h b u ?_, k.sub, fun b h1 h2 => k.hid b ?_ h2⟩
  · rw [upd_ne (fun z => by rw [z, hq] at e; cases e)]; exact e
  · rw [upd_ne (fun z => by rw [z] at h1; exact h1 hq)]; exact h1
end
end EV
end

section
set_option maxHeartbeats 4000000
namespace LW
open PySem L2 EV
def top (i : Nat) : Stmt := PySem.Challenge.pw_millsluices_k01_settings_and_turns.main.body.getD i (.Pass ⟨0, 0, 0, 0⟩)
abbrev st_law_digits : Stmt := top 19
def d_law_digits : He.DefD := ⟨("_law_digits", none), "_law_digits", "_law_digits", defArgs st_law_digits, defBody st_law_digits, defScope st_law_digits, [], []⟩
abbrev st_law_cell : Stmt := top 18
def d_law_cell : He.DefD := ⟨("_law_cell", none), "_law_cell", "_law_cell", defArgs st_law_cell, defBody st_law_cell, defScope st_law_cell, [], []⟩
abbrev st_law_small : Stmt := top 20
def d_law_small : He.DefD := ⟨("_law_small", none), "_law_small", "_law_small", defArgs st_law_small, defBody st_law_small, defScope st_law_small, [], []⟩
abbrev st_law_free : Stmt := top 21
def d_law_free : He.DefD := ⟨("_law_free", none), "_law_free", "_law_free", defArgs st_law_free, defBody st_law_free, defScope st_law_free, [], []⟩
abbrev st_law_ground : Stmt := top 22
def d_law_ground : He.DefD := ⟨("_law_ground", none), "_law_ground", "_law_ground", defArgs st_law_ground, defBody st_law_ground, defScope st_law_ground, [], []⟩
abbrev st_frozen : Stmt := top 12
def d_frozen : He.DefD := ⟨("frozen", none), "frozen", "frozen", defArgs st_frozen, defBody st_frozen, defScope st_frozen, [], []⟩
abbrev st_check_pairs : Stmt := top 14
def d_check_pairs : He.DefD := ⟨("check_pairs", none), "check_pairs", "check_pairs", defArgs st_check_pairs, defBody st_check_pairs, defScope st_check_pairs, [], []⟩
abbrev st_Valley__init : Stmt := inClass (top 15) 0
def d_Valley__init : He.DefD := ⟨("Valley", some "__init__"), "__init__", "Valley.__init__", defArgs st_Valley__init, defBody st_Valley__init, defScope st_Valley__init, [.adr (He.dflAt ("Valley", some "__init__") 0)], []⟩
abbrev st_law_row : Stmt := top 31
def d_law_row : He.DefD := ⟨("_law_row", none), "_law_row", "_law_row", defArgs st_law_row, defBody st_law_row, defScope st_law_row, [], []⟩
abbrev st_law_form : Stmt := top 29
def d_law_form : He.DefD := ⟨("_law_form", none), "_law_form", "_law_form", defArgs st_law_form, defBody st_law_form, defScope st_law_form, [], []⟩
abbrev st_law_values : Stmt := top 35
def d_law_values : He.DefD := ⟨("_law_values", none), "_law_values", "_law_values", defArgs st_law_values, defBody st_law_values, defScope st_law_values, [], []⟩
abbrev st_law_handed : Stmt := top 25
def d_law_handed : He.DefD := ⟨("_law_handed", none), "_law_handed", "_law_handed", defArgs st_law_handed, defBody st_law_handed, defScope st_law_handed, [], []⟩
abbrev st_law_turns : Stmt := top 28
def d_law_turns : He.DefD := ⟨("_law_turns", none), "_law_turns", "_law_turns", defArgs st_law_turns, defBody st_law_turns, defScope st_law_turns, [], []⟩
abbrev st_law_whole : Stmt := top 17
def d_law_whole : He.DefD := ⟨("_law_whole", none), "_law_whole", "_law_whole", defArgs st_law_whole, defBody st_law_whole, defScope st_law_whole, [], []⟩
abbrev st_law_same : Stmt := top 23
def d_law_same : He.DefD := ⟨("_law_same", none), "_law_same", "_law_same", defArgs st_law_same, defBody st_law_same, defScope st_law_same, [], []⟩
abbrev st_feeds : Stmt := top 2
def d_feeds : He.DefD := ⟨("feeds", none), "feeds", "feeds", defArgs st_feeds, defBody st_feeds, defScope st_feeds, [], []⟩
abbrev st_turned : Stmt := top 4
def d_turned : He.DefD := ⟨("turned", none), "turned", "turned", defArgs st_turned, defBody st_turned, defScope st_turned, [], []⟩
abbrev st_fed : Stmt := top 3
def d_fed : He.DefD := ⟨("fed", none), "fed", "fed", defArgs st_fed, defBody st_fed, defScope st_fed, [], []⟩
abbrev st_law_fed : Stmt := top 27
def d_law_fed : He.DefD := ⟨("_law_fed", none), "_law_fed", "_law_fed", defArgs st_law_fed, defBody st_law_fed, defScope st_law_fed, [], []⟩
abbrev st_differing : Stmt := top 5
def d_differing : He.DefD := ⟨("differing", none), "differing", "differing", defArgs st_differing, defBody st_differing, defScope st_differing, [], []⟩
abbrev st_law_differs : Stmt := top 30
def d_law_differs : He.DefD := ⟨("_law_differs", none), "_law_differs", "_law_differs", defArgs st_law_differs, defBody st_law_differs, defScope st_law_differs, [], []⟩
abbrev st_law_walked : Stmt := top 32
def d_law_walked : He.DefD := ⟨("_law_walked", none), "_law_walked", "_law_walked", defArgs st_law_walked, defBody st_law_walked, defScope st_law_walked, [], []⟩
abbrev st_law_settings : Stmt := top 26
def d_law_settings : He.DefD := ⟨("_law_settings", none), "_law_settings", "_law_settings", defArgs st_law_settings, defBody st_law_settings, defScope st_law_settings, [], []⟩
abbrev st_settings : Stmt := top 6
def d_settings : He.DefD := ⟨("settings", none), "settings", "settings", defArgs st_settings, defBody st_settings, defScope st_settings, [], []⟩
abbrev st_law_same_rows : Stmt := top 24
def d_law_same_rows : He.DefD := ⟨("_law_same_rows", none), "_law_same_rows", "_law_same_rows", defArgs st_law_same_rows, defBody st_law_same_rows, defScope st_law_same_rows, [], []⟩
abbrev st_law_listed : Stmt := top 36
def d_law_listed : He.DefD := ⟨("_law_listed", none), "_law_listed", "_law_listed", defArgs st_law_listed, defBody st_law_listed, defScope st_law_listed, [], []⟩
abbrev st_law_truth : Stmt := top 33
def d_law_truth : He.DefD := ⟨("_law_truth", none), "_law_truth", "_law_truth", defArgs st_law_truth, defBody st_law_truth, defScope st_law_truth, [], []⟩
abbrev st_is_setting : Stmt := top 7
def d_is_setting : He.DefD := ⟨("is_setting", none), "is_setting", "is_setting", defArgs st_is_setting, defBody st_is_setting, defScope st_is_setting, [], []⟩
abbrev st_law_judged : Stmt := top 34
def d_law_judged : He.DefD := ⟨("_law_judged", none), "_law_judged", "_law_judged", defArgs st_law_judged, defBody st_law_judged, defScope st_law_judged, [], []⟩
abbrev st_law : Stmt := top 37
def d_law : He.DefD := ⟨("law", none), "law", "law", defArgs st_law, defBody st_law, defScope st_law, [], []⟩
def fn : List He.DefD := [d_law_digits, d_law_cell, d_law_small, d_law_free, d_law_ground, d_frozen, d_check_pairs, d_Valley__init, d_law_row, d_law_form, d_law_values, d_law_handed, d_law_turns, d_law_whole, d_law_same, d_feeds, d_turned, d_fed, d_law_fed, d_differing, d_law_differs, d_law_walked, d_law_settings, d_settings, d_law_same_rows, d_law_listed, d_law_truth, d_is_setting, d_law_judged, d_law]
def gt : List (Str × Str × He.DefD) := []
def fa : List He.Fa := [.glo "_law_digits", .glo "_law_cell", .glo "_law_small", .glo "_law_free", .glo "_law_ground", .glo "frozen", .glo "check_pairs", .glo "_law_row", .glo "_law_form", .glo "_law_values", .glo "_law_handed", .glo "_law_turns", .glo "_law_whole", .glo "_law_same", .glo "feeds", .glo "turned", .glo "fed", .glo "_law_fed", .glo "differing", .glo "_law_differs", .glo "_law_walked", .glo "_law_settings", .glo "settings", .glo "_law_same_rows", .glo "_law_listed", .glo "_law_truth", .glo "is_setting", .glo "_law_judged", .glo "law", .glo "Valley", .free "abs", .free "all", .free "bool", .free "enumerate", .free "int", .free "isinstance", .free "len", .free "list", .free "max", .free "min", .free "range", .free "tuple", .free "zip", .cls "Valley", .noat "Valley" "mills", .noat "Valley" "sluices", .mkr "Valley"]
def ckl (K : PySem.W.Frag) : List Bool := [(gt.all fun q => okA K (getAd K (He.ga K q.1) q.2.1) q.2.2 && propB K (He.ga K q.1) q.2.1)]
def chk (K : PySem.W.Frag) : Bool := (ckl K).all id
structure Says (K : PySem.W.Frag) : Prop where
  d : He.SaysD fa fn K
  k : chk K = true
  g : (gt.map fun q => fnWA K (getAd K (He.ga K q.1) q.2.1)) = gt.map fun q => q.2.2.val
theorem Says.ck {K : PySem.W.Frag} (c : Says K) (i : Nat) {b : Bool} (h : (ckl K)[i]? = some b) : b = true := List.all_eq_true.mp c.k b (List.mem_of_getElem? h)
theorem Says.fn {K : PySem.W.Frag} (c : Says K) (i : Nat) {d : He.DefD} (h : LW.fn[i]? = some d := by rfl) : ∃ fd, FunD K d.name d.qual d.params d.body d.scope (d.dvs K) (d.kws K) (He.fAd K d.at_) fd := c.d.def_ i h
theorem Says.gta {K : PySem.W.Frag} (c : Says K) : ∀ q ∈ LW.gt, (okA K (getAd K (He.ga K q.1) q.2.1) q.2.2 && propB K (He.ga K q.1) q.2.1) = true := List.all_eq_true.mp (c.ck 0 rfl)
theorem Says.gt {K : PySem.W.Frag} (c : Says K) (i : Nat) {q : Str × Str × He.DefD} (h : LW.gt[i]? = some q := by rfl) : ∃ fd, FunD K q.2.2.name q.2.2.qual q.2.2.params q.2.2.body q.2.2.scope (q.2.2.dvs K) (q.2.2.kws K) (getAd K (He.ga K q.1) q.2.1) fd := by
  have e : (LW.gt.map fun q => fnWA K (getAd K (He.ga K q.1) q.2.1))[i]? = (LW.gt.map fun q => q.2.2.val)[i]? := by rw [c.g]
  rw [List.getElem?_map, List.getElem?_map, h] at e
  exact funA (Option.some.inj e) (He.ba (c.gta q (List.mem_of_getElem? h))).1
structure Hyp (K : PySem.W.Frag) (mg : Str → Option Value) : Prop where
  says : Says K
  ns : ∃ h : Heap, K.In h ∧ h.Ns mainGlobals mg
section
variable {K : PySem.W.Frag} {mg : Str → Option Value}
end
end LW
end

section
set_option maxHeartbeats 4000000
namespace LW
open PySem L2 EV
open PySem.Spec PyProof.Rows
def loose0 : List Str := ["_wall", "feeds", "fed", "turned", "differing", "settings", "is_setting", "SluiceError", "BadSluice", "frozen", "check_pairs", "Valley", "_law_whole", "_law_cell", "_law_digits", "_law_small", "_law_free", "_law_ground", "_law_same", "_law_same_rows", "_law_handed", "_law_settings", "_law_fed", "_law_turns", "_law_form", "_law_differs", "_law_row", "_law_walked", "_law_truth", "_law_judged"]
def loose1 : List Str := ["_law_values", "_law_listed"]
def loose : List Str := loose0 ++ loose1
abbrev RowL : PySem.W.OpenRow := PySem.W.OpenLaw.row PySem.Challenge.rw_millsluices_k01_settings_and_turns
abbrev AlG : Type := (He.AlD × Bool) × List He.FnW
def obA (K : PySem.W.Frag) : AlG := ((He.obsD fa fn K, chk K), gt.map fun q => fnWA K (getAd K (He.ga K q.1) q.2.1))
def nxtN (g : Addr → Option Obj) (a : Addr) : List Addr := match g a with
  | some o => (match o.data with
    | .seq its _ => its.toList.flatMap He.refV
    | .dict es _ => es.toList.flatMap fun e => He.refV e.val
    | .func fd => He.refV fd.code ++ (He.refV fd.defaults ++ He.refV fd.kwdefaults)
    | .cls cd => [cd.ns]
    | .fields vs => vs.toList.flatMap He.refV
    | _ => [])
  | none => []
def goN (g : Addr → Option Obj) : Nat → List Addr → List Addr
  | 0, l => l
  | n + 1, l => l ++ goN g n (l.flatMap (nxtN g))
def obG (n : Nat) (g : Addr → Option Obj) : AlG := obA (He.frG g (goN g n [mainGlobals]))
def valA : AlG := ((He.valD fn, true), gt.map fun q => q.2.2.val)
theorem of_A {K : PySem.W.Frag} (e : obA K = valA) : Says K := ⟨congrArg (fun z : AlG => z.1.1) e, congrArg (fun z : AlG => z.1.2) e, congrArg (fun z : AlG => z.2) e⟩
def hk : PySem.W.Hook where
  α := AlG
  obs := fun s => obG 5 s.heap.get?
  val := fun _ => valA
  says := fun _ h => ∃ K : PySem.W.Frag, K.In h ∧ Says K
  of := fun _ _ e => ⟨_, He.frG_in, of_A e⟩
  keeps := fun _ _ _ ⟨K, hK, c⟩ k => ⟨K, PySem.W.Frag.In.keeps hK k, c⟩
def ob (s : PySem.W.SharedT) : AlG := obG 5 (HandSHeadRun.getT s)
theorem ob_eq (s : PySem.W.SharedT) : ob s = hk.obs s.abs := by
  have e : HandSHeadRun.getT s = s.abs.heap.get? := funext fun a => HandSHeadRun.getT_eq s a
  show obG 5 (HandSHeadRun.getT s) = obG 5 s.abs.heap.get?
  rw [e]
theorem run (w : World) : HandSHeadRun.RunEq RowL (PySem.W.view RowL.prog [37]) hk ob 9000 loose w := by
  intro os
  kernel_rfl
end LW
end

section
set_option maxHeartbeats 4000000
/-! EV: expressions and statements as partial functions over heap-free data. -/
namespace EV
open PySem L2

theorem dct_ins {a C dx : Addr} {ks : List (List Int)} {bs : List Addr} {vs : List V} {fs : List (Str × V)} (h : some (HO.ins C dx fs) = some (dctO a ks bs vs)) : False := by
  unfold dctO at h
  split at h <;> cases h
theorem Iss.get' {T : TabC} {H : Hp} : ∀ {vs : List V} {ds : List D} {i : Nat} {d : D}, Iss T H vs ds → ds[i]? = some d → ∃ v, vs[i]? = some v ∧ Is T H v d
  | _, _, _, _, .nil, e => by simp at e
  | _, _, 0, _, .cons h _, e => by simp at e; subst e; exact ⟨_, rfl, h⟩
  | _, _, i + 1, v, .cons _ hs, e => by
    obtain ⟨d, h1, h2⟩ := Iss.get' (i := i) (d := v) hs (by simpa using e)
    exact ⟨d, by simpa using h1, h2⟩
theorem Iss.rep {T : TabC} {H : Hp} {vs : List V} {ds : List D} (h : Iss T H vs ds) : ∀ k : Nat, Iss T H (List.replicate k vs).flatten (List.replicate k ds).flatten
  | 0 => by simp; exact .nil
  | k + 1 => by
    rw [List.replicate_succ, List.replicate_succ, List.flatten_cons, List.flatten_cons]
    exact h.append (Iss.rep h k)
/-- a new object, not yet standing -/
theorem Kp.hide {S H : Hp} {p : Addr} {o : HO} (sh : Sub S H) (hp : H p = none) (hf : isFix o = false) : Kp S H S (upd H p o) := by
  have sp : S p = none := sh.same.free hp
  refine ⟨Same.refl S, fun a u e => ?_, ⟨fun a u e => ?_, fun a u e f => ?_⟩, fun a h1 h2 => h2⟩
  · rw [upd_ne (ne_of_none e hp)]; exact e
  · rw [upd_ne (ne_of_none e sp)]; exact sh.same a u e
  · by_cases h : a = p
    · subst h; rw [upd_same] at e; cases e; rw [hf] at f; cases f
    · rw [upd_ne h] at e; exact sh.fix a u e f

def tF (T : Tab) (W : WX) (f : FE) : TE := fun σ H Q => ∃ ρ S r, Sub S H ∧ RepE T S ρ σ ∧ f ρ = some r ∧ REnd T W S H σ Q r
/-- THE judgement of an expression -/
def EE (X : Cx) (T : Tab) (W : WX) (e : Expr) (f : FE) : Prop := PE X e (tF T W f)
theorem PE.weak {X : Cx} {e : Expr} {t u : TE} (h : PE X e t) (w : ∀ σ H Q, u σ H Q → t σ H Q) : PE X e u := ⟨fun pins s σ H Q I q => h.run pins s σ H Q I (w σ H Q q)⟩

section
variable {T : Tab} {W : WX} {S H : Hp} {σ : L2.St} {ρ : Env} {Q P : VK} {f : FE} {k : D → Option R} {r : R}
/-- the first part of an expression -/
theorem tF_go (sh : Sub S H) (rep : RepE T S ρ σ) (h : R1 (f ρ) k = some r) (fin : REnd T W S H σ Q r)
    (go : ∀ d v S' H', Kp S H S' H' → Is T S' v d → RepE T S' ρ σ → k d = some r → REnd T W S' H' σ Q r → P v H') : tF T W f σ H P := by
  cases e : f ρ with
  | none => rw [e] at h; cases h
  | some q =>
    rw [e] at h
    refine ⟨ρ, S, q, sh, rep, e, ?_⟩
    cases q with
    | ok d => exact fun v S' H' kp i => go d v S' H' kp i (rep.mono kp.s) h (fin.mono kp)
    | ex x =>
      cases h
      exact fin
end

/-! ### atoms -/
section
variable {X : Cx} {T : Tab} {W : WX} {e a b : Expr} {f fa fb : FE} {pos : Pos}
def vVar (i : Nat) : FE := fun ρ => match ρ[i]? with
  | some (.v d) => some (.ok d)
  | _ => none
theorem ee_var (i : Nat) {x : Str} (hN : X.N[i]? = some x := by rfl) (hv : Vis X.env.scope x := by first | exact Or.inl rfl | exact Or.inr (Or.inl rfl) | exact Or.inr (Or.inr rfl)) (hd : (x == ("__debug__" : Str)) = false := by decide)
    (hcd : (x == ("__classdict__" : Str)) = false := by decide) : EE X T W (.Name x pos) (vVar i) := by
  refine PE.weak (pe_var hN hv hd hcd) fun σ H Q h => ?_
  obtain ⟨ρ, S, r, sh, rep, e, fin⟩ := h
  unfold vVar at e
  split at e
  · rename_i d hd'
    cases e
    obtain ⟨v, h1, h2⟩ := rep.v i d hd'
    exact ⟨v, h1, fin v S H (Kp.refl sh) h2⟩
  · cases e
theorem ee_const {v : V} {d : D} (h : PE X e (tC v)) (hi : ∀ H, Is T H v d) : EE X T W e (vC d) := by
  refine PE.weak h fun σ H Q q => ?_
  obtain ⟨ρ, S, r, sh, rep, e, fin⟩ := q
  cases e
  exact fin v S H (Kp.refl sh) (hi S)
theorem ee_int {i : Int} {j} : EE X T W (.Constant (.int i) j pos) (vC (.int i)) := ee_const pe_int fun _ => .int i
theorem ee_bl {b : Bool} {j} : EE X T W (.Constant (.bool b) j pos) (vC (.bl b)) := ee_const pe_bl fun _ => .bl b
def Op1 (T : TabC) (r : V → Hp → VK → Prop) (o : D → Option D) : Prop := ∀ (S H : Hp) (x : V) (p d : D) (Q : VK), Sub S H → Is T S x p → o p = some d → (∀ v S' H', Kp S H S' H' → Is T S' v d → Q v H') → r x H Q
def v1 (o : D → Option D) (fa : FE) : FE := fun ρ => R1 (fa ρ) fun p => okO (o p)
theorem okO_inv {o : Option D} {r : R} (h : okO o = some r) : ∃ d, o = some d ∧ r = .ok d := by
  cases o with
  | none => cases h
  | some d => cases h; exact ⟨d, rfl, rfl⟩
theorem w2 {r : R2} {o : D → D → Option D} (h : Op2 T r o) (σ : L2.St) (H : Hp) (Q : VK) (q : tF T W (v2 o fa fb) σ H Q) : tOp r (tF T W fa) (tF T W fb) σ H Q := by
  obtain ⟨ρ, S, z, sh, rep, e, fin⟩ := q
  refine tF_go sh rep e fin fun p x S1 H1 k1 i1 rep1 e1 fin1 => ?_
  refine tF_go k1.sub rep1 e1 fin1 fun p2 y S2 H2 k2 i2 rep2 e2 fin2 => ?_
  obtain ⟨d, e3, rfl⟩ := okO_inv e2
  exact h S2 H2 x y p p2 d Q k2.sub (i1.mono k2.s) i2 e3 fin2
theorem ee_op {op : Operator} {r : R2} {o : D → D → Option D} (ho : OpR X (binaryOp op) r) (h : Op2 T r o) (ha : EE X T W a fa) (hb : EE X T W b fb) : EE X T W (.BinOp a op b pos) (v2 o fa fb) :=
  PE.weak (pe_op ho ha hb) (w2 h)
theorem ee_cmp {op : CmpOp} {r : R2} {o : D → D → Option D} (ho : OpR X (compareOp op) r) (h : Op2 T r o) (ha : EE X T W a fa) (hb : EE X T W b fb) (hm : behindInMarks op b = false) : EE X T W (.Compare a [op] [b] pos) (v2 o fa fb) :=
  PE.weak (pe_cmpR ho ha hb hm) (w2 h)
theorem ee_un {op : UnaryOp} {r : V → Hp → VK → Prop} {o : D → Option D} (ho : UnR X (unaryOp op) r) (h : Op1 T r o) (ha : EE X T W a fa) : EE X T W (.UnaryOp op a pos) (v1 o fa) := by
  refine PE.weak (pe_un ho ha) fun σ H Q q => ?_
  obtain ⟨ρ, S, z, sh, rep, e, fin⟩ := q
  refine tF_go sh rep e fin fun p x S1 H1 k1 i1 rep1 e1 fin1 => ?_
  obtain ⟨d, e3, rfl⟩ := okO_inv e1
  exact h S1 H1 x p d Q k1.sub i1 e3 fin1
end
end EV
end

section
set_option maxHeartbeats 4000000
/-! EV2: operators, subscripts, slices, comparisons. -/
namespace EV
open PySem L2

theorem pls_all {n : Nat} : ∀ {xs : List D}, D.pls n xs = true ↔ ∀ x ∈ xs, D.pl n x = true
  | [] => by simp [D.pls]
  | x :: xs => by
    rw [D.pls, Bool.and_eq_true, pls_all]
    simp

theorem shaped_of {n : Nat} {d : D} (h : D.pl n d = true) (hn : n ≤ 64) : SeqAt.shaped (D.py d) = true := by
  have q := shaped_pl n d h
  unfold SeqAt.shaped
  rw [q.1, decide_eq_true (Nat.le_trans q.2 hn)]
  rfl
/-! ### arithmetic -/
def addD : D → D → Option D
  | .int i, .int j => some (.int (i + j))
  | .lst xs, .lst ys => if xs.length + ys.length ≤ 100000 then some (.lst (xs ++ ys)) else none
  | .tup xs, .tup ys => if xs.length + ys.length ≤ 100000 then some (.tup (xs ++ ys)) else none
  | .str x, .str y => if x.length + y.length ≤ 100000 then some (.str (x ++ y)) else none
  | _, _ => none
def mulD : D → D → Option D
  | .int i, .int j => if (-(2 ^ 64) < i ∧ i < 2 ^ 64) ∨ (-(2 ^ 64) < j ∧ j < 2 ^ 64) then some (.int (i * j)) else none
  | .lst xs, .int k => if -(2 ^ 63) ≤ k ∧ k < 2 ^ 63 ∧ xs.length * k.toNat ≤ 100000 then some (.lst (List.replicate k.toNat xs).flatten) else none
  | _, _ => none
def fdivD : D → D → Option D
  | .int i, .int j => if 0 < j ∧ j < 1073741824 then some (.int (i / j)) else none
  | _, _ => none
def powD : D → D → Option D
  | .int i, .int j => if 0 ≤ j ∧ j ≤ 1000000 ∧ i.natAbs < 2 ^ 64 then some (.int (i ^ j.toNat)) else none
  | _, _ => none
def negD : D → Option D
  | .int i => some (.int (-i))
  | _ => none
abbrev leD := cmpD fun i j => decide (i ≤ j)
abbrev geD := cmpD fun i j => decide (j ≤ i)
def eqD (p q : D) : Option D := if D.pl 8 p && D.pl 8 q then some (.bl (D.eqv p q)) else none
def D.isNon : D → Bool
  | .non => true
  | _ => false
def isNonD : D → D → Option D
  | p, .non => some (.bl p.isNon)
  | _, _ => none
def notNonD : D → D → Option D
  | p, .non => some (.bl (!p.isNon))
  | _, _ => none

theorem line_of {n : Nat} (h : n ≤ 100000) : n ≤ sizeLine := by rw [sizeLine_eq]; omega
theorem line_lt {n : Nat} (h : n < 100000) : n < sizeLine := by rw [sizeLine_eq]; omega
section
variable {T : Tab} {X : Cx}
theorem o_I0 {g : Int → Int → D} {gv : Int → Int → V} {o : D → D → Option D} (hg : ∀ H i j, Is T H (gv i j) (g i j)) (ho : ∀ p q d, o p q = some d → ∃ i j, p = .int i ∧ q = .int j ∧ d = g i j) : Op2 T (rI0 gv) o := by
  intro S H x y p q d Q sh i1 i2 e fin
  obtain ⟨i, j, rfl, rfl, rfl⟩ := ho p q d e
  cases i1
  cases i2
  exact ⟨i, j, rfl, rfl, fin _ S H (Kp.refl sh) (hg S i j)⟩
theorem o_I {C : Int → Int → Prop} {g : Int → Int → D} {gv : Int → Int → V} {o : D → D → Option D} (hg : ∀ H i j, Is T H (gv i j) (g i j)) (ho : ∀ p q d, o p q = some d → ∃ i j, p = .int i ∧ q = .int j ∧ C i j ∧ d = g i j) : Op2 T (rI C gv) o := by
  intro S H x y p q d Q sh i1 i2 e fin
  obtain ⟨i, j, rfl, rfl, c, rfl⟩ := ho p q d e
  cases i1
  cases i2
  exact ⟨i, j, rfl, rfl, c, fin _ S H (Kp.refl sh) (hg S i j)⟩

def addI : D → D → Option D
  | .int i, .int j => some (.int (i + j))
  | _, _ => none
def addL : D → D → Option D
  | .lst xs, .lst ys => if xs.length + ys.length ≤ 100000 then some (.lst (xs ++ ys)) else none
  | _, _ => none
def addT : D → D → Option D
  | .tup xs, .tup ys => if xs.length + ys.length ≤ 100000 then some (.tup (xs ++ ys)) else none
  | _, _ => none
def addS : D → D → Option D
  | .str x, .str y => if x.length + y.length ≤ 100000 then some (.str (x ++ y)) else none
  | _, _ => none
theorem o_addI : Op2 T (rI0 fun i j => .int (i + j)) addI := o_I0 (g := fun i j => .int (i + j)) (fun _ i j => .int _) fun p q d e => by
  unfold addI at e
  split at e <;> cases e
  exact ⟨_, _, rfl, rfl, rfl⟩
theorem o_addL : Op2 T rCat addL := by
  intro S H x y p q d Q sh i1 i2 e fin
  unfold addL at e
  split at e <;> try cases e
  rename_i xs ys
  split at e <;> cases e
  rename_i hl
  cases i1 with
  | @lst a1 vs1 _ h1 s1 => cases i2 with
    | @lst a2 vs2 _ h2 s2 =>
      refine ⟨_, _, _, _, rfl, rfl, sh.same _ _ h1, sh.same _ _ h2, ?_, fun np hp => ?_⟩
      · rw [s1.length, s2.length]; exact line_of hl
      · have k := Kp.new (o := .lst (vs1 ++ vs2)) sh hp
        exact fin _ _ _ k (.lst upd_same ((s1.mono k.s).append (s2.mono k.s)))
theorem o_addT {K : PySem.W.Frag} (hK : K = T.K) : Op2 T (rCatA K) addT := by
  subst hK
  intro S H x y p q d Q sh i1 i2 e fin
  unfold addT at e
  split at e <;> try cases e
  rename_i xs ys
  split at e <;> cases e
  rename_i hl
  cases i1 with
  | @tup a1 vs1 _ h1 s1 => cases i2 with
    | @tup a2 vs2 _ h2 s2 =>
      refine ⟨_, _, _, _, rfl, rfl, Same.seqT sh.same h1, Same.seqT sh.same h2, ?_, fun z => ?_, fun z1 z2 => ?_, fun z1 z2 np hp => ?_⟩
      · rw [s1.length, s2.length]; exact line_of hl
      · subst z
        cases s1
        exact fin _ S H (Kp.refl sh) (.tup h2 s2)
      · subst z2
        cases s2
        rw [List.append_nil] at *
        exact fin _ S H (Kp.refl sh) (.tup h1 s1)
      · have k := Kp.new (o := .tup (vs1 ++ vs2)) sh hp
        exact fin _ _ _ k (.tup (SqT.of upd_same) ((s1.mono k.s).append (s2.mono k.s)))
theorem o_addS : Op2 T (fun x y H Q => ∃ i j, x = .str i ∧ y = .str j ∧ i.length + j.length ≤ sizeLine ∧ Q (.str (i ++ j)) H) addS := by
  intro S H x y p q d Q sh i1 i2 e fin
  unfold addS at e
  split at e <;> try cases e
  split at e <;> cases e
  rename_i hl
  cases i1
  cases i2
  exact ⟨_, _, rfl, rfl, line_of hl, fin _ S H (Kp.refl sh) (.str _)⟩
theorem o_add {K : PySem.W.Frag} (hK : K = T.K) : Op2 T (fun x y H Q => (rI0 (fun i j => .int (i + j)) x y H Q ∨ rCat x y H Q) ∨ (rCatA K x y H Q ∨ ∃ i j, x = .str i ∧ y = .str j ∧ i.length + j.length ≤ sizeLine ∧ Q (.str (i ++ j)) H)) addD := by
  refine Op2.or (o1 := fun p q => if (addI p q).isSome then addI p q else addL p q) (o2 := fun p q => if (addT p q).isSome then addT p q else addS p q)
    (Op2.or o_addI o_addL fun p q d e => ?_) (Op2.or (o_addT hK) o_addS fun p q d e => ?_) fun p q d e => ?_
  · split at e
    · exact .inl e
    · exact .inr e
  · split at e
    · exact .inl e
    · exact .inr e
  · unfold addD at e
    split at e
    · exact .inl e
    · exact .inl e
    · split at e <;> cases e
      rename_i h
      exact .inr (by simp [addT, h])
    · exact .inr e
    · cases e
variable {W : WX} {a b : Expr} {fa fb : FE} {pos : Pos}
theorem ee_add (hK : X.K = T.K := by rfl) (ha : EE X T W a fa) (hb : EE X T W b fb) : EE X T W (.BinOp a .Add b pos) (v2 addD fa fb) := ee_op ((op_add.or op_cat).or (op_catA.or op_add_str)) (o_add hK) ha hb
theorem ee_sub (ha : EE X T W a fa) (hb : EE X T W b fb) : EE X T W (.BinOp a .Sub b pos) (v2 subD fa fb) := ee_op op_sub (o_I0 (g := fun i j => .int (i - j)) (fun _ i j => .int _) fun p q d e => by
  unfold subD at e
  split at e <;> cases e
  exact ⟨_, _, rfl, rfl, rfl⟩) ha hb
theorem ee_mul (ha : EE X T W a fa) (hb : EE X T W b fb) : EE X T W (.BinOp a .Mult b pos) (v2 mulD fa fb) := by
  refine ee_op (op_mul.or op_rep) (Op2.or (o1 := fun p q => match p, q with | .int _, .int _ => mulD p q | _, _ => none) (o2 := fun p q => match p, q with | .lst _, .int _ => mulD p q | _, _ => none)
    (o_I (g := fun i j => .int (i * j)) (fun _ i j => .int _) fun p q d e => ?_) ?_ fun p q d e => ?_) ha hb
  · split at e <;> try cases e
    simp only [mulD] at e
    split at e <;> cases e
    rename_i h
    exact ⟨_, _, rfl, rfl, h, rfl⟩
  · intro S H x y p q d Q sh i1 i2 e fin
    dsimp only at e
    split at e <;> try cases e
    rename_i xs kk
    simp only [mulD] at e
    split at e <;> cases e
    rename_i h
    cases i1 with
    | @lst a1 vs1 _ h1 s1 =>
      cases i2
      refine ⟨_, _, _, rfl, rfl, sh.same _ _ h1, h.1, h.2.1, ?_, fun np hp => ?_⟩
      · rw [s1.length]; exact line_of h.2.2
      · have k := Kp.new (o := .lst (List.replicate kk.toNat vs1).flatten) sh hp
        exact fin _ _ _ k (.lst upd_same ((s1.mono k.s).rep _))
  · unfold mulD at e
    split at e
    · exact .inl e
    · exact .inr e
    · cases e
theorem ee_mod (ha : EE X T W a fa) (hb : EE X T W b fb) : EE X T W (.BinOp a .Mod b pos) (v2 modD fa fb) := ee_op op_mod (o_I (g := fun i j => .int (i % j)) (fun _ i j => .int _) fun p q d e => by
  unfold modD at e
  split at e <;> try cases e
  split at e <;> cases e
  rename_i h
  exact ⟨_, _, rfl, rfl, h, rfl⟩) ha hb
theorem ee_fdiv (ha : EE X T W a fa) (hb : EE X T W b fb) : EE X T W (.BinOp a .FloorDiv b pos) (v2 fdivD fa fb) := ee_op op_fdiv (o_I (g := fun i j => .int (i / j)) (fun _ i j => .int _) fun p q d e => by
  unfold fdivD at e
  split at e <;> try cases e
  split at e <;> cases e
  rename_i h
  exact ⟨_, _, rfl, rfl, h, rfl⟩) ha hb
theorem ee_pow (ha : EE X T W a fa) (hb : EE X T W b fb) : EE X T W (.BinOp a .Pow b pos) (v2 powD fa fb) := ee_op op_pow (o_I (g := fun i j => .int (i ^ j.toNat)) (fun _ i j => .int _) fun p q d e => by
  unfold powD at e
  split at e <;> try cases e
  split at e <;> cases e
  rename_i h
  exact ⟨_, _, rfl, rfl, h, rfl⟩) ha hb
theorem ee_neg (ha : EE X T W a fa) : EE X T W (.UnaryOp .USub a pos) (v1 negD fa) := by
  refine ee_un un_neg (fun S H x p d Q sh i1 e fin => ?_) ha
  unfold negD at e
  split at e <;> cases e
  cases i1
  exact ⟨_, rfl, fin _ S H (Kp.refl sh) (.int _)⟩
theorem o_cmp {c : Int → Int → Bool} : Op2 T (rI0 fun i j => .bl (c i j)) (cmpD c) := o_I0 (g := fun i j => .bl (c i j)) (fun _ i j => .bl _) fun p q d e => by
  unfold cmpD at e
  split at e <;> cases e
  exact ⟨_, _, rfl, rfl, rfl⟩
theorem ee_gt (ha : EE X T W a fa) (hb : EE X T W b fb) : EE X T W (.Compare a [.Gt] [b] pos) (v2 gtD fa fb) := ee_cmp op_gt o_cmp ha hb (nomark _)
theorem o_eq {K : PySem.W.Frag} (hK : K = T.K) : Op2 T (rEqD K) eqD := by
  subst hK
  intro S H x y p q d Q sh i1 i2 e fin
  unfold eqD at e
  split at e <;> cases e
  rename_i h
  rw [Bool.and_eq_true] at h
  refine ⟨_, _, (i1.mono sh.same).dp h.1, (i2.mono sh.same).dp h.2, shaped_of h.1 (by decide), shaped_of h.2 (by decide), ?_⟩
  rw [eqv_py 8 p q h.1 h.2]
  exact fin _ S H (Kp.refl sh) (.bl _)
theorem o_ne {K : PySem.W.Frag} (hK : K = T.K) : Op2 T (rNeD K) neD := by
  subst hK
  intro S H x y p q d Q sh i1 i2 e fin
  unfold neD at e
  split at e <;> cases e
  rename_i h
  rw [Bool.and_eq_true] at h
  refine ⟨_, _, (i1.mono sh.same).dp h.1, (i2.mono sh.same).dp h.2, shaped_of h.1 (by decide), shaped_of h.2 (by decide), ?_⟩
  rw [eqv_py 8 p q h.1 h.2]
  exact fin _ S H (Kp.refl sh) (.bl _)
theorem ee_eq {n : Nat} (hr : Room n X.A) (hK : X.K = T.K := by rfl) (ha : EE X T W a fa) (hb : EE X T W b fb) : EE X T W (.Compare a [.Eq] [b] pos) (v2 eqD fa fb) := ee_cmp (op_eqD hr.units) (o_eq hK) ha hb (nomark _)
/-! ### in -/
def inD : D → D → Option D
  | p, .lst xs => if D.pl 8 p && D.pls 8 xs then some (.bl (xs.any fun z => D.eqv z p)) else none
  | p, .tup xs => if D.pl 8 p && D.pls 8 xs then some (.bl (xs.any fun z => D.eqv z p)) else none
  | _, _ => none
theorem any_py {p : D} (hp : D.pl 8 p = true) : ∀ {xs : List D}, D.pls 8 xs = true → ((D.pys xs).any fun z => PyData.eqv z (D.py p)) = xs.any fun z => D.eqv z p
  | [], _ => by simp [D.pys]
  | x :: xs, h => by
    rw [D.pls, Bool.and_eq_true] at h
    rw [D.pys, List.any_cons, List.any_cons, eqv_py 8 x p h.1 hp, any_py hp h.2]
def rAmong (K : PySem.W.Frag) (neg : Bool) : R2 := fun x y H Q => ∃ d ds, Dp K H x d ∧ (Dp K H y (.list ds) ∨ Dp K H y (.tuple ds)) ∧ d.canLay0 = true ∧ PyData.canLayAll0 ds = true ∧ d.depth ≤ 60 ∧ Q (.bl (if neg then !(ds.any fun z => PyData.eqv z d) else ds.any fun z => PyData.eqv z d)) H
theorem op_among (hu : X.A.units + 64 < cLine) : OpR X (compareOp .In) (rAmong X.K false) := by
  intro pins s σ H x y v u Q I rx ry h
  obtain ⟨d, ds, hd, he, c1, c2, hdp, q⟩ := h
  obtain ⟨as, r1⟩ := Dp.reads I d x v hd rx
  have hm : X.A.units + 1 + min (PyData.depthAll ds) d.depth < cLine := by
    have := Nat.min_le_right (PyData.depthAll ds) d.depth
    omega
  rcases he with he | he
  · obtain ⟨bs, r2⟩ := Dp.reads I (.list ds) y u he ry
    exact SeqAt.in_list_reads r2 r1 c2 c1 hm ⟨.bl _, H, I, rfl, q⟩
  · obtain ⟨bs, r2⟩ := Dp.reads I (.tuple ds) y u he ry
    exact SeqAt.in_tuple_reads r2 r1 c2 c1 hm ⟨.bl _, H, I, rfl, q⟩
theorem among_go {K : PySem.W.Frag} (hK : K = T.K) {neg : Bool} {S H : Hp} {x y : V} {p : D} {xs : List D} {Q : VK} (sh : EV.Sub S H) (i1 : Is T S x p) (h : (D.pl 8 p && D.pls 8 xs) = true) (i2 : Is T S y (.lst xs) ∨ Is T S y (.tup xs))
    (fin : Q (.bl (if neg then !(xs.any fun z => D.eqv z p) else xs.any fun z => D.eqv z p)) H) : rAmong K neg x y H Q := by
  subst hK
  rw [Bool.and_eq_true] at h
  have q1 := shaped_pl 8 p h.1
  have q2 := shaped_pls 8 xs h.2
  refine ⟨D.py p, D.pys xs, (i1.mono sh.same).dp h.1, ?_, q1.1, q2.1, Nat.le_trans q1.2 (by decide), by rw [any_py h.1 h.2]; exact fin⟩
  rcases i2 with i2 | i2
  · have z := (i2.mono sh.same).dp (n := 9) (by simpa [D.pl] using h.2)
    rw [D.py] at z
    exact .inl z
  · have z := (i2.mono sh.same).dp (n := 9) (by simpa [D.pl] using h.2)
    rw [D.py] at z
    exact .inr z
theorem o_in {K : PySem.W.Frag} (hK : K = T.K) : Op2 T (rAmong K false) inD := by
  intro S H x y p q d Q sh i1 i2 e fin
  unfold inD at e
  split at e <;> try cases e
  all_goals
    split at e <;> cases e
    rename_i h
    exact among_go hK sh i1 h (by first | exact .inl i2 | exact .inr i2) (fin _ S H (Kp.refl sh) (.bl _))
theorem room64 {n : Nat} (hr : Room n X.A) : X.A.units + 64 < cLine := by
  have := hr.un
  omega
theorem ee_in {n : Nat} (hr : Room n X.A) (hm : behindInMarks .In b = false) (hK : X.K = T.K := by rfl) (ha : EE X T W a fa) (hb : EE X T W b fb) : EE X T W (.Compare a [.In] [b] pos) (v2 inD fa fb) := ee_cmp (op_among (room64 hr)) (o_in hK) ha hb hm
/-! ### subscripts -/
def ixD : D → D → Option D
  | .lst xs, .int i => atI xs i
  | .tup xs, .int i => atI xs i
  | .scr ns, .int i => (atI ns i).map D.int
  | _, _ => none
theorem atI_iss {H : Hp} {vs : List V} {ds : List D} {i : Int} {d : D} (h : Iss T H vs ds) (e : atI ds i = some d) : ∃ v, atI vs i = some v ∧ Is T H v d := by
  unfold atI at e ⊢
  rw [h.length]
  cases q : ixN ds.length i with
  | none => rw [q] at e; cases e
  | some j =>
    rw [q] at e
    exact h.get' e
theorem atI_map {ns : List Int} {i j : Int} (e : atI ns i = some j) : atI (ns.map V.int) i = some (V.int j) := by
  unfold atI at e ⊢
  rw [List.length_map]
  cases q : ixN ns.length i with
  | none => rw [q] at e; cases e
  | some k =>
    rw [q] at e
    have e' : ns[k]? = some j := e
    show (ns.map V.int)[k]? = some (V.int j)
    rw [List.getElem?_map, e']
    rfl
theorem o_ix {K : PySem.W.Frag} (hK : K = T.K) : Op2 T (fun x y H Q => rIxL K x y H Q ∨ rIxT K x y H Q) ixD := by
  subst hK
  intro S H x y p q d Q sh i1 i2 e fin
  unfold ixD at e
  split at e <;> try cases e
  · cases i1 with
    | lst h1 s1 =>
      cases i2
      obtain ⟨v, h2, h3⟩ := atI_iss s1 e
      exact .inl ⟨_, _, _, _, rfl, rfl, SqL.of (sh.same _ _ h1), h2, fin _ S H (Kp.refl sh) h3⟩
  · cases i1 with
    | tup h1 s1 =>
      cases i2
      obtain ⟨v, h2, h3⟩ := atI_iss s1 e
      exact .inr ⟨_, _, _, _, rfl, rfl, Same.seqT sh.same h1, h2, fin _ S H (Kp.refl sh) h3⟩
  · cases i1 with
    | scr h1 l1 =>
      cases i2
      obtain ⟨j, h2, rfl⟩ := Option.map_eq_some_iff.mp e
      exact .inl ⟨_, _, _, _, rfl, rfl, sh.same.seq h1, atI_map h2, fin _ S H (Kp.refl sh) (.int j)⟩
theorem ee_ix (hs : PlainIx b := by exact fun _ _ => rfl) (hK : X.K = T.K := by rfl) (ha : EE X T W a fa) (hb : EE X T W b fb) : EE X T W (.Subscript a b pos) (v2 ixD fa fb) :=
  PE.weak (pe_ix (ix_list.or ix_tup) ha hb hs) (w2 (o_ix hK))

/-! ### slices -/
def cutD (xs : List D) (lo hi : Option Int) : List D := (xs.drop (HT.sIx xs.length 0 lo)).take (HT.sIx xs.length xs.length hi - HT.sIx xs.length 0 lo)
theorem Iss.cut {H : Hp} {vs : List V} {ds : List D} (h : Iss T H vs ds) (lo hi : Option Int) : Iss T H (cutV vs lo hi) (cutD ds lo hi) := by
  unfold cutV cutD
  rw [h.length]
  exact (h.drop _).take _
def sliceD : D → Option Int → Option Int → Option D
  | .lst xs, lo, hi => some (.lst (cutD xs lo hi))
  | .tup xs, lo, hi => some (.tup (cutD xs lo hi))
  | _, _, _ => none
/-- a slice's part -/
def FO := Env → Option (Option R)
def oNone : FO := fun _ => some none
def oSome (f : FE) : FO := fun ρ => (f ρ).map some
def vSlice (f : FE) (l u : FO) : FE := fun ρ => R1 (f ρ) fun d => RO (l ρ) fun lo => RO (u ρ) fun hi => okO (sliceD d lo hi)
def tO (T : Tab) (W : WX) (f : FO) : TO := fun σ H Q => ∃ ρ S r, L2.Same S H ∧ EV.Sub S H ∧ RepE T S ρ σ ∧ f ρ = some r ∧ (match r with
  | none => Q none H
  | some r => REnd T W S H σ (fun v H' => ∃ i, v = .int i ∧ Q (some i) H') r)
def EO (X : Cx) (T : Tab) (W : WX) (e : Option Expr) (f : FO) : Prop := PO X e (tO T W f)
theorem eo_none : EO X T W none oNone := ⟨fun pins s σ H Q I h => by
  obtain ⟨ρ, S, r, _, sh, rep, e, q⟩ := h
  cases e
  exact po_none.run pins s σ H Q I q⟩
theorem eo_some (h : EE X T W a fa) : EO X T W (some a) (oSome fa) := ⟨fun pins s σ H Q I hw => by
  obtain ⟨ρ, S, r, _, sh, rep, e, q⟩ := hw
  refine (po_some h).run pins s σ H Q I ?_
  obtain ⟨r', e1, rfl⟩ := Option.map_eq_some_iff.mp e
  exact ⟨ρ, S, r', sh, rep, e1, q⟩⟩
theorem tO_go {S H : Hp} {σ : L2.St} {ρ : Env} {Q : VK} {P : Option Int → Hp → Prop} {f : FO} {k : Option Int → Option R} {r : R} (sh : EV.Sub S H) (rep : RepE T S ρ σ) (h : RO (f ρ) k = some r) (fin : REnd T W S H σ Q r)
    (go : ∀ o S' H', Kp S H S' H' → RepE T S' ρ σ → k o = some r → REnd T W S' H' σ Q r → P o H') : tO T W f σ H P := by
  cases e : f ρ with
  | none => rw [e] at h; cases h
  | some q =>
    rw [e] at h
    refine ⟨ρ, S, q, sh.same, sh, rep, e, ?_⟩
    cases q with
    | none => exact go none S H (Kp.refl sh) rep h fin
    | some q =>
      cases q with
      | ok d =>
        intro v S' H' kp i
        cases i with
        | int i => exact ⟨i, rfl, go (some i) S' H' kp (rep.mono kp.s) h (fin.mono kp)⟩
        | _ => cases h
      | ex x =>
        cases h
        exact fin
theorem ee_slice {lo hi : Option Expr} {fl fu : FO} {p2 : Pos} (hK : X.K = T.K := by rfl) (ha : EE X T W a fa) (hl : EO X T W lo fl) (hu : EO X T W hi fu) : EE X T W (.Subscript a (.Slice lo hi none p2) pos) (vSlice fa fl fu) := by
  refine PE.weak (pe_slice (sl_list.or sl_tupA) ha hl hu) fun σ H Q q => ?_
  obtain ⟨ρ, S, z, sh, rep, e, fin⟩ := q
  refine tF_go sh rep e fin fun p x S1 H1 k1 i1 rep1 e1 fin1 => ?_
  refine tO_go k1.sub rep1 e1 fin1 fun l S2 H2 k2 rep2 e2 fin2 => ?_
  refine tO_go k2.sub rep2 e2 fin2 fun u S3 H3 k3 rep3 e3 fin3 => ?_
  obtain ⟨d, e4, rfl⟩ := okO_inv e3
  have i3 := (i1.mono k2.s).mono k3.s
  rw [hK]
  unfold sliceD at e4
  split at e4 <;> cases e4
  all_goals rename_i ys
  · cases i3 with
    | @lst a vs _ h s =>
      refine .inl ⟨_, _, rfl, SqL.of (k3.sub.same _ _ h), fun p hp => ?_⟩
      have k := Kp.new (o := .lst (cutV vs l u)) k3.sub hp
      exact fin3 _ _ _ k (.lst upd_same ((s.cut l u).mono k.s))
  · cases i3 with
    | @tup a vs _ h s =>
      refine .inr ⟨_, _, rfl, Same.seqT k3.sub.same h, fun hw => ?_, fun _ p hp => ?_⟩
      · have c : cutD ys l u = ys := by
          unfold cutD
          rw [← s.length, hw.1, hw.2, List.drop_zero, s.length, Nat.sub_zero]
          exact List.take_length
        rw [c] at fin3
        exact fin3 _ _ _ (Kp.refl k3.sub) (.tup h s)
      · have k := Kp.new (o := .tup (cutV vs l u)) k3.sub hp
        exact fin3 _ _ _ k (.tup (SqT.of upd_same) ((s.cut l u).mono k.s))
end
end EV
end

section
set_option maxHeartbeats 4000000
/-! EV3: tests, displays, comprehensions, statements, loops. -/
namespace EV
open PySem L2

section
variable {T : Tab} {X : Cx} {W : WX} {a b c e : Expr} {f fa fb fc : FE} {pos : Pos} {es rest : List Expr}

/-! ### tests -/
def tFT (T : Tab) (W : WX) (f : FE) : TT := fun σ H Q => tF T W f σ H fun v H' => ∃ b, v = .bl b ∧ Q b H'
def EB (X : Cx) (T : Tab) (W : WX) (e : Expr) (f : FE) : Prop := PT X e (tFT T W f)
def EW (X : Cx) (T : Tab) (W : WX) (e : Expr) (f : FE) : Prop := PW X e (tFT T W f)
theorem PT.weak {e : Expr} {t u : TT} (h : PT X e t) (w : ∀ σ H Q, u σ H Q → t σ H Q) : PT X e u := ⟨fun pins s σ H Q I q => h.run pins s σ H Q I (w σ H Q q)⟩
theorem PW.weak {e : Expr} {t u : TT} (h : PW X e t) (w : ∀ σ H Q, u σ H Q → t σ H Q) : PW X e u := ⟨fun wh pins s σ H Q I q => h.run wh pins s σ H Q I (w σ H Q q)⟩
theorem eb_val (h : EE X T W e f) (he : ∀ whole, isTrue e X.env whole = (do let v ← whole; standAt e.pos; holding [v] (truthy v)) := by intro _; rfl) : EB X T W e f := pt_val h he
theorem eb_cmp {op : CmpOp} {r : R2} {o : D → D → Option D} (ho : OpR X (compareOp op) r) (h : Op2 T r o) (ha : EE X T W a fa) (hb : EE X T W b fb) (hm : behindInMarks op b = false) : EB X T W (.Compare a [op] [b] pos) (v2 o fa fb) :=
  PT.weak (pt_cmpR ho ha hb hm) fun σ H Q q => w2 h σ H _ q
theorem eb_lt (ha : EE X T W a fa) (hb : EE X T W b fb) : EB X T W (.Compare a [.Lt] [b] pos) (v2 ltD fa fb) := eb_cmp op_lt o_cmp ha hb (nomark _)
theorem eb_gt (ha : EE X T W a fa) (hb : EE X T W b fb) : EB X T W (.Compare a [.Gt] [b] pos) (v2 gtD fa fb) := eb_cmp op_gt o_cmp ha hb (nomark _)
theorem eb_ge (ha : EE X T W a fa) (hb : EE X T W b fb) : EB X T W (.Compare a [.GtE] [b] pos) (v2 geD fa fb) := eb_cmp op_ge o_cmp ha hb (nomark _)
theorem eb_eq {n : Nat} (hr : Room n X.A) (hK : X.K = T.K := by rfl) (ha : EE X T W a fa) (hb : EE X T W b fb) : EB X T W (.Compare a [.Eq] [b] pos) (v2 eqD fa fb) := eb_cmp (op_eqD hr.units) (o_eq hK) ha hb (nomark _)
theorem eb_ne {n : Nat} (hr : Room n X.A) (hK : X.K = T.K := by rfl) (ha : EE X T W a fa) (hb : EE X T W b fb) : EB X T W (.Compare a [.NotEq] [b] pos) (v2 neD fa fb) := eb_cmp (op_neD hr.units) (o_ne hK) ha hb (nomark _)
def notD : D → Option D
  | .bl b => some (.bl (!b))
  | _ => none
def vAnd (fa fb : FE) : FE := fun ρ => R1 (fa ρ) fun
  | .bl true => fb ρ
  | .bl false => some (.ok (.bl false))
  | _ => none
def vOr (fa fb : FE) : FE := fun ρ => R1 (fa ρ) fun
  | .bl true => some (.ok (.bl true))
  | .bl false => fb ρ
  | _ => none
theorem eb_not (ha : EB X T W a fa) : EB X T W (.UnaryOp .Not a pos) (v1 notD fa) := by
  refine PT.weak (pt_not ha) fun σ H Q q => ?_
  obtain ⟨ρ, S, z, sh, rep, e, fin⟩ := q
  refine tF_go sh rep e fin fun p x S1 H1 k1 i1 rep1 e1 fin1 => ?_
  obtain ⟨d, e3, rfl⟩ := okO_inv e1
  unfold notD at e3
  split at e3 <;> cases e3
  cases i1
  obtain ⟨b, e4, q⟩ := fin1 _ S1 H1 (Kp.refl k1.sub) (.bl _)
  cases e4
  exact ⟨_, rfl, q⟩
theorem ew_and1 (ha : EB X T W a fa) : EW X T W (.BoolOp .And [a] pos) fa := pw_and1 ha
theorem ew_or1 (ha : EB X T W a fa) : EW X T W (.BoolOp .Or [a] pos) fa := pw_or1 ha
theorem ew_and (ha : EB X T W a fa) (hb : EW X T W (.BoolOp .And (b :: rest) pos) fb) : EW X T W (.BoolOp .And (a :: b :: rest) pos) (vAnd fa fb) := by
  refine PW.weak (pw_and ha hb) fun σ H Q q => ?_
  obtain ⟨ρ, S, z, sh, rep, e, fin⟩ := q
  refine tF_go sh rep e fin fun p x S1 H1 k1 i1 rep1 e1 fin1 => ?_
  split at e1
  · cases i1
    refine ⟨true, rfl, ?_⟩
    show tFT T W fb σ H1 Q
    exact ⟨ρ, S1, z, k1.sub, rep1, e1, fin1⟩
  · cases i1
    cases e1
    refine ⟨false, rfl, ?_⟩
    obtain ⟨b, e4, q⟩ := fin1 _ S1 H1 (Kp.refl k1.sub) (.bl _)
    cases e4
    exact q
  · cases e1
theorem ew_or (ha : EB X T W a fa) (hb : EW X T W (.BoolOp .Or (b :: rest) pos) fb) : EW X T W (.BoolOp .Or (a :: b :: rest) pos) (vOr fa fb) := by
  refine PW.weak (pw_or ha hb) fun σ H Q q => ?_
  obtain ⟨ρ, S, z, sh, rep, e, fin⟩ := q
  refine tF_go sh rep e fin fun p x S1 H1 k1 i1 rep1 e1 fin1 => ?_
  split at e1
  · cases i1
    cases e1
    refine ⟨true, rfl, ?_⟩
    obtain ⟨b, e4, q⟩ := fin1 _ S1 H1 (Kp.refl k1.sub) (.bl _)
    cases e4
    exact q
  · cases i1
    refine ⟨false, rfl, ?_⟩
    show tFT T W fb σ H1 Q
    exact ⟨ρ, S1, z, k1.sub, rep1, e1, fin1⟩
  · cases e1
theorem eb_w (h : EW X T W e f) : EB X T W e f := L2.PW.pt h
/-- as values -/
theorem ee_one {op} (ha : EE X T W a fa) : EE X T W (.BoolOp op [a] pos) fa := pe_one ha
theorem ee_and (ha : EE X T W a fa) (hb : EE X T W (.BoolOp .And (b :: rest) pos) fb) : EE X T W (.BoolOp .And (a :: b :: rest) pos) (vAnd fa fb) := by
  refine PE.weak (pe_and ha hb) fun σ H Q q => ?_
  obtain ⟨ρ, S, z, sh, rep, e, fin⟩ := q
  refine tF_go sh rep e fin fun p x S1 H1 k1 i1 rep1 e1 fin1 => ?_
  split at e1
  · cases i1
    refine ⟨true, rfl, ?_⟩
    show tF T W fb σ H1 Q
    exact ⟨ρ, S1, z, k1.sub, rep1, e1, fin1⟩
  · cases i1
    cases e1
    exact ⟨false, rfl, fin1 _ S1 H1 (Kp.refl k1.sub) (.bl _)⟩
  · cases e1
theorem ee_or (ha : EE X T W a fa) (hb : EE X T W (.BoolOp .Or (b :: rest) pos) fb) : EE X T W (.BoolOp .Or (a :: b :: rest) pos) (vOr fa fb) := by
  refine PE.weak (pe_or ha hb) fun σ H Q q => ?_
  obtain ⟨ρ, S, z, sh, rep, e, fin⟩ := q
  refine tF_go sh rep e fin fun p x S1 H1 k1 i1 rep1 e1 fin1 => ?_
  split at e1
  · cases i1
    cases e1
    exact ⟨true, rfl, fin1 _ S1 H1 (Kp.refl k1.sub) (.bl _)⟩
  · cases i1
    refine ⟨false, rfl, ?_⟩
    show tF T W fb σ H1 Q
    exact ⟨ρ, S1, z, k1.sub, rep1, e1, fin1⟩
  · cases e1
theorem ee_not (ha : EE X T W a fa) : EE X T W (.UnaryOp .Not a pos) (v1 notD fa) := by
  refine PE.weak (pe_not ha) fun σ H Q q => ?_
  obtain ⟨ρ, S, z, sh, rep, e, fin⟩ := q
  refine tF_go sh rep e fin fun p x S1 H1 k1 i1 rep1 e1 fin1 => ?_
  obtain ⟨d, e3, rfl⟩ := okO_inv e1
  unfold notD at e3
  split at e3 <;> cases e3
  cases i1
  exact ⟨_, rfl, fin1 _ S1 H1 (Kp.refl k1.sub) (.bl _)⟩
def vIf (fc fa fb : FE) : FE := fun ρ => R1 (fc ρ) fun
  | .bl true => fa ρ
  | .bl false => fb ρ
  | _ => none
def tA (T : Tab) (W : WX) (f : FL) : TA := fun σ H Q => ∃ ρ S r, EV.Sub S H ∧ RepE T S ρ σ ∧ f ρ = some r ∧ RLEnd T W S H σ Q r
def EA (X : Cx) (T : Tab) (W : WX) (es : List Expr) (f : FL) : Prop := PA X es (tA T W f)
theorem tF_goL {S H : Hp} {σ : L2.St} {ρ : Env} {Q : List V → Hp → Prop} {P : VK} {f : FE} {k : D → Option RL} {r : RL} (sh : EV.Sub S H) (rep : RepE T S ρ σ) (h : R1L (f ρ) k = some r) (fin : RLEnd T W S H σ Q r)
    (go : ∀ d v S' H', Kp S H S' H' → Is T S' v d → RepE T S' ρ σ → k d = some r → RLEnd T W S' H' σ Q r → P v H') : tF T W f σ H P := by
  cases e : f ρ with
  | none => rw [e] at h; cases h
  | some q =>
    rw [e] at h
    refine ⟨ρ, S, q, sh, rep, e, ?_⟩
    cases q with
    | ok d => exact fun v S' H' kp i => go d v S' H' kp i (rep.mono kp.s) h (fin.mono kp)
    | ex x =>
      cases h
      exact fin
theorem tA_goL {S H : Hp} {σ : L2.St} {ρ : Env} {Q P : List V → Hp → Prop} {f : FL} {k : List D → Option RL} {r : RL} (sh : EV.Sub S H) (rep : RepE T S ρ σ) (h : RLL (f ρ) k = some r) (fin : RLEnd T W S H σ Q r)
    (go : ∀ ds vs S' H', Kp S H S' H' → Iss T S' vs ds → RepE T S' ρ σ → k ds = some r → RLEnd T W S' H' σ Q r → P vs H') : tA T W f σ H P := by
  cases e : f ρ with
  | none => rw [e] at h; cases h
  | some q =>
    rw [e] at h
    refine ⟨ρ, S, q, sh, rep, e, ?_⟩
    cases q with
    | ok d => exact fun v S' H' kp i => go d v S' H' kp i (rep.mono kp.s) h (fin.mono kp)
    | ex x =>
      cases h
      exact fin
theorem tA_go {S H : Hp} {σ : L2.St} {ρ : Env} {Q : VK} {P : List V → Hp → Prop} {f : FL} {k : List D → Option R} {r : R} (sh : EV.Sub S H) (rep : RepE T S ρ σ) (h : RL1 (f ρ) k = some r) (fin : REnd T W S H σ Q r)
    (go : ∀ ds vs S' H', Kp S H S' H' → Iss T S' vs ds → RepE T S' ρ σ → k ds = some r → REnd T W S' H' σ Q r → P vs H') : tA T W f σ H P := by
  cases e : f ρ with
  | none => rw [e] at h; cases h
  | some q =>
    rw [e] at h
    refine ⟨ρ, S, q, sh, rep, e, ?_⟩
    cases q with
    | ok d => exact fun v S' H' kp i => go d v S' H' kp i (rep.mono kp.s) h (fin.mono kp)
    | ex x =>
      cases h
      exact fin
theorem PA.weak {es : List Expr} {t u : TA} (h : PA X es t) (w : ∀ σ H Q, u σ H Q → t σ H Q) : PA X es u := ⟨fun po pins s σ H Q I q => h.run po pins s σ H Q I (w σ H Q q)⟩
theorem ea_nil : EA X T W [] aNil := PA.weak pa_nil fun σ H Q q => by
  obtain ⟨ρ, S, r, sh, rep, e, fin⟩ := q
  cases e
  exact fin [] S H (Kp.refl sh) .nil
theorem ea_cons {fr : FL} (ha : EE X T W a fa) (hr : EA X T W es fr) (hs : starEach (a :: es) X.env = (false, eval a X.env) :: starEach es X.env := by rfl) : EA X T W (a :: es) (aCons fa fr) := by
  refine PA.weak (pa_cons ha hr hs) fun σ H Q q => ?_
  obtain ⟨ρ, S, r, sh, rep, e, fin⟩ := q
  refine tF_goL sh rep e fin fun d v S1 H1 k1 i1 rep1 e1 fin1 => ?_
  refine tA_goL k1.sub rep1 e1 fin1 fun ds vs S2 H2 k2 i2 rep2 e2 fin2 => ?_
  cases e2
  exact fin2 _ S2 H2 (Kp.refl k2.sub) (.cons (i1.mono k2.s) i2)
theorem ee_tup {x1} {f : FL} (h : EA X T W es f) : EE X T W (.Tuple es x1 pos) (vTup f) := by
  refine PE.weak (pe_tup h) fun σ H Q q => ?_
  obtain ⟨ρ, S, r, sh, rep, e, fin⟩ := q
  refine tA_go sh rep e fin fun ds vs S1 H1 k1 i1 rep1 e1 fin1 => ?_
  obtain ⟨d, e2, rfl⟩ := okO_inv e1
  unfold tupD at e2
  split at e2 <;> cases e2
  rename_i hl
  refine ⟨by rw [i1.length]; exact line_of hl, fun p hp => ?_⟩
  have k := Kp.new (o := .tup vs) k1.sub hp
  exact fin1 _ _ _ k (.tup (SqT.of upd_same) (i1.mono k.s))

def tN (T : Tab) (W : WX) (f : FL) : TE := fun σ H Q => ∃ ρ S r, EV.Sub S H ∧ RepE T S ρ σ ∧ f ρ = some r ∧ RNEnd T W S H σ Q r
def EN (X : Cx) (T : Tab) (W : WX) (e : Expr) (f : FL) : Prop := PE X e (tN T W f)
def vL (f : FL) : FE := fun ρ => RL1 (f ρ) fun ds => some (.ok (.lst ds))
theorem Same.opened {S' : Hp} {a : Addr} {o : HO} (hs : S' a = none) : Same S' (upd S' a o) := fun b u e => by
  have : b ≠ a := fun z => by rw [z, hs] at e; cases e
  rw [upd_ne this]; exact e
theorem en_ee {f : FL} (h : EN X T W e f) : EE X T W e (vL f) := by
  refine PE.weak h fun σ H Q q => ?_
  obtain ⟨ρ, S, r, sh, rep, e, fin⟩ := q
  unfold vL at e
  cases e1 : f ρ with
  | none => rw [e1] at e; cases e
  | some z =>
    rw [e1] at e
    refine ⟨ρ, S, z, sh, rep, e1, ?_⟩
    cases z with
    | ok ds =>
      cases e
      intro a vs S' H' k hn hs h' i
      exact fin _ _ _ (k.open hn h' hs) (.lst upd_same (i.mono (Same.opened hs)))
    | ex x =>
      cases e
      exact fin
theorem tA_goN {S H : Hp} {σ : L2.St} {ρ : Env} {Q : VK} {P : List V → Hp → Prop} {f : FL} {k : List D → Option RL} {r : RL} (sh : EV.Sub S H) (rep : RepE T S ρ σ) (h : RLL (f ρ) k = some r) (fin : RNEnd T W S H σ Q r)
    (go : ∀ ds vs S' H', Kp S H S' H' → Iss T S' vs ds → RepE T S' ρ σ → k ds = some r → RNEnd T W S' H' σ Q r → P vs H') : tA T W f σ H P := by
  cases e : f ρ with
  | none => rw [e] at h; cases h
  | some q =>
    rw [e] at h
    refine ⟨ρ, S, q, sh, rep, e, ?_⟩
    cases q with
    | ok d => exact fun v S' H' kp i => go d v S' H' kp i (rep.mono kp.s) h (fin.mono kp)
    | ex x =>
      cases h
      exact fin
theorem tF_goN {S H : Hp} {σ : L2.St} {ρ : Env} {Q P : VK} {f : FE} {k : D → Option RL} {r : RL} (sh : EV.Sub S H) (rep : RepE T S ρ σ) (h : R1L (f ρ) k = some r) (fin : RNEnd T W S H σ Q r)
    (go : ∀ d v S' H', Kp S H S' H' → Is T S' v d → RepE T S' ρ σ → k d = some r → RNEnd T W S' H' σ Q r → P v H') : tF T W f σ H P := by
  cases e : f ρ with
  | none => rw [e] at h; cases h
  | some q =>
    rw [e] at h
    refine ⟨ρ, S, q, sh, rep, e, ?_⟩
    cases q with
    | ok d => exact fun v S' H' kp i => go d v S' H' kp i (rep.mono kp.s) h (fin.mono kp)
    | ex x =>
      cases h
      exact fin
def lenOk (f : FL) : FL := fun ρ => RLL (f ρ) fun ds => if ds.length ≤ 100000 then some (.ok ds) else none
theorem en_lst {f : FL} (h : EA X T W es f) : EN X T W (.List es pos) (lenOk f) := by
  refine PE.weak (pe_lst h) fun σ H Q q => ?_
  obtain ⟨ρ, S, r, sh, rep, e, fin⟩ := q
  refine tA_goN sh rep e fin fun ds vs S1 H1 k1 i1 rep1 e1 fin1 => ?_
  split at e1 <;> cases e1
  rename_i hl
  refine ⟨by rw [i1.length]; exact line_of hl, fun p hp => ?_⟩
  exact fin1 p vs S1 _ (Kp.hide k1.sub hp rfl) hp (k1.sub.same.free hp) upd_same i1
/-- operators that make a list -/
def nAdd (fa fb : FE) : FL := fun ρ => R1L (fa ρ) fun p => R1L (fb ρ) fun q => match p, q with
  | .lst xs, .lst ys => if xs.length + ys.length ≤ 100000 then some (.ok (xs ++ ys)) else none
  | _, _ => none
def nRep (fa fb : FE) : FL := fun ρ => R1L (fa ρ) fun p => R1L (fb ρ) fun q => match p, q with
  | .lst xs, .int k => if -(2 ^ 63) ≤ k ∧ k < 2 ^ 63 ∧ xs.length * k.toNat ≤ 100000 then some (.ok (List.replicate k.toNat xs).flatten) else none
  | _, _ => none
theorem en_add (ha : EE X T W a fa) (hb : EE X T W b fb) : EN X T W (.BinOp a .Add b pos) (nAdd fa fb) := by
  refine PE.weak (pe_op op_cat ha hb) fun σ H Q q => ?_
  obtain ⟨ρ, S, r, sh, rep, e, fin⟩ := q
  refine tF_goN sh rep e fin fun p x S1 H1 k1 i1 rep1 e1 fin1 => ?_
  refine tF_goN k1.sub rep1 e1 fin1 fun p2 y S2 H2 k2 i2 rep2 e2 fin2 => ?_
  split at e2 <;> try cases e2
  split at e2 <;> cases e2
  rename_i hl
  have i1' := i1.mono k2.s
  cases i1' with
  | @lst a1 vs1 _ h1 s1 => cases i2 with
    | @lst a2 vs2 _ h2 s2 =>
      refine ⟨_, _, _, _, rfl, rfl, k2.sub.same _ _ h1, k2.sub.same _ _ h2, ?_, fun np hp => ?_⟩
      · rw [s1.length, s2.length]; exact line_of hl
      · exact fin2 np _ S2 _ (Kp.hide k2.sub hp rfl) hp (k2.sub.same.free hp) upd_same (s1.append s2)
theorem en_rep (ha : EE X T W a fa) (hb : EE X T W b fb) : EN X T W (.BinOp a .Mult b pos) (nRep fa fb) := by
  refine PE.weak (pe_op op_rep ha hb) fun σ H Q q => ?_
  obtain ⟨ρ, S, r, sh, rep, e, fin⟩ := q
  refine tF_goN sh rep e fin fun p x S1 H1 k1 i1 rep1 e1 fin1 => ?_
  refine tF_goN k1.sub rep1 e1 fin1 fun p2 y S2 H2 k2 i2 rep2 e2 fin2 => ?_
  split at e2 <;> try cases e2
  split at e2 <;> cases e2
  rename_i hl
  have i1' := i1.mono k2.s
  cases i1' with
  | @lst a1 vs1 _ h1 s1 =>
    cases i2
    refine ⟨_, _, _, rfl, rfl, k2.sub.same _ _ h1, hl.1, hl.2.1, ?_, fun np hp => ?_⟩
    · rw [s1.length]; exact line_of hl.2.2
    · exact fin2 np _ S2 _ (Kp.hide k2.sub hp rfl) hp (k2.sub.same.free hp) upd_same (s1.rep _)
end
end EV
end

section
set_option maxHeartbeats 4000000
/-! EV4: the frame with lists of its own; statements. -/
namespace EV
open PySem L2

section
variable {T : Tab} {ρ : Env} {σ : L2.St} {S H S' H' S2 H2 : Hp} {L L' L2' : Nat → Option Addr}
theorem Rep.repE (r : Rep T ρ σ S H L) : RepE T S ρ σ := ⟨r.len, r.v, r.x⟩
/-- a slot's list in no slot's hands -/
def off (L : Nat → Option Addr) (i : Nat) : Nat → Option Addr := fun j => if j = i then none else L j
theorem off_some {i j : Nat} {a : Addr} (h : off L i j = some a) : j ≠ i ∧ L j = some a := by
  unfold off at h
  split at h
  · cases h
  · exact ⟨by assumption, h⟩
theorem off_ne {i j : Nat} (h : j ≠ i) : off L i j = L j := if_neg h
theorem Stp.off {i : Nat} : Stp S H L S H (off L i) := ⟨Same.refl S, fun _ _ h _ => h, fun _ _ h _ => h, fun j a h => .inl ⟨j, (off_some h).2⟩, fun _ xs h => ⟨xs, h⟩, fun _ _ _ fs h => ⟨fs, h⟩, fun _ ks bs vs h => ⟨ks, bs, vs, h⟩⟩
/-- a slot is set to a value that stands -/
theorem Rep.setV {i : Nat} {v : V} {d : D} (r : Rep T ρ σ S H L) (h : Is T S v d) : Rep T (ρ.set i (.v d)) (σ.set i (some v)) S H (EV.off L i) := by
  refine ⟨r.sub, by simp [r.len], fun j e q => ?_, fun j ds q => ?_, fun j c ds q => ?_, fun j k a h1 h2 => ?_, fun j a q => ?_, fun j x q => by
      by_cases hj : i = j
      · subst hj
        by_cases hl : i < ρ.length
        · rw [List.getElem?_set_self hl] at q; cases q
        · rw [List.getElem?_eq_none (by simpa using hl)] at q; cases q
      · rw [List.getElem?_set_ne hj] at q
        exact (r.x j x q).set hj, fun j ks es q => by
      by_cases hj : i = j
      · subst hj
        by_cases hl : i < ρ.length
        · rw [List.getElem?_set_self hl] at q; cases q
        · rw [List.getElem?_eq_none (by simpa using hl)] at q; cases q
      · rw [List.getElem?_set_ne hj] at q ⊢
        rw [off_ne (Ne.symm hj)]
        exact r.od j ks es q⟩
  · by_cases hj : i = j
    · subst hj
      by_cases hl : i < ρ.length
      · rw [List.getElem?_set_self hl] at q
        cases q
        exact ⟨v, List.getElem?_set_self (by rw [r.len]; exact hl), h⟩
      · rw [List.getElem?_eq_none (by simpa using hl)] at q; cases q
    · rw [List.getElem?_set_ne hj] at q ⊢
      exact r.v j e q
  · by_cases hj : i = j
    · subst hj
      by_cases hl : i < ρ.length
      · rw [List.getElem?_set_self hl] at q; cases q
      · rw [List.getElem?_eq_none (by simpa using hl)] at q; cases q
    · rw [List.getElem?_set_ne hj] at q ⊢
      rw [off_ne (Ne.symm hj)]
      exact r.own j ds q
  · by_cases hj : i = j
    · subst hj
      by_cases hl : i < ρ.length
      · rw [List.getElem?_set_self hl] at q; cases q
      · rw [List.getElem?_eq_none (by simpa using hl)] at q; cases q
    · rw [List.getElem?_set_ne hj] at q ⊢
      rw [off_ne (Ne.symm hj)]
      exact r.ins j c ds q
  · exact r.inj j k a (off_some h1).2 (off_some h2).2
  · obtain ⟨hj, q⟩ := off_some q
    rw [List.getElem?_set_ne (Ne.symm hj)]
    exact r.dom j a q
theorem Stp.updI {i : Nat} {a C dx : Addr} {fs0 fs1 : List (Str × V)} (hL : L i = some a) (ha : H a = some (.ins C dx fs0)) : Stp S H L S (L2.upd H a (.ins C dx fs1)) L :=
  ⟨Same.refl S, fun b u h n => by rw [upd_ne (fun (z : b = a) => n i (by rw [z]; exact hL))]; exact h, fun b _ h _ => h, fun j b h => .inl ⟨j, h⟩, fun b xs h => by
    have : b ≠ a := fun z => by rw [z, ha] at h; cases h
    exact ⟨xs, by rw [upd_ne this]; exact h⟩, fun b C' dx' fs h => by
    by_cases hb : b = a
    · subst hb; rw [ha] at h; cases h; exact ⟨fs1, upd_same⟩
    · exact ⟨fs, by rw [upd_ne hb]; exact h⟩, fun b ks bs ws h => by
    have : b ≠ a := fun z => by rw [z, ha] at h; exact dct_ins h
    exact ⟨ks, bs, ws, by rw [upd_ne this]; exact h⟩⟩
/-- a field of the instance under way is set -/
theorem Rep.updI {i c : Nat} {a dx : Addr} {ds ds' : List D} {vs' : List V} (r : Rep T ρ σ S H L) (h : ρ[i]? = some (.ins c ds)) (hL : L i = some a) (hz : vs'.length ≤ (T.flds c).length) (h' : Iss T S vs' ds') :
    Rep T (ρ.set i (.ins c ds')) σ S (L2.upd H a (.ins (T.cls c) dx ((T.flds c).zip vs'))) L := by
  obtain ⟨a0, dx0, vs0, e1, e2, e3, e4, e5⟩ := r.ins i c ds h
  rw [hL] at e1; cases e1
  have hi : i < ρ.length := (List.getElem?_eq_some_iff.mp h).1
  refine ⟨⟨fun b u e => ?_, fun b u e f => ?_⟩, by simp [r.len], fun j e q => ?_, fun j es q => ?_, fun j c' es q => ?_, r.inj, fun j b q => ?_, fun j x q => by
      by_cases hj : i = j
      · subst hj
        by_cases hl : i < ρ.length
        · rw [List.getElem?_set_self hl] at q; cases q
        · rw [List.getElem?_eq_none (by simpa using hl)] at q; cases q
      · rw [List.getElem?_set_ne hj] at q
        exact r.x j x q, fun j ks es q => by
      by_cases hj : i = j
      · subst hj
        by_cases hl : i < ρ.length
        · rw [List.getElem?_set_self hl] at q; cases q
        · rw [List.getElem?_eq_none (by simpa using hl)] at q; cases q
      · rw [List.getElem?_set_ne hj] at q
        obtain ⟨b, bs, vs, q1, q2, q3, q4, q5⟩ := r.od j ks es q
        have : b ≠ a := fun z => hj (r.inj i j a hL (z ▸ q1))
        exact ⟨b, bs, vs, q1, q2, by rw [upd_ne this]; exact q3, q4, q5⟩⟩
  · have : b ≠ a := fun z => by rw [z, e4] at e; cases e
    rw [upd_ne this]; exact r.sub.same b u e
  · by_cases hb : b = a
    · subst hb; rw [upd_same] at e; cases e; cases f
    · rw [upd_ne hb] at e; exact r.sub.fix b u e f
  · by_cases hj : i = j
    · subst hj
      rw [List.getElem?_set_self hi] at q; cases q
    · rw [List.getElem?_set_ne hj] at q
      exact r.v j e q
  · by_cases hj : i = j
    · subst hj
      rw [List.getElem?_set_self hi] at q; cases q
    · rw [List.getElem?_set_ne hj] at q
      obtain ⟨b, vs, q1, q2, q3, q4, q5⟩ := r.own j es q
      have : b ≠ a := fun z => hj (r.inj i j a hL (z ▸ q1))
      exact ⟨b, vs, q1, q2, by rw [upd_ne this]; exact q3, q4, q5⟩
  · by_cases hj : i = j
    · subst hj
      rw [List.getElem?_set_self hi] at q; cases q
      exact ⟨a, dx, vs', hL, e2, upd_same, e4, hz, h'⟩
    · rw [List.getElem?_set_ne hj] at q
      obtain ⟨b, dx', vs, q1, q2, q3, q4, q5⟩ := r.ins j c' es q
      have : b ≠ a := fun z => hj (r.inj i j a hL (z ▸ q1))
      exact ⟨b, dx', vs, q1, q2, by rw [upd_ne this]; exact q3, q4, q5⟩
  · by_cases hj : i = j
    · subst hj
      exact .inr (.inl ⟨c, ds', List.getElem?_set_self hi⟩)
    · rw [List.getElem?_set_ne hj]
      exact r.dom j b q

/-! ### a list of the frame's own is given out -/
def relS : Sl → Sl
  | .own ds => .v (.lst ds)
  | .ins c ds => .v (.obj c ds)
  | .od ks ds => .v (.dct ks ds)
  | s => s
def rel (i : Nat) (ρ : Env) : Env := match ρ[i]? with
  | some s => ρ.set i (relS s)
  | none => ρ
theorem Rep.rel (r : Rep T ρ σ S H L) (i : Nat) : ∃ S' L', Rep T (EV.rel i ρ) σ S' H L' ∧ Stp S H L S' H L' := by
  have same : ∀ s, ρ[i]? = some s → relS s = s → ∃ S' L', Rep T (EV.rel i ρ) σ S' H L' ∧ Stp S H L S' H L' := fun s e q => by
    refine ⟨S, L, ?_, Stp.refl⟩
    unfold EV.rel
    rw [e]
    show Rep T (ρ.set i (relS s)) σ S H L
    rw [q]
    have hi := (List.getElem?_eq_some_iff.mp e).1
    have : ρ.set i s = ρ := by
      apply List.ext_getElem?
      intro j
      by_cases hj : i = j
      · subst hj; rw [List.getElem?_set_self hi, e]
      · rw [List.getElem?_set_ne hj]
    rw [this]
    exact r
  have go : ∀ (a : Addr) (o : HO) (d : D) (s : Sl), ρ[i]? = some s → relS s = .v d → L i = some a → σ[i]? = some (some (.ref a)) → H a = some o → S a = none → Is T (L2.upd S a o) (.ref a) d → ∃ S' L', Rep T (EV.rel i ρ) σ S' H L' ∧ Stp S H L S' H L' := fun a o d s e q hL hσ hH hS hI => by
    have hi := (List.getElem?_eq_some_iff.mp e).1
    have ss : Same S (L2.upd S a o) := Same.opened hS
    refine ⟨L2.upd S a o, EV.off L i, ?_, ⟨ss, fun _ _ h _ => h, fun b h1 h2 n => ?_, fun j b h => .inl ⟨j, (off_some h).2⟩, fun _ xs h => ⟨xs, h⟩, fun _ _ _ fs h => ⟨fs, h⟩, fun _ ks bs vs h => ⟨ks, bs, vs, h⟩⟩⟩
    · unfold EV.rel
      rw [e]
      show Rep T (ρ.set i (relS s)) σ (L2.upd S a o) H (EV.off L i)
      rw [q]
      refine ⟨⟨fun b u z => ?_, fun b u z f => ?_⟩, by simp [r.len], fun j e q => ?_, fun j es q => ?_, fun j c' es q => ?_, fun j k b h1 h2 => r.inj j k b (off_some h1).2 (off_some h2).2, fun j b z => ?_, fun j x q => by
        by_cases hj : i = j
        · subst hj
          rw [List.getElem?_set_self hi] at q; cases q
        · rw [List.getElem?_set_ne hj] at q
          exact (r.x j x q).mono ss, fun j ks es q => by
        by_cases hj : i = j
        · subst hj
          rw [List.getElem?_set_self hi] at q; cases q
        · rw [List.getElem?_set_ne hj] at q
          obtain ⟨b, bs, vs, q1, q2, q3, q4, q5, q6⟩ := r.od j ks es q
          have : b ≠ a := fun z => hj (r.inj i j a hL (z ▸ q1))
          exact ⟨b, bs, vs, by rw [off_ne (Ne.symm hj)]; exact q1, q2, q3, by rw [upd_ne this]; exact q4, q5.mono ss, q6.mono ss⟩⟩
      · by_cases hb : b = a
        · subst hb; rw [upd_same] at z; rw [← z]; exact hH
        · rw [upd_ne hb] at z; exact r.sub.same b u z
      · exact ss b u (r.sub.fix b u z f)
      · by_cases hj : i = j
        · subst hj
          rw [List.getElem?_set_self hi] at q; cases q
          exact ⟨_, hσ, hI⟩
        · rw [List.getElem?_set_ne hj] at q
          obtain ⟨v, h1, h2⟩ := r.v j e q
          exact ⟨v, h1, h2.mono ss⟩
      · by_cases hj : i = j
        · subst hj
          rw [List.getElem?_set_self hi] at q; cases q
        · rw [List.getElem?_set_ne hj] at q
          obtain ⟨b, vs, q1, q2, q3, q4, q5⟩ := r.own j es q
          have : b ≠ a := fun z => hj (r.inj i j a hL (z ▸ q1))
          exact ⟨b, vs, by rw [off_ne (Ne.symm hj)]; exact q1, q2, q3, by rw [upd_ne this]; exact q4, q5.mono ss⟩
      · by_cases hj : i = j
        · subst hj
          rw [List.getElem?_set_self hi] at q; cases q
        · rw [List.getElem?_set_ne hj] at q
          obtain ⟨b, dx', vs, q1, q2, q3, q4, q5, q6⟩ := r.ins j c' es q
          have : b ≠ a := fun z => hj (r.inj i j a hL (z ▸ q1))
          exact ⟨b, dx', vs, by rw [off_ne (Ne.symm hj)]; exact q1, q2, q3, by rw [upd_ne this]; exact q4, q5, q6.mono ss⟩
      · obtain ⟨hj, z⟩ := off_some z
        rw [List.getElem?_set_ne (Ne.symm hj)]
        exact r.dom j b z
    · rw [upd_ne (fun (z : b = a) => n i (by rw [z]; exact hL))]
      exact h2
  cases e : ρ[i]? with
  | none =>
    refine ⟨S, L, ?_, Stp.refl⟩
    unfold EV.rel
    rw [e]
    exact r
  | some s =>
    cases s with
    | no => exact same _ e rfl
    | v d => exact same _ e rfl
    | own ds =>
      obtain ⟨a, vs, h1, h2, h3, h4, h5⟩ := r.own i ds e
      exact go a _ _ _ e rfl h1 h2 h3 h4 (.lst upd_same (h5.mono (Same.opened h4)))
    | exn x => exact same _ e rfl
    | ins c ds =>
      obtain ⟨a, dx, vs, h1, h2, h3, h4, h5, h6⟩ := r.ins i c ds e
      exact go a _ _ _ e rfl h1 h2 h3 h4 (.obj upd_same h5 (h6.mono (Same.opened h4)))
    | od ks ds =>
      obtain ⟨a, bs, vs, h1, h2, h3, h4, h5, h6⟩ := r.od i ks ds e
      exact go a _ _ _ e rfl h1 h2 h3 h4 (.dct upd_same (h5.mono (Same.opened h4)) (h6.mono (Same.opened h4)))

/-! ### the frame read as a whole -/
def thaw (ρ : Env) : Env := ρ.map relS
theorem thaw_get {i : Nat} : (thaw ρ)[i]? = (ρ[i]?).map relS := by unfold thaw; rw [List.getElem?_map]
theorem Rep.thaw (r : Rep T ρ σ S H L) : RepE T H (EV.thaw ρ) σ := by
  refine ⟨by unfold EV.thaw; simp [r.len], fun i d e => ?_, fun i x e => ?_⟩
  rotate_left
  · rw [thaw_get] at e
    obtain ⟨s, e1, e2⟩ := Option.map_eq_some_iff.mp e
    cases s <;> cases e2
    exact (r.x i x e1).mono r.sub.same
  rw [thaw_get] at e
  obtain ⟨s, e1, e2⟩ := Option.map_eq_some_iff.mp e
  cases s with
  | no => cases e2
  | exn x => cases e2
  | v d' =>
    cases e2
    obtain ⟨v, h1, h2⟩ := r.v i d e1
    exact ⟨v, h1, h2.mono r.sub.same⟩
  | own ds =>
    cases e2
    obtain ⟨a, vs, h1, h2, h3, h4, h5⟩ := r.own i ds e1
    exact ⟨_, h2, .lst h3 (h5.mono r.sub.same)⟩
  | ins c ds =>
    cases e2
    obtain ⟨a, dx, vs, h1, h2, h3, h4, h5, h6⟩ := r.ins i c ds e1
    exact ⟨_, h2, .obj h3 h5 (h6.mono r.sub.same)⟩
  | od ks ds =>
    cases e2
    obtain ⟨a, bs, vs, h1, h2, h3, h4, h5, h6⟩ := r.od i ks ds e1
    exact ⟨_, h2, .dct h3 (h5.mono r.sub.same) (h6.mono r.sub.same)⟩
end
theorem pures_all : ∀ {xs : List D}, D.pures xs = true ↔ ∀ x ∈ xs, D.pure x = true
  | [] => by simp [D.pures]
  | x :: xs => by
    rw [D.pures, Bool.and_eq_true, pures_all]
    simp
/-- what stands behind an expression that was read over all of H -/
theorem unthaw {S H S2 H2 : Hp} (sh : EV.Sub S H) (k : Kp H H S2 H2) : ∃ S', Kp S H S' H2 ∧ Same S' S2 := by
  classical
  refine ⟨fun a => if H a ≠ none ∧ S a = none then none else S2 a, ⟨fun a o e => ?_, k.h, ⟨fun a o e => ?_, fun a o e f => ?_⟩, fun a h1 h2 => if_pos ⟨h1, h2⟩⟩, fun a o e => ?_⟩
  · show (if H a ≠ none ∧ S a = none then none else S2 a) = some o
    rw [if_neg (fun z => by rw [e] at z; cases z.2)]
    exact k.s a o (sh.same a o e)
  · have e' : (if H a ≠ none ∧ S a = none then none else S2 a) = some o := e
    split at e'
    · cases e'
    · exact k.sub.same a o e'
  · show (if H a ≠ none ∧ S a = none then none else S2 a) = some o
    rw [if_neg, k.sub.fix a o e f]
    rintro ⟨z1, z2⟩
    cases q : H a with
    | none => exact z1 q
    | some u =>
      have := k.h a u q
      rw [e] at this; cases this
      rw [sh.fix a o q f] at z2; cases z2
  · have e' : (if H a ≠ none ∧ S a = none then none else S2 a) = some o := e
    split at e'
    · cases e'
    · exact e'

def tG (T : Tab) (W : WX) (g : FS) : TS := fun Dn σ H => ∃ ρ S L o, Rep T ρ σ S H L ∧ g ρ = some o ∧ SEnd T W Dn S H L o
def SS (X : Cx) (T : Tab) (W : WX) (st : Stmt) (g : FS) : Prop := PS X st (tG T W g)
def SSs (X : Cx) (T : Tab) (W : WX) (st : List Stmt) (g : FS) : Prop := PSs X st (tG T W g)
theorem PS.weak {X : Cx} {st : Stmt} {t u : TS} (h : PS X st t) (w : ∀ Dn σ H, u Dn σ H → t Dn σ H) : PS X st u := ⟨fun pins s σ H Dn I q => h.run pins s σ H Dn I (w Dn σ H q)⟩
theorem PSs.weak {X : Cx} {st : List Stmt} {t u : TS} (h : PSs X st t) (w : ∀ Dn σ H, u Dn σ H → t Dn σ H) : PSs X st u := ⟨fun pins s σ H Dn I q => h.run pins s σ H Dn I (w Dn σ H q)⟩

section
variable {X : Cx} {T : Tab} {W : WX} {st : Stmt} {rest body els : List Stmt} {g g1 g2 : FS} {e : Expr} {f : FE} {pos : Pos}
theorem ss_nil : SSs X T W [] gNext := PSs.weak pss_nil fun Dn σ H q => by
  obtain ⟨ρ, S, L, o, r, e, fin⟩ := q
  cases e
  exact fin σ S H L r Stp.refl
theorem ss_cons (h1 : SS X T W st g1) (h2 : SSs X T W rest g2) : SSs X T W (st :: rest) (gSeq g1 g2) := by
  refine PSs.weak (pss_cons h1 h2) fun Dn σ H q => ?_
  obtain ⟨ρ, S, L, o, r, e, fin⟩ := q
  show tG T W g1 { Dn with nx := tG T W g2 Dn } σ H
  unfold gSeq at e
  cases q1 : g1 ρ with
  | none => rw [q1] at e; cases e
  | some o1 =>
    rw [q1] at e
    refine ⟨ρ, S, L, o1, r, q1, ?_⟩
    cases o1 with
    | nx ρ1 => exact fun σ' S' H' L' r' s => ⟨ρ1, S', L', o, r', e, fin.mono s⟩
    | rt d => cases e; exact fin
    | bk ρ => cases e; exact fin
    | ct ρ => cases e; exact fin
    | rs x ρ => cases e; exact fin
    | rl ds => cases e; exact fin
theorem ss_one (h1 : SS X T W st g1) : SSs X T W [st] g1 := pss_one h1
theorem ss_brk : SS X T W (.Break pos) gBrk := PS.weak ps_break fun Dn σ H q => by
  obtain ⟨ρ, S, L, o, r, e, fin⟩ := q
  cases e
  exact fin σ S H L r Stp.refl
def gNever : FS := fun _ => none
theorem ss_never : SS X T W st gNever := PS.weak ps_never fun Dn σ H q => by
  obtain ⟨ρ, S, L, o, r, e, fin⟩ := q
  cases e
/-- lists of the frame's own are given out ahead of a statement -/
def gRel (i : Nat) (g : FS) : FS := fun ρ => g (rel i ρ)
theorem ss_rel (i : Nat) (h : SS X T W st g) : SS X T W st (gRel i g) := PS.weak h fun Dn σ H q => by
  obtain ⟨ρ, S, L, o, r, e, fin⟩ := q
  obtain ⟨S', L', r', s⟩ := r.rel i
  exact ⟨_, S', L', o, r', e, fin.mono s⟩
/-- .. behind a statement -/
def gThenRel (i : Nat) (g : FS) : FS := fun ρ => match g ρ with
  | some (.nx ρ') => some (.nx (rel i ρ'))
  | o => o
theorem ss_thenRel (i : Nat) (h : SS X T W st g) : SS X T W st (gThenRel i g) := PS.weak h fun Dn σ H q => by
  obtain ⟨ρ, S, L, o, r, e, fin⟩ := q
  unfold gThenRel at e
  cases q1 : g ρ with
  | none => rw [q1] at e; cases e
  | some o1 =>
    rw [q1] at e
    refine ⟨ρ, S, L, o1, r, q1, ?_⟩
    cases o1 with
    | nx ρ1 =>
      cases e
      intro σ' S' H' L' r' s
      obtain ⟨S2, L2, r2, s2⟩ := r'.rel i
      exact fin σ' S2 H' L2 r2 (s.trans s2)
    | rt d => cases e; exact fin
    | bk ρ => cases e; exact fin
    | ct ρ => cases e; exact fin
    | rs x ρ => cases e; exact fin
    | rl ds => cases e; exact fin
def RA (o : Option R) (ρ : Env) (k : D → Option Out) : Option Out := match o with
  | some (.ok d) => if d.pure then k d else none
  | some (.ex x) => if D.pures x.fs then some (.rs x ρ) else none
  | none => none
variable {S H : Hp} {σ : L2.St} {ρ : Env} {L : Nat → Option Addr} {Dn : Ends} {P : VK} {k : D → Option Out} {o : Out}
theorem sB (r : Rep T ρ σ S H L) (h : RS (f ρ) ρ k = some o) (fin : SEnd T W Dn S H L o)
    (go : ∀ d v S' H', Kp S H S' H' → Is T S' v d → Rep T ρ σ S' H' L → k d = some o → SEnd T W Dn S' H' L o → P v H') : tF T W f σ H P := by
  cases e : f ρ with
  | none => rw [e] at h; cases h
  | some q =>
    rw [e] at h
    refine ⟨ρ, S, q, r.sub, r.repE, e, ?_⟩
    cases q with
    | ok d => exact fun v S' H' kp i => go d v S' H' kp i (r.kp kp) h (fin.mono kp.stp)
    | ex x =>
      cases h
      exact fun S' H' cls d kp i => fin σ S' H' L cls d (r.kp kp) kp.stp i
theorem sA (r : Rep T ρ σ S H L) (h : RA (f (thaw ρ)) ρ k = some o) (fin : SEnd T W Dn S H L o)
    (go : ∀ d v S' H', Kp S H S' H' → Is T S' v d → Rep T ρ σ S' H' L → k d = some o → SEnd T W Dn S' H' L o → P v H') : tF T W f σ H P := by
  cases e : f (thaw ρ) with
  | none => rw [e] at h; cases h
  | some q =>
    rw [e] at h
    refine ⟨thaw ρ, H, q, EV.Sub.refl H, r.thaw, e, ?_⟩
    cases q with
    | ok d =>
      intro v S2 H2 kp i
      have h' : (if d.pure then k d else none) = some o := h
      split at h'
      · rename_i hp
        obtain ⟨S', kp', ss⟩ := unthaw r.sub kp
        exact go d v S' H2 kp' ((i.mono kp.sub.same).pure kp'.sub hp) (r.kp kp') h' (fin.mono kp'.stp)
      · cases h'
    | ex x =>
      intro S2 H2 cls d kp i
      have h' : (if D.pures x.fs then some (Out.rs x ρ) else none) = some o := h
      split at h'
      · rename_i hp
        cases h'
        obtain ⟨S', kp', ss⟩ := unthaw r.sub kp
        exact fin σ S' H2 L cls d (r.kp kp') kp'.stp ((i.mono kp.sub.same).pure kp'.sub hp)
      · cases h'

def gSetA (i : Nat) (f : FE) : FS := fun ρ => RA (f (thaw ρ)) ρ fun d => some (.nx (ρ.set i (.v d)))
section
variable {i : Nat} {x : Str} {p : Pos}
theorem ss_set_ {te : TE} (he : PS X st (tAsg te (gName i))) (hw : ∀ σ H Q, tF T W f σ H Q → te σ H Q) : SS X T W st (gSet i f) := PS.weak he fun Dn σ H q => by
  obtain ⟨ρ, S, L, o, r, e, fin⟩ := q
  refine hw σ H _ (sB r e fin fun d v S' H' kp hi r' e' fin' => ?_)
  cases e'
  exact fin' _ S' H' _ (r'.setV hi) Stp.off
theorem ss_setA_ {te : TE} (he : PS X st (tAsg te (gName i))) (hw : ∀ σ H Q, tF T W f σ H Q → te σ H Q) : SS X T W st (gSetA i f) := PS.weak he fun Dn σ H q => by
  obtain ⟨ρ, S, L, o, r, e, fin⟩ := q
  refine hw σ H _ (sA r e fin fun d v S' H' kp hi r' e' fin' => ?_)
  cases e'
  exact fin' _ S' H' _ (r'.setV hi) Stp.off
theorem ss_set (i : Nat) (hN : X.N.Nodup) (hi : X.N[i]? = some x := by rfl) (hx : Loc X.env.scope x := by first | exact .inl rfl | exact .inr rfl) (hf : X.fn x = true ∨ X.env.scope.names.lookup x = some .local := by first | exact .inl rfl | exact .inr rfl)
    (hs : swapsWith e (some (.Name x p)) pos.line X.env = pure false := by rfl) (he : EE X T W e f) : SS X T W (.Assign [.Name x p] e pos) (gSet i f) :=
  ss_set_ (ps_set hN hi hx he hs hf) fun _ _ _ h => h
theorem ss_setA (i : Nat) (hN : X.N.Nodup) (hi : X.N[i]? = some x := by rfl) (hx : Loc X.env.scope x := by first | exact .inl rfl | exact .inr rfl) (hf : X.fn x = true ∨ X.env.scope.names.lookup x = some .local := by first | exact .inl rfl | exact .inr rfl)
    (hs : swapsWith e (some (.Name x p)) pos.line X.env = pure false := by rfl) (he : EE X T W e f) : SS X T W (.Assign [.Name x p] e pos) (gSetA i f) :=
  ss_setA_ (ps_set hN hi hx he hs hf) fun _ _ _ h => h
end
end
end EV
end

section
set_option maxHeartbeats 4000000
/-! EV5: own lists, branches, loops, targets. -/
namespace EV
open PySem L2
section
variable {X : Cx} {T : Tab} {W : WX} {st : Stmt} {rest body els : List Stmt} {g g1 g2 : FS} {e a b c : Expr} {es : List Expr} {f fa fb fc : FE} {pos : Pos}
variable {S H : Hp} {σ : L2.St} {ρ : Env} {L : Nat → Option Addr} {Dn : Ends} {P : VK} {o : Out} {i : Nat} {x : Str} {p : Pos}

def RAL (o : Option RL) (ρ : Env) (k : List D → Option Out) : Option Out := match o with
  | some (.ok d) => if D.pures d then k d else none
  | some (.ex x) => if D.pures x.fs then some (.rs x ρ) else none
  | none => none
theorem sBN {f : FL} {k : List D → Option Out} (r : Rep T ρ σ S H L) (h : RSL (f ρ) ρ k = some o) (fin : SEnd T W Dn S H L o)
    (go : ∀ ds a vs S' H', Kp S H S' H' → H a = none → S' a = none → H' a = some (.lst vs) → Iss T S' vs ds → Rep T ρ σ S' H' L → k ds = some o → SEnd T W Dn S' H' L o → P (.ref a) H') : tN T W f σ H P := by
  cases e : f ρ with
  | none => rw [e] at h; cases h
  | some q =>
    rw [e] at h
    refine ⟨ρ, S, q, r.sub, r.repE, e, ?_⟩
    cases q with
    | ok d => exact fun a vs S' H' kp h1 h2 h3 i => go d a vs S' H' kp h1 h2 h3 i (r.kp kp) h (fin.mono kp.stp)
    | ex x =>
      cases h
      exact fun S' H' cls d kp i => fin σ S' H' L cls d (r.kp kp) kp.stp i
theorem sAN {f : FL} {k : List D → Option Out} (r : Rep T ρ σ S H L) (h : RAL (f (thaw ρ)) ρ k = some o) (fin : SEnd T W Dn S H L o)
    (go : ∀ ds a vs S' H', Kp S H S' H' → H a = none → S' a = none → H' a = some (.lst vs) → Iss T S' vs ds → Rep T ρ σ S' H' L → k ds = some o → SEnd T W Dn S' H' L o → P (.ref a) H') : tN T W f σ H P := by
  cases e : f (thaw ρ) with
  | none => rw [e] at h; cases h
  | some q =>
    rw [e] at h
    refine ⟨thaw ρ, H, q, EV.Sub.refl H, r.thaw, e, ?_⟩
    cases q with
    | ok d =>
      intro a vs S2 H2 kp h1 h2 h3 i
      have h' : (if D.pures d then k d else none) = some o := h
      split at h'
      · rename_i hp
        obtain ⟨S', kp', ss⟩ := unthaw r.sub kp
        have hs : S' a = none := ss.free h2
        exact go d a vs S' H2 kp' h1 hs h3 ((i.mono kp.sub.same).pure kp'.sub hp) (r.kp kp') h' (fin.mono kp'.stp)
      · cases h'
    | ex x =>
      intro S2 H2 cls d kp i
      have h' : (if D.pures x.fs then some (Out.rs x ρ) else none) = some o := h
      split at h'
      · rename_i hp
        cases h'
        obtain ⟨S', kp', ss⟩ := unthaw r.sub kp
        exact fin σ S' H2 L cls d (r.kp kp') kp'.stp ((i.mono kp.sub.same).pure kp'.sub hp)
      · cases h'
def gOwnA (i : Nat) (f : FL) : FS := fun ρ => RAL (f (thaw ρ)) ρ (setOwn i ρ)
theorem on_end {ds : List D} {a : Addr} {vs : List V} {S' H' : Hp} (kp : Kp S H S' H') (hn : H a = none) (hs : S' a = none) (h' : H' a = some (.lst vs)) (hi : Iss T S' vs ds) (r : Rep T ρ σ S H L) (r' : Rep T ρ σ S' H' L) (e' : setOwn i ρ ds = some o) (fin : SEnd T W Dn S H L o) : Dn.nx (σ.set i (some (.ref a))) H' := by
  unfold setOwn at e'
  split at e' <;> cases e'
  rename_i hl
  have nl : ∀ j, L j ≠ some a := fun j z => by
    rcases r.dom j a z with ⟨ds, q⟩ | ⟨c, ds, q⟩ | ⟨ks, ds, q⟩
    · obtain ⟨b, vs, q1, _, q3, _⟩ := r.own j ds q
      rw [z] at q1; cases q1; rw [hn] at q3; cases q3
    · obtain ⟨b, dx, vs, q1, _, q3, _⟩ := r.ins j c ds q
      rw [z] at q1; cases q1; rw [hn] at q3; cases q3
    · obtain ⟨b, bs, vs, q1, _, q3, _⟩ := r.od j ks ds q
      rw [z] at q1; cases q1; rw [hn] at q3; cases q3
  refine fin _ S' H' _ (r'.setOwn hl h' hs nl hi) ⟨kp.s, fun b u h _ => kp.h b u h, fun b h1 h2 _ => kp.hid b h1 h2, fun j b z => ?_, fun b xs h => ⟨xs, kp.h b _ h⟩, fun b _ _ fs h => ⟨fs, kp.h b _ h⟩, fun b ks bs vs h => ⟨ks, bs, vs, kp.h b _ h⟩⟩
  unfold EV.on at z
  split at z
  · cases z; exact .inr ⟨hn, .inl ⟨_, h'⟩⟩
  · exact .inl ⟨j, z⟩
theorem ss_own_ {te : TE} {f : FL} (he : PS X st (tAsg te (gName i))) (hw : ∀ σ H Q, tN T W f σ H Q → te σ H Q) : SS X T W st (gOwn i f) := PS.weak he fun Dn σ H q => by
  obtain ⟨ρ, S, L, o, r, e, fin⟩ := q
  exact hw σ H _ (sBN r e fin fun ds a vs S' H' kp h1 h2 h3 hi r' e' fin' => on_end kp h1 h2 h3 hi r r' e' fin)
theorem ss_ownA_ {te : TE} {f : FL} (he : PS X st (tAsg te (gName i))) (hw : ∀ σ H Q, tN T W f σ H Q → te σ H Q) : SS X T W st (gOwnA i f) := PS.weak he fun Dn σ H q => by
  obtain ⟨ρ, S, L, o, r, e, fin⟩ := q
  exact hw σ H _ (sAN r e fin fun ds a vs S' H' kp h1 h2 h3 hi r' e' fin' => on_end kp h1 h2 h3 hi r r' e' fin)
theorem ss_own (i : Nat) {f : FL} (hN : X.N.Nodup) (hi : X.N[i]? = some x := by rfl) (hx : Loc X.env.scope x := by first | exact .inl rfl | exact .inr rfl) (hf : X.fn x = true ∨ X.env.scope.names.lookup x = some .local := by first | exact .inl rfl | exact .inr rfl)
    (hs : swapsWith e (some (.Name x p)) pos.line X.env = pure false := by rfl) (he : EN X T W e f) : SS X T W (.Assign [.Name x p] e pos) (gOwn i f) :=
  ss_own_ (ps_set hN hi hx he hs hf) fun _ _ _ h => h
theorem ss_ownA (i : Nat) {f : FL} (hN : X.N.Nodup) (hi : X.N[i]? = some x := by rfl) (hx : Loc X.env.scope x := by first | exact .inl rfl | exact .inr rfl) (hf : X.fn x = true ∨ X.env.scope.names.lookup x = some .local := by first | exact .inl rfl | exact .inr rfl)
    (hs : swapsWith e (some (.Name x p)) pos.line X.env = pure false := by rfl) (he : EN X T W e f) : SS X T W (.Assign [.Name x p] e pos) (gOwnA i f) :=
  ss_ownA_ (ps_set hN hi hx he hs hf) fun _ _ _ h => h

theorem ss_expr (he : EE X T W e f) (hs : swapsWith e none pos.line X.env = pure false := by rfl) : SS X T W (.Expr e pos) (gDrop f) := PS.weak (ps_expr he hs) fun Dn σ H q => by
  obtain ⟨ρ, S, L, o, r, e, fin⟩ := q
  refine sB r e fin fun d v S' H' kp hi r' e' fin' => ?_
  cases e'
  exact fin' _ S' H' L r' Stp.refl
theorem ss_ret (he : EE X T W e f) : SS X T W (.Return (some e) pos) (gRet f) := PS.weak (ps_ret he) fun Dn σ H q => by
  obtain ⟨ρ, S, L, o, r, e, fin⟩ := q
  refine sB r e fin fun d v S' H' kp hi r' e' fin' => ?_
  cases e'
  exact fin' v S' H' L kp.sub Stp.refl hi
/-! ### if -/
def gIf (fc : FE) (g1 g2 : FS) : FS := fun ρ => RS (fc ρ) ρ fun
  | .bl true => g1 ρ
  | .bl false => g2 ρ
  | _ => none
def gIfA (fc : FE) (g1 g2 : FS) : FS := fun ρ => RA (fc (thaw ρ)) ρ fun
  | .bl true => g1 ρ
  | .bl false => g2 ρ
  | _ => none
theorem ss_if (hc : EB X T W c fc) (h1 : SSs X T W body g1) (h2 : SSs X T W els g2) : SS X T W (.If c body els pos) (gIf fc g1 g2) := PS.weak (ps_if hc h1 h2) fun Dn σ H q => by
  obtain ⟨ρ, S, L, o, r, e, fin⟩ := q
  refine sB r e fin fun d v S' H' kp hi r' e' fin' => ?_
  split at e'
  · cases hi
    exact ⟨true, rfl, ρ, S', L, o, r', e', fin'⟩
  · cases hi
    exact ⟨false, rfl, ρ, S', L, o, r', e', fin'⟩
  · cases e'
theorem ss_ifA (hc : EB X T W c fc) (h1 : SSs X T W body g1) (h2 : SSs X T W els g2) : SS X T W (.If c body els pos) (gIfA fc g1 g2) := PS.weak (ps_if hc h1 h2) fun Dn σ H q => by
  obtain ⟨ρ, S, L, o, r, e, fin⟩ := q
  refine sA r e fin fun d v S' H' kp hi r' e' fin' => ?_
  split at e'
  · cases hi
    exact ⟨true, rfl, ρ, S', L, o, r', e', fin'⟩
  · cases hi
    exact ⟨false, rfl, ρ, S', L, o, r', e', fin'⟩
  · cases e'

/-! ### xs.append(e), xs[k] = e .. of an own list -/
def appK (i : Nat) (ρ : Env) (d : D) : Option Out := match ρ[i]? with
  | some (.own ds) => if ds.length < 100000 then some (.nx (ρ.set i (.own (ds ++ [d])))) else none
  | _ => none
def gApp (i : Nat) (f : FE) : FS := fun ρ => RS (f ρ) ρ (appK i ρ)
theorem app_end {d : D} {v : V} {a : Addr} {vs : List V} {ds : List D} (r : Rep T ρ σ S H L) (hd : ρ[i]? = some (.own ds)) (hL : L i = some a) (ha : H a = some (.lst vs)) (hi : Is T S v d) (e : appK i ρ d = some o) (fin : SEnd T W Dn S H L o) :
    rAppend (.ref a) [v] H fun _ H1 => Dn.nx σ H1 := by
  unfold appK at e
  rw [hd] at e
  dsimp only at e
  split at e <;> cases e
  rename_i hl
  obtain ⟨a0, vs0, h1, h2, h3, h4, h5⟩ := r.own i ds hd
  rw [hL] at h1; cases h1
  rw [ha] at h3; cases h3
  exact ⟨a, vs, v, rfl, rfl, ha, by rw [h5.length]; exact line_lt hl, fin σ S _ L (r.upd hd hL (h5.append (.cons hi .nil))) (Stp.upd hL ha)⟩
def gAppO (i : Nat) (g : FS) : FS := fun ρ => match ρ[i]? with
  | some (.own _) => g ρ
  | _ => none
section
variable {p1 p2 p3 : Pos}
theorem ss_app (i : Nat) (hN : X.N[i]? = some x := by rfl) (hv : Vis X.env.scope x := by first | exact Or.inl rfl | exact Or.inr (Or.inl rfl) | exact Or.inr (Or.inr rfl)) (hs : swapsWith (.Call (.Attribute (.Name x p1) "append" p2) [e] [] p3) none pos.line X.env = pure false := by rfl)
    (hbase : attributeBase (.Name x p1) "append" X.env (eval (.Name x p1) X.env) = eval (.Name x p1) X.env := by rfl) (hd : (x == ("__debug__" : Str)) = false := by decide) (hcd : (x == ("__classdict__" : Str)) = false := by decide)
    (hfew : ((backTo p3 (starEach [e] X.env)).all (fun x => !x.1) && (backToKw p3 (keywordEach [] X.env)).all (fun x => x.1.isSome) && decide ([e].length + ([] : List Keyword).length + (if ([] : List Keyword).isEmpty then 0 else 1) < 30)) = true := by rfl)
    (hline : (p2.endLine == p3.line) = true := by rfl) (hs1 : starEach [e] X.env = (false, eval e X.env) :: starEach [] X.env := by rfl) (hplain : (backTo p3 (starEach [] X.env)).any (·.1) = false := by rfl)
    (he : EE X T W e f) : SS X T W (.Expr (.Call (.Attribute (.Name x p1) "append" p2) [e] [] p3) pos) (gAppO i (gApp i f)) := by
  refine PS.weak (ps_expr (pe_bm PySem.F.plainAttrs_list PySem.F.slot_list_append PySem.F.type_list_append mt_append (pe_var hN hv hd hcd) (pa_cons he pa_nil hs1) hbase hfew hline hs1 hplain) hs) fun Dn σ H q => ?_
  obtain ⟨ρ, S, L, o, r, e, fin⟩ := q
  unfold gAppO at e
  split at e <;> try cases e
  rename_i ds hd
  obtain ⟨a, vs, h1, h2, h3, h4, h5⟩ := r.own i ds hd
  refine ⟨_, h2, .inl ⟨rfl, _, SqL.of h3⟩, ?_⟩
  refine sB r e fin fun d v S' H' kp hi r' e' fin' => ?_
  exact app_end r' hd h1 (kp.h _ _ h3) hi e' fin'
end
/-- xs[k] = e: e first (mode A or B), then the place (mode A) -/
def setK (i : Nat) (fk : FE) (ρ : Env) (d : D) : Option Out := match ρ[i]? with
  | some (.own ds) => (match fk (thaw ρ) with
    | some (.ok (.int k)) => (match ixN ds.length k with
      | some j => some (.nx (ρ.set i (.own (ds.set j d))))
      | none => none)
    | _ => none)
  | _ => none
def gSetIxA (i : Nat) (fk f : FE) : FS := fun ρ => RA (f (thaw ρ)) ρ (setK i fk ρ)
section
variable {p1 p2 : Pos} {fk : FE}
theorem set_go {d : D} {v : V} (r : Rep T ρ σ S H L) (hi : Is T S v d) (e : setK i fk ρ d = some o) (fin : SEnd T W Dn S H L o) : tVar i σ H fun x H1 => tF T W fk σ H1 fun y H2 => rSetL x y v H2 fun H3 => Dn.nx σ H3 := by
  unfold setK at e
  split at e <;> try cases e
  rename_i ds hd
  split at e <;> try cases e
  rename_i k hk
  split at e <;> cases e
  rename_i j hj
  obtain ⟨a, vs, h1, h2, h3, h4, h5⟩ := r.own i ds hd
  refine ⟨_, h2, thaw ρ, H, _, EV.Sub.refl H, r.thaw, hk, ?_⟩
  intro y S2 H2 kp i2
  cases i2
  obtain ⟨S', kp', ss⟩ := unthaw r.sub kp
  have r' := r.kp kp'
  refine ⟨a, vs, k, j, rfl, rfl, kp.h _ _ h3, by rw [h5.length]; exact hj, ?_⟩
  exact fin σ S' _ L (r'.upd hd h1 (Iss.set (hi.mono kp'.s) j (h5.mono kp'.s))) (kp'.stp.trans (Stp.upd h1 (kp.h _ _ h3)))
theorem ss_setIxA (i : Nat) (hN : X.N[i]? = some x := by rfl) (hv : Vis X.env.scope x := by first | exact Or.inl rfl | exact Or.inr (Or.inl rfl) | exact Or.inr (Or.inr rfl)) (hd : (x == ("__debug__" : Str)) = false := by decide) (hcd : (x == ("__classdict__" : Str)) = false := by decide)
    (hs : swapsWithSole [.Subscript (.Name x p1) c p2] e pos.line X.env = pure false := by rfl) (hw : swappedStores [.Subscript (.Name x p1) c p2] e X.env = pure none := by rfl)
    (h1 : (assignEach [.Subscript (.Name x p1) c p2] X.env).map (·.2) = [assign (.Subscript (.Name x p1) c p2) X.env] := by rfl) (hg : ∀ {tk}, PE X c tk → PG X (.Subscript (.Name x p1) c p2) (gSub (tVar i) tk rSetL))
    (hk : EE X T W c fk) (he : EE X T W e f) : SS X T W (.Assign [.Subscript (.Name x p1) c p2] e pos) (gSetIxA i fk f) := by
  refine PS.weak (ps_asg he (hg hk) hs hw h1) fun Dn σ H q => ?_
  obtain ⟨ρ, S, L, o, r, e, fin⟩ := q
  refine sA r e fin fun d v S' H' kp hi r' e' fin' => ?_
  exact set_go r' hi e' fin'
end
end
end EV
end

section
set_option maxHeartbeats 4000000
/-! EV6: targets, what is walked, for, while, comprehensions. -/
namespace EV
open PySem L2

def tT (T : Tab) (is : List Nat) (fg : FG) : TG := fun v σ H Q => ∃ ρ S L d ρ', Rep T ρ σ S H L ∧ Is T S v d ∧ fg d ρ = some ρ' ∧
  ∀ σ' L', Rep T ρ' σ' S H L' → Stp S H L S H L' → (σ'.length = σ.length ∧ ∀ j, j ∉ is → σ'[j]? = σ[j]?) → Q σ' H
def EG (X : Cx) (T : Tab) (e : Expr) (is : List Nat) (fg : FG) : Prop := PG X e (tT T is fg)
def tTs (T : Tab) (is : List Nat) (fg : FGs) : TGs := fun vs σ H Q => ∃ ρ S L ds ρ', Rep T ρ σ S H L ∧ Iss T S vs ds ∧ fg ds ρ = some ρ' ∧
  ∀ σ' L', Rep T ρ' σ' S H L' → Stp S H L S H L' → (σ'.length = σ.length ∧ ∀ j, j ∉ is → σ'[j]? = σ[j]?) → Q σ' H
def EGs (X : Cx) (T : Tab) (es : List Expr) (is : List Nat) (fg : FGs) : Prop := PGs X es (tTs T is fg)
section
variable {X : Cx} {T : Tab} {W : WX} {st : Stmt} {rest body els : List Stmt} {g g1 g2 : FS} {e a b c : Expr} {es : List Expr} {f fa fb fc : FE} {pos : Pos}
variable {S H : Hp} {σ : L2.St} {ρ : Env} {L : Nat → Option Addr} {Dn : Ends} {P : VK} {o : Out} {i : Nat} {x : Str} {p : Pos} {is js : List Nat} {fg : FG} {fgs : FGs}
theorem PG.weak {e : Expr} {t u : TG} (h : PG X e t) (w : ∀ v σ H Q, u v σ H Q → t v σ H Q) : PG X e u := ⟨fun pins s σ H v uu Q I r q => h.run pins s σ H v uu Q I r (w v σ H Q q)⟩
theorem PGs.weak {e : List Expr} {t u : TGs} (h : PGs X e t) (w : ∀ v σ H Q, u v σ H Q → t v σ H Q) : PGs X e u := ⟨fun pins s σ H v uu Q I r q => h.run pins s σ H v uu Q I r (w v σ H Q q)⟩
def nmG (i : Nat) : FG := fun d ρ => some (ρ.set i (.v d))
theorem eg_name (i : Nat) (hN : X.N.Nodup) (hi : X.N[i]? = some x := by rfl) (hx : Loc X.env.scope x := by first | exact .inl rfl | exact .inr rfl) (hf : X.fn x = true ∨ X.env.scope.names.lookup x = some .local := by first | exact .inl rfl | exact .inr rfl) : EG X T (.Name x pos) [i] (nmG i) :=
  PG.weak (pg_name hN hi hx hf) fun v σ H Q q => by
    obtain ⟨ρ, S, L, d, ρ', r, hi, e, fin⟩ := q
    cases e
    refine fin _ _ (r.setV hi) Stp.off ⟨List.length_set .., fun j hj => ?_⟩
    exact List.getElem?_set_ne (fun z => hj (by simp [z]))
def nilG : FGs := fun ds ρ => match ds with
  | [] => some ρ
  | _ => none
def consG (fg : FG) (fgs : FGs) : FGs := fun ds ρ => match ds with
  | d :: ds => (match fg d ρ with
    | some ρ' => fgs ds ρ'
    | none => none)
  | [] => none
theorem egs_nil : EGs X T [] [] nilG := PGs.weak pgs_nil fun v σ H Q q => by
  obtain ⟨ρ, S, L, d, ρ', r, hi, e, fin⟩ := q
  unfold nilG at e
  split at e <;> cases e
  cases hi
  exact ⟨rfl, fin σ L r Stp.refl ⟨rfl, fun _ _ => rfl⟩⟩
theorem egs_cons (h1 : EG X T e is fg) (h2 : EGs X T es js fgs) (hs : (assignEach (e :: es) X.env).map (·.2) = assign e X.env :: (assignEach es X.env).map (·.2) := by rfl) : EGs X T (e :: es) (is ++ js) (consG fg fgs) :=
  PGs.weak (pgs_cons h1 h2 hs) fun v σ H Q q => by
    obtain ⟨ρ, S, L, ds, ρ', r, hi, e, fin⟩ := q
    unfold consG at e
    split at e <;> try cases e
    rename_i d ds
    split at e <;> try cases e
    rename_i ρ1 e1
    cases hi with
    | cons h1 h2 =>
      refine ⟨_, _, rfl, ρ, S, L, d, ρ1, r, h1, e1, fun σ1 L1 r1 s1 c1 => ⟨ρ1, S, L1, ds, ρ', r1, h2, e, fun σ2 L2 r2 s2 c2 => ?_⟩⟩
      refine fin σ2 L2 r2 (s1.trans s2) ⟨c2.1.trans c1.1, fun j hj => ?_⟩
      rw [c2.2 j fun z => hj (List.mem_append_right _ z), c1.2 j fun z => hj (List.mem_append_left _ z)]
def tupG (fgs : FGs) : FG := fun d ρ => match d with
  | .tup ds => fgs ds ρ
  | .lst ds => fgs ds ρ
  | _ => none
def lenG (n : Nat) (fgs : FGs) : FGs := fun ds ρ => if ds.length = n then fgs ds ρ else none
theorem eg_tup {k n : Nat} (hc : X.calm = true) (hK : X.K = T.K := by rfl) (h : EGs X T es is fgs) (hn : (assignEach es X.env).length = n := by rfl) (hst : (assignEach es X.env).findIdx? (·.1) = none := by rfl) : EG X T (.Tuple es k pos) is (tupG (lenG n fgs)) :=
  PG.weak (PG.or (pg_tup hc h hn hst) (pg_unl hc h hn hst)) fun v σ H Q q => by
    obtain ⟨ρ, S, L, d, ρ', r, hi, e, fin⟩ := q
    unfold tupG at e
    split at e <;> try cases e
    · unfold lenG at e
      split at e <;> try cases e
      rename_i hl
      cases hi with
      | tup h1 h2 => exact .inl ⟨_, _, rfl, by rw [hK]; exact Same.seqT r.sub.same h1, by rw [h2.length]; exact hl, ρ, S, L, _, ρ', r, h2, e, fin⟩
    · unfold lenG at e
      split at e <;> try cases e
      rename_i hl
      cases hi with
      | lst h1 h2 => exact .inr ⟨_, _, rfl, SqL.of (r.sub.same _ _ h1), by rw [h2.length]; exact hl, ρ, S, L, _, ρ', r, h2, e, fin⟩

def tI (T : Tab) (W : WX) (f : FL) : TI := fun σ H R => ∃ ρ S r, EV.Sub S H ∧ RepE T S ρ σ ∧ f ρ = some r ∧ RIEnd T W S H σ R r
def EI (X : Cx) (T : Tab) (W : WX) (tg e : Expr) (f : FL) : Prop := PI X tg e (tI T W f)
theorem PI.weak {tg e : Expr} {t u : TI} (h : PI X tg e t) (w : ∀ σ H Q, u σ H Q → t σ H Q) : PI X tg e u := ⟨fun pins s σ H Q I q => h.run pins s σ H Q I (w σ H Q q)⟩
theorem tF_goI {R : It → Hp → Prop} {k : D → Option RL} {r : RL} (sh : EV.Sub S H) (rep : RepE T S ρ σ) (h : R1L (f ρ) k = some r) (fin : RIEnd T W S H σ R r)
    (go : ∀ d v S' H', Kp S H S' H' → Is T S' v d → RepE T S' ρ σ → k d = some r → RIEnd T W S' H' σ R r → P v H') : tF T W f σ H P := by
  cases e : f ρ with
  | none => rw [e] at h; cases h
  | some q =>
    rw [e] at h
    refine ⟨ρ, S, q, sh, rep, e, ?_⟩
    cases q with
    | ok d => exact fun v S' H' kp i => go d v S' H' kp i (rep.mono kp.s) h (fin.mono kp)
    | ex x =>
      cases h
      exact fin
theorem iw_list {K : PySem.W.Frag} (hK : K = T.K) {a : Addr} {vs : List V} {ds : List D} {S1 : Hp} (h : SqL K S1 a vs) (hs : Iss T S1 vs ds) : IW T (Itl K a) S1 ds := by
  refine ⟨fun i S H s sh hi => ?_, fun S H s sh => ?_, fun i S H x H' s sh hi y => ?_⟩
  · exact walk_list.goes i H (by rw [hs.length]; exact hi) (sh.same.seq (s.seq h))
  · rw [← hs.length]
    exact walk_list.stops H (sh.same.seq (s.seq h))
  · obtain ⟨e, hx⟩ := walk_list.yields i H x H' (by rw [hs.length]; exact hi) (sh.same.seq (s.seq h)) y
    subst e
    obtain ⟨d, h1, h2⟩ := hs.get hx
    exact ⟨d, S, h1, Kp.refl sh, h2.mono s⟩
theorem iw_tup {K : PySem.W.Frag} (hK : K = T.K) {a : Addr} {vs : List V} {ds : List D} {S1 : Hp} (h : SqT K S1 a vs) (hs : Iss T S1 vs ds) : IW T (Itt K a) S1 ds := by
  refine ⟨fun i S H s sh hi => ?_, fun S H s sh => ?_, fun i S H x H' s sh hi y => ?_⟩
  · exact walk_tup.goes i H (by rw [hs.length]; exact hi) (Same.seqT sh.same (Same.seqT s h))
  · rw [← hs.length]
    exact walk_tup.stops H (Same.seqT sh.same (Same.seqT s h))
  · obtain ⟨e, hx⟩ := walk_tup.yields i H x H' (by rw [hs.length]; exact hi) (Same.seqT sh.same (Same.seqT s h)) y
    subst e
    obtain ⟨d, h1, h2⟩ := hs.get hx
    exact ⟨d, S, h1, Kp.refl sh, h2.mono s⟩
theorem ei_seq {tg : Expr} (hK : X.K = T.K := by rfl) (he : EE X T W e f) : EI X T W tg e (iSeq f) := by
  refine PI.weak (PI.or (pi_list he) (pi_tup he)) fun σ H R q => ?_
  obtain ⟨ρ, S, r, sh, rep, e, fin⟩ := q
  unfold iSeq at e
  cases e0 : f ρ with
  | none => rw [e0] at e; cases e
  | some z =>
    cases z with
    | ex x =>
      rw [e0] at e
      cases e
      exact .inl ⟨ρ, S, _, sh, rep, e0, fin⟩
    | ok d =>
      rw [e0] at e
      obtain ⟨ds, e1, rfl⟩ := Option.map_eq_some_iff.mp e
      unfold seqD at e1
      split at e1 <;> cases e1
      · refine .inl ⟨ρ, S, _, sh, rep, e0, fun v S1 H1 k i => ?_⟩
        cases i with
        | lst h hs => exact ⟨_, rfl, ⟨_, SqL.of (k.sub.same _ _ h)⟩, fin _ S1 H1 k (iw_list hK (SqL.of h) hs)⟩
      · refine .inr ⟨ρ, S, _, sh, rep, e0, fun v S1 H1 k i => ?_⟩
        cases i with
        | tup h hs => exact ⟨_, rfl, ⟨_, Same.seqT k.sub.same (by rw [hK]; exact h)⟩, fin _ S1 H1 k (iw_tup hK (by rw [hK]; exact h) hs)⟩
      · refine .inl ⟨ρ, S, _, sh, rep, e0, fun v S1 H1 k i => ?_⟩
        cases i with
        | scr h l => exact ⟨_, rfl, ⟨_, k.sub.same.seq (by rw [hK]; exact h)⟩, fin _ S1 H1 k (iw_list hK (by rw [hK]; exact h) (Iss.ints _))⟩
/-- range -/
def rangeD (lo : Int) (n : Nat) : List D := (List.range n).map fun i => D.int (lo + (i : Nat))
theorem rangeD_length (lo : Int) (n : Nat) : (rangeD lo n).length = n := by simp [rangeD]
theorem iw_range {S1 : Hp} {lo : Int} {n : Nat} : IW T (Itr lo n) S1 (rangeD lo n) := by
  refine ⟨fun i S H s sh hi => ?_, fun S H s sh => ?_, fun i S H x H' s sh hi y => ?_⟩
  · rw [rangeD_length] at hi; exact hi
  · rw [rangeD_length]; exact Nat.le_refl _
  · rw [rangeD_length] at hi
    obtain ⟨e, rfl⟩ := y
    subst e
    refine ⟨.int (lo + (i : Nat)), S, ?_, Kp.refl sh, .int _⟩
    simp [rangeD, hi]
def iRange1 (f : FE) : FL := fun ρ => R1L (f ρ) fun
  | .int j => if -(2 ^ 62) ≤ j ∧ j < 2 ^ 62 then some (.ok (rangeD 0 j.toNat)) else none
  | _ => none
theorem ei_range1 {tg : Expr} (hm : X.mg "range" = none) (ha : EE X T W a fa) (hg : Gl X "range" := by rfl) (hs : starEach [a] X.env = [(false, eval a X.env)] := by rfl) (hs2 : starEach [a] X.env = (false, eval a X.env) :: starEach [] X.env := by rfl) : EI X T W tg (.Call (.Name "range" p) [a] [] pos) (iRange1 fa) := by
  refine PI.weak (pi_range1 hg hm (pa_cons ha pa_nil hs2) hs) fun σ H R q => ?_
  obtain ⟨ρ, S, r, sh, rep, e, fin⟩ := q
  show tF T W fa σ H _
  refine tF_goI sh rep e fin fun d v S1 H1 k i rep1 e1 fin1 => ?_
  split at e1 <;> try cases e1
  split at e1 <;> cases e1
  rename_i hb
  cases i
  exact ⟨_, rfl, hb.1, hb.2, fin1 _ S1 H1 (Kp.refl k.sub) iw_range⟩
/-- the loop over what is walked -/
theorem for_core {ds : List D} {J : It} {S1 H1 : Hp} (r : Rep T ρ σ S1 H1 L) (iw : IW T J S1 ds) (e : loopF fg g ds ρ = some o) (fin : SEnd T W Dn S1 H1 L o) :
    ∃ Wi : Nat → Nat → L2.St → Hp → Prop, (∃ m, Wi 0 m σ H1) ∧ ∀ i m σ H, Wi i m σ H → (J.stop i H ∧ Dn.nx σ H) ∨ (J.go i H ∧ ∃ N : L2.St → Hp → Prop, (∀ σ' H', N σ' H' → ∃ m', m' < m ∧ Wi (i + 1) m' σ' H') ∧ ∀ x H', J.yld i H x H' → tT T is fg x σ H' fun σ2 H2 => tG T W g { Dn with nx := N, ct := N, bk := Dn.nx } σ2 H2) := by
  let Pv : Nat → L2.St → Hp → Prop := fun i σ H => ∃ ρ S L, Rep T ρ σ S H L ∧ Same S1 S ∧ loopF fg g (ds.drop i) ρ = some o ∧ SEnd T W Dn S H L o
  refine ⟨fun i m σ H => m = ds.length - i ∧ i ≤ ds.length ∧ Pv i σ H, ⟨ds.length, by simp, Nat.zero_le _, ρ, S1, L, r, Same.refl _, e, fin⟩, ?_⟩
  rintro i m σ H ⟨rfl, hi, ρ, S, L, r, ss, e, fin⟩
  by_cases hlt : i < ds.length
  · refine .inr ⟨iw.go i S H ss r.sub hlt, Pv (i + 1), fun σ' H' p' => ⟨ds.length - (i + 1), by omega, rfl, hlt, p'⟩, fun x H' y => ?_⟩
    obtain ⟨d, S', hd, kp, hi⟩ := iw.yld i S H x H' ss r.sub hlt y
    have hdr : ds.drop i = d :: ds.drop (i + 1) := by
      rw [List.drop_eq_getElem_cons hlt]
      congr 1
      rw [List.getElem?_eq_getElem hlt] at hd
      exact Option.some.inj hd
    rw [hdr, loopF] at e
    split at e <;> try cases e
    rename_i ρ1 e1
    refine ⟨ρ, S', L, d, ρ1, r.kp kp, hi, e1, fun σ' L' r' s' _ => ?_⟩
    have base : Stp S H L S' H' L' := kp.stp.trans s'
    cases q : g ρ1 with
    | none => rw [q] at e; cases e
    | some o1 =>
      rw [q] at e
      refine ⟨ρ1, S', L', o1, r', q, ?_⟩
      cases o1 with
      | nx ρ2 => exact fun σ2 S2 H2 L2 r2 s2 => ⟨ρ2, S2, L2, r2, (ss.trans kp.s).trans s2.s, e, fin.mono (base.trans s2)⟩
      | ct ρ2 => exact fun σ2 S2 H2 L2 r2 s2 => ⟨ρ2, S2, L2, r2, (ss.trans kp.s).trans s2.s, e, fin.mono (base.trans s2)⟩
      | bk ρ2 =>
        cases e
        exact fun σ2 S2 H2 L2 r2 s2 => fin σ2 S2 H2 L2 r2 (base.trans s2)
      | rt d2 =>
        cases e
        exact fun v S2 H2 L2 sh s2 i2 => fin v S2 H2 L2 sh (base.trans s2) i2
      | rs x ρ2 =>
        cases e
        exact fun σ2 S2 H2 L2 cls d2 r2 s2 i2 => fin σ2 S2 H2 L2 cls d2 r2 (base.trans s2) i2
      | rl ds =>
        cases e
        exact fin.mono base
  · have ei : i = ds.length := by omega
    subst ei
    rw [List.drop_length, loopF] at e
    cases e
    exact .inl ⟨iw.stop S H ss r.sub, fin σ S H L r Stp.refl⟩
theorem sBI {f : FL} {R : It → Hp → Prop} {k : List D → Option Out} (r : Rep T ρ σ S H L) (h : RSL (f ρ) ρ k = some o) (fin : SEnd T W Dn S H L o)
    (go : ∀ ds J S' H', Kp S H S' H' → IW T J S' ds → Rep T ρ σ S' H' L → k ds = some o → SEnd T W Dn S' H' L o → R J H') : tI T W f σ H R := by
  cases e : f ρ with
  | none => rw [e] at h; cases h
  | some q =>
    rw [e] at h
    refine ⟨ρ, S, q, r.sub, r.repE, e, ?_⟩
    cases q with
    | ok d => exact fun J S' H' kp i => go d J S' H' kp i (r.kp kp) h (fin.mono kp.stp)
    | ex x =>
      cases h
      exact fun S' H' cls d kp i => fin σ S' H' L cls d (r.kp kp) kp.stp i
theorem ss_for {tg iter : Expr} {fi : FL} (hp : PassesOwn (model X.prog X.w) X.A X.env X.xe) (hc : X.calm = true) (hi : EI X T W tg iter fi) (hg : EG X T tg is fg) (hb : SSs X T W body g) (hs : ∀ x, foldedSetIterable iter X.env x = pure x := by intro _; rfl) :
    SS X T W (.For tg iter body [] pos) (gFor fi fg g) := by
  refine PS.weak (ps_for hp hc hi hg hb hs) fun Dn σ H q => ?_
  obtain ⟨ρ, S, L, o, r, e, fin⟩ := q
  exact sBI r e fin fun ds J S' H' kp iw r' e' fin' => for_core r' iw e' fin'

/-! ### while: m bounds the turns -/
end
end EV
end

section
set_option maxHeartbeats 4000000
/-! EV7: comprehensions; calls of built-ins. -/
namespace EV
open PySem L2
section
variable {X : Cx} {T : Tab} {W : WX} {st : Stmt} {g g1 g2 : FS} {e a b c : Expr} {es : List Expr} {f fa fb fc : FE} {pos : Pos}
variable {S H : Hp} {σ : L2.St} {ρ : Env} {L : Nat → Option Addr} {Dn : Ends} {P : VK} {o : Out} {i : Nat} {x : Str} {p : Pos} {is js : List Nat} {fg : FG} {fgs : FGs}

/-- nothing may be raised -/
abbrev W0 : WX := fun _ _ _ _ => False
theorem wipeE_length (ρ : Env) : ∀ vs, (wipeE ρ vs).length = ρ.length
  | [] => rfl
  | v :: vs => by unfold wipeE; rw [List.length_set, wipeE_length ρ vs]
theorem wipe_get (σ : L2.St) (j : Nat) : ∀ vs : List Nat, (wipe σ vs)[j]? = if j ∈ vs then (if j < σ.length then some none else none) else σ[j]?
  | [] => by simp [wipe]
  | v :: vs => by
    unfold wipe
    by_cases h : v = j
    · subst h
      by_cases hl : v < σ.length
      · rw [List.getElem?_set_self (by rw [wipe_length]; exact hl)]; simp [hl]
      · rw [List.getElem?_eq_none (by simp [wipe_length]; omega)]; simp [hl]
    · rw [List.getElem?_set_ne h, wipe_get σ j vs]
      have : (j ∈ v :: vs) ↔ j ∈ vs := by simp [Ne.symm h]
      simp only [this]
theorem wipeE_get (σ : Env) (j : Nat) : ∀ vs : List Nat, (wipeE σ vs)[j]? = if j ∈ vs then (if j < σ.length then some Sl.no else none) else σ[j]?
  | [] => by simp [wipeE]
  | v :: vs => by
    unfold wipeE
    by_cases h : v = j
    · subst h
      by_cases hl : v < σ.length
      · rw [List.getElem?_set_self (by rw [wipeE_length]; exact hl)]; simp [hl]
      · rw [List.getElem?_eq_none (by simp [wipeE_length]; omega)]; simp [hl]
    · rw [List.getElem?_set_ne h, wipeE_get σ j vs]
      have : (j ∈ v :: vs) ↔ j ∈ vs := by simp [Ne.symm h]
      simp only [this]
theorem wipe_same {σ σ2 : L2.St} {vs is : List Nat} (hl : σ2.length = σ.length) (h : ∀ j, j ∉ is → σ2[j]? = (wipe σ vs)[j]?) (hs : ∀ j ∈ is, j ∈ vs) : wipe σ2 vs = wipe σ vs := by
  apply List.ext_getElem?
  intro j
  rw [wipe_get, wipe_get, hl]
  by_cases hj : j ∈ vs
  · simp [hj]
  · simp only [hj, if_false]
    rw [h j fun z => hj (hs j z), wipe_get]
    simp [hj]
theorem RepE.wiped (r : RepE T S ρ σ) (vs : List Nat) : RepE T S (wipeE ρ vs) (wipe σ vs) := by
  refine ⟨by rw [wipe_length, wipeE_length]; exact r.len, fun i d e => ?_, fun i x e => ?_⟩
  rotate_left
  · rw [wipeE_get] at e
    by_cases hj : i ∈ vs
    · simp only [hj, if_true] at e
      split at e <;> cases e
    · simp only [hj, if_false] at e
      obtain ⟨a, cls, d, h1, h2, h3⟩ := r.x i x e
      refine ⟨a, cls, d, h1, ?_, h3⟩
      rw [wipe_get]
      simp only [hj, if_false]
      exact h2
  rw [wipeE_get] at e
  by_cases hj : i ∈ vs
  · simp only [hj, if_true] at e
    split at e <;> cases e
  · simp only [hj, if_false] at e
    obtain ⟨v, h1, h2⟩ := r.v i d e
    refine ⟨v, ?_, h2⟩
    rw [wipe_get]
    simp only [hj, if_false]
    exact h1
/-- a frame without lists of its own -/
theorem RepE.rep (sh : EV.Sub S H) (r : RepE T S ρ σ) : Rep T (mask ρ) σ S H (fun _ => none) := by
  refine ⟨sh, by unfold mask; simp [r.len], fun i d e => ?_, fun i ds e => ?_, fun i c ds e => ?_, fun i j a h => ?_, fun i a h => ?_, fun i x e => ?_, fun i ks ds e => by
    unfold mask at e
    rw [List.getElem?_map] at e
    obtain ⟨z, e1, e2⟩ := Option.map_eq_some_iff.mp e
    cases z <;> cases e2⟩
  rotate_right
  · unfold mask at e
    rw [List.getElem?_map] at e
    obtain ⟨z, e1, e2⟩ := Option.map_eq_some_iff.mp e
    cases z <;> cases e2
  · unfold mask at e
    rw [List.getElem?_map] at e
    obtain ⟨z, e1, e2⟩ := Option.map_eq_some_iff.mp e
    cases z <;> cases e2
    exact r.v i d e1
  · unfold mask at e
    rw [List.getElem?_map] at e
    obtain ⟨z, e1, e2⟩ := Option.map_eq_some_iff.mp e
    cases z <;> cases e2
  · unfold mask at e
    rw [List.getElem?_map] at e
    obtain ⟨z, e1, e2⟩ := Option.map_eq_some_iff.mp e
    cases z <;> cases e2
  · cases h
  · cases h
def vYes : FE := fun _ => some (.ok (.bl true))
def ETs (X : Cx) (T : Tab) (ifs : List Expr) (f : FE) : Prop := PTs X ifs (tFT T W0 f)
theorem PTs.weak {e : List Expr} {t u : TT} (h : PTs X e t) (w : ∀ σ H Q, u σ H Q → t σ H Q) : PTs X e u := ⟨fun pins s σ H Q I q => h.run pins s σ H Q I (w σ H Q q)⟩
theorem et_nil : ETs X T [] vYes := PTs.weak pts_nil fun σ H Q q => by
  obtain ⟨ρ, S, r, sh, rep, e, fin⟩ := q
  cases e
  obtain ⟨b, e4, q⟩ := fin _ S H (Kp.refl sh) (.bl _)
  cases e4
  exact q
theorem et_one (h : EB X T W0 c fc) : ETs X T [c] fc := pts_one h
theorem lcF_length {fg : FG} {ft fe : FE} {ρ : Env} : ∀ {ds rs : List D}, lcF fg ft fe ρ ds = some rs → rs.length ≤ ds.length
  | [], rs, h => by cases h; simp
  | d :: ds, rs, h => by
    unfold lcF at h
    split at h <;> try cases h
    rename_i r _
    split at h <;> cases h
    rename_i rs' h'
    have := lcF_length h'
    cases r <;> simp <;> omega
theorem tI_goN {f : FL} {R : It → Hp → Prop} {Q : VK} {k : List D → Option RL} {r : RL} (sh : EV.Sub S H) (rep : RepE T S ρ σ) (h : RLL (f ρ) k = some r) (fin : RNEnd T W S H σ Q r)
    (go : ∀ ds J S' H', Kp S H S' H' → IW T J S' ds → RepE T S' ρ σ → k ds = some r → RNEnd T W S' H' σ Q r → R J H') : tI T W f σ H R := by
  cases e : f ρ with
  | none => rw [e] at h; cases h
  | some q =>
    rw [e] at h
    refine ⟨ρ, S, q, sh, rep, e, ?_⟩
    cases q with
    | ok d => exact fun J S' H' kp i => go d J S' H' kp i (rep.mono kp.s) h (fin.mono kp)
    | ex x =>
      cases h
      exact fin
theorem w_lc {fi : FL} {ft fe : FE} {vs : List Nat} (hs : ∀ j ∈ is, j ∈ vs) (σ : L2.St) (H : Hp) (Q : VK) (q : tN T W (nLc fi fg ft fe vs) σ H Q) : tLc (tI T W fi) (tT T is fg) (tFT T W0 ft) (tF T W0 fe) vs σ H Q := by
  obtain ⟨ρ, S, r, sh, rep, e, fin⟩ := q
  refine tI_goN sh rep e fin fun ds J S1 H1 k1 iw rep1 e1 fin1 => ?_
  split at e1 <;> try cases e1
  rename_i hlen
  obtain ⟨rs, e2, rfl⟩ := Option.map_eq_some_iff.mp e1
  intro Dl hD
  let Pv : Nat → Hp → Prop := fun i H => ∃ S acc dacc rest, H Dl = some (.lst acc) ∧ S Dl = none ∧ Iss T S acc dacc ∧ Kp S1 H1 S H ∧ lcF fg ft fe (wipeE ρ vs) (ds.drop i) = some rest ∧ dacc ++ rest = rs
  have sD : S1 Dl = none := k1.sub.same.free hD
  refine ⟨fun i m H => m = ds.length - i ∧ i ≤ ds.length ∧ Pv i H, ⟨ds.length, by simp, Nat.zero_le _, S1, [], [], rs, upd_same, sD, .nil, Kp.hide k1.sub hD rfl, e2, rfl⟩, ?_⟩
  rintro i m H2 ⟨rfl, hi, S2, acc, dacc, rest, hL, hS, hacc, kp, er, ers⟩
  by_cases hlt : i < ds.length
  · refine .inr ⟨iw.go i S2 H2 kp.s kp.sub hlt, Pv (i + 1), fun H' p' => ⟨ds.length - (i + 1), by omega, rfl, hlt, p'⟩, fun x H3 y => ?_⟩
    obtain ⟨d, S3, hd, kp3, hx⟩ := iw.yld i S2 H2 x H3 kp.s kp.sub hlt y
    have hdr : ds.drop i = d :: ds.drop (i + 1) := by
      rw [List.drop_eq_getElem_cons hlt]
      congr 1
      rw [List.getElem?_eq_getElem hlt] at hd
      exact Option.some.inj hd
    rw [hdr, lcF] at er
    split at er <;> try cases er
    rename_i r0 e0
    split at er <;> cases er
    rename_i rest' er'
    unfold itemF at e0
    split at e0 <;> try cases e0
    rename_i ρ1 eg
    have k13 : Kp S1 H1 S3 H3 := kp.trans kp3
    have hL3 : H3 Dl = some (.lst acc) := kp3.h _ _ hL
    have hS3 : S3 Dl = none := kp3.hid Dl (by rw [hL]; intro z; cases z) hS
    have repW : RepE T S3 (wipeE ρ vs) (wipe σ vs) := (rep1.wiped vs).mono (kp.s.trans kp3.s)
    refine ⟨mask (wipeE ρ vs), S3, fun _ => none, d, ρ1, repW.rep kp3.sub, hx, eg, fun σ2 L2' r2 s2 c2 => ⟨wipe_same (by rw [c2.1, wipe_length]) c2.2 hs, ?_⟩⟩
    split at e0 <;> try cases e0
    · rename_i et
      split at e0 <;> cases e0
      rename_i v ev
      refine ⟨ρ1, S3, _, kp3.sub, r2.repE, et, fun b S4 H4 kp4 ib => ?_⟩
      cases ib
      refine ⟨true, rfl, ρ1, S4, _, kp4.sub, r2.repE.mono kp4.s, ev, fun y S5 H5 kp5 iy => ?_⟩
      have k15 : Kp S1 H1 S5 H5 := (k13.trans kp4).trans kp5
      have hL5 : H5 Dl = some (.lst acc) := kp5.h _ _ (kp4.h _ _ hL3)
      have hS5 : S5 Dl = none := kp5.hid Dl (by rw [kp4.h _ _ hL3]; intro z; cases z) (kp4.hid Dl (by rw [hL3]; intro z; cases z) hS3)
      have hall : (dacc ++ v :: rest').length ≤ 100000 := by
        have h1 : dacc ++ v :: rest' = rs := ers
        rw [h1]
        exact Nat.le_trans (lcF_length e2) (by omega)
      refine ⟨acc, hL5, by rw [hacc.length]; rw [List.length_append, List.length_cons] at hall; exact line_lt (by omega), S5, acc ++ [y], dacc ++ [v], rest', upd_same, hS5, ?_, ?_, er', by rw [List.append_assoc]; exact ers⟩
      · exact (hacc.mono ((kp3.s.trans kp4.s).trans kp5.s)).append (.cons iy .nil)
      · refine ⟨k15.s, fun q u hq => ?_, ⟨fun q u hq => ?_, fun q u hq hf => ?_⟩, k15.hid⟩
        · rw [upd_ne (ne_of_none hq hD)]; exact k15.h q u hq
        · rw [upd_ne (ne_of_none hq hS5)]; exact k15.sub.same q u hq
        · by_cases hqD : q = Dl
          · subst hqD; rw [upd_same] at hq; cases hq; cases hf
          · rw [upd_ne hqD] at hq; exact k15.sub.fix q u hq hf
    · rename_i et
      refine ⟨ρ1, S3, _, kp3.sub, r2.repE, et, fun b S4 H4 kp4 ib => ?_⟩
      cases ib
      refine ⟨false, rfl, ?_⟩
      exact ⟨S4, acc, dacc, rest', kp4.h _ _ hL3, kp4.hid Dl (by rw [hL3]; intro z; cases z) hS3, hacc.mono (kp3.s.trans kp4.s), k13.trans kp4, er', ers⟩
  · have ei : i = ds.length := by omega
    subst ei
    rw [List.drop_length, lcF] at er
    cases er
    rw [List.append_nil] at ers
    subst ers
    exact .inl ⟨iw.stop S2 H2 kp.s kp.sub, fin1 Dl acc S2 H2 kp hD hS hL hacc⟩

section
variable {elt tg iter : Expr} {ifs : List Expr} {scope : Scope} {own : List (Str × Nat)} {fi : FL} {ft fe : FE}
theorem en_lc (own : List (Str × Nat)) (hc : X.calm = true) (hN : X.N.Nodup) (ok : BlkOk X.N X.env.scope scope own) (hsub : ∀ j ∈ is, j ∈ own.map (·.2)) (hi : EI X T W tg iter fi)
    (hg : ∀ (s : Shared) (H : Hp) (C : Addr) (cl : List (Str × Addr)) (fp : List Addr), EG (X.blk s H scope (compEnvC scope cl C X.env) fp) T tg is fg) (ht : ∀ (s : Shared) (H : Hp) (C : Addr) (cl : List (Str × Addr)) (fp : List Addr), ETs (X.blk s H scope (compEnvC scope cl C X.env) fp) T ifs ft)
    (he : ∀ (s : Shared) (H : Hp) (C : Addr) (cl : List (Str × Addr)) (fp : List Addr), EE (X.blk s H scope (compEnvC scope cl C X.env) fp) T W0 elt fe) (hs : ∀ x, foldedSetIterable iter X.env x = pure x := by intro _; rfl) :
    EN X T W (.ListComp elt [⟨tg, iter, ifs, 0⟩] scope pos) (nLc fi fg ft fe (own.map (·.2))) := PE.weak (pe_lc hc hN hi ok hg ht he hs) (w_lc hsub)
section
variable {y : Str} {py spos : Pos} {i : Nat}
theorem ps_lcs (own : List (Str × Nat)) (i : Nat) (hc : X.calm = true) (hN : X.N.Nodup) (ok : BlkOk X.N X.env.scope scope own) (hy : X.N[i]? = some y) (hyl : X.env.scope.names.lookup y = some .local)
    (hsw : swapsWith (.ListComp elt [⟨tg, iter, ifs, 0⟩] scope pos) (some (.Name y py)) spos.line X.env = pure true) (hi : EI X T W tg iter fi)
    (hg : ∀ (s : Shared) (H : Hp) (C : Addr) (cl : List (Str × Addr)) (fp : List Addr), EG (X.blk s H scope (compEnvC scope cl C X.env) fp) T tg is fg) (ht : ∀ (s : Shared) (H : Hp) (C : Addr) (cl : List (Str × Addr)) (fp : List Addr), ETs (X.blk s H scope (compEnvC scope cl C X.env) fp) T ifs ft)
    (he : ∀ (s : Shared) (H : Hp) (C : Addr) (cl : List (Str × Addr)) (fp : List Addr), EE (X.blk s H scope (compEnvC scope cl C X.env) fp) T W0 elt fe) (hs : ∀ x, foldedSetIterable iter X.env x = pure x := by intro _; rfl) :
    PS X (.Assign [.Name y py] (.ListComp elt [⟨tg, iter, ifs, 0⟩] scope pos) spos) (tAsg (tLc (tI T W fi) (tT T is fg) (tFT T W0 ft) (tF T W0 fe) (own.map (·.2))) (gName i)) := ps_setLc hc hN hy hyl hsw hi ok hg ht he hs
theorem tn_tf {f : FL} (σ : L2.St) (H : Hp) (Q : VK) (q : tF T W (vL f) σ H Q) : tN T W f σ H Q := by
  obtain ⟨ρ, S, r, sh, rep, e, fin⟩ := q
  unfold vL at e
  cases e1 : f ρ with
  | none => rw [e1] at e; cases e
  | some z =>
    rw [e1] at e
    refine ⟨ρ, S, z, sh, rep, e1, ?_⟩
    cases z with
    | ok ds =>
      cases e
      intro a vs S' H' k hn hs h' i
      exact fin _ _ _ (k.open hn h' hs) (.lst upd_same (i.mono (Same.opened hs)))
    | ex x =>
      cases e
      exact fin
end
end
theorem ss_lc_v {te : TE} {f : FL} (h : PS X st (tAsg te (gName i))) (w : ∀ σ H Q, tN T W f σ H Q → te σ H Q) : SS X T W st (gSet i (vL f)) := ss_set_ h fun σ H Q q => w σ H Q (tn_tf σ H Q q)
theorem ss_lc_o {te : TE} {f : FL} (h : PS X st (tAsg te (gName i))) (w : ∀ σ H Q, tN T W f σ H Q → te σ H Q) : SS X T W st (gOwn i f) := ss_own_ h w

/-! ### calls of built-ins by values -/
/-- r does what o says of a list of arguments -/
def OpC (T : TabC) (r : List V → Hp → VK → Prop) (o : List D → Option D) : Prop := ∀ (S H : Hp) (vs : List V) (ds : List D) (d : D) (Q : VK), EV.Sub S H → Iss T S vs ds → o ds = some d → (∀ v S' H', Kp S H S' H' → Is T S' v d → Q v H') → r vs H Q
def OpN (T : TabC) (r : List V → Hp → VK → Prop) (o : List D → Option (List D)) : Prop := ∀ (S H : Hp) (vs : List V) (ds es : List D) (Q : VK), EV.Sub S H → Iss T S vs ds → o ds = some es → (∀ a vs' S' H', Kp S H S' H' → H a = none → S' a = none → H' a = some (.lst vs') → Iss T S' vs' es → Q (.ref a) H') → r vs H Q
section
variable {r : List V → Hp → VK → Prop} {od : List D → Option D} {ol : List D → Option (List D)} {fs : FL} {id Ty : String}
theorem wC (h : OpC T r od) (σ : L2.St) (H : Hp) (Q : VK) (q : tF T W (vCall od fs) σ H Q) : tCB r (tA T W fs) σ H Q := by
  obtain ⟨ρ, S, z, sh, rep, e, fin⟩ := q
  refine tA_go sh rep e fin fun ds vs S1 H1 k1 i1 rep1 e1 fin1 => ?_
  obtain ⟨d, e2, rfl⟩ := okO_inv e1
  exact h S1 H1 vs ds d Q k1.sub i1 e2 fin1
theorem wN (h : OpN T r ol) (σ : L2.St) (H : Hp) (Q : VK) (q : tN T W (nCall ol fs) σ H Q) : tCB r (tA T W fs) σ H Q := by
  obtain ⟨ρ, S, z, sh, rep, e, fin⟩ := q
  refine tA_goN sh rep e fin fun ds vs S1 H1 k1 i1 rep1 e1 fin1 => ?_
  obtain ⟨es, e2, rfl⟩ := Option.map_eq_some_iff.mp e1
  exact h S1 H1 vs ds es Q k1.sub i1 e2 fin1
theorem ee_callB (hc : CallR X (.builtin id) r) (h : OpC T r od) (hm : X.mg x = none) (hv : bootBuiltins x = some (.builtin id)) (hg : Gl X x := by rfl) (ha : EA X T W (e :: es) fs) (hn : x ≠ "__name__" := by decide) (hdb : (x == ("__debug__" : Str)) = false := by decide)
    (he : starEach (e :: es) X.env = (false, eval e X.env) :: starEach es X.env := by rfl) (hpl : (backTo pos (starEach es X.env)).any (·.1) = false := by rfl) : EE X T W (.Call (.Name x p) (e :: es) [] pos) (vCall od fs) :=
  PE.weak (pe_callB hc hg hm hv ha hn hdb he hpl) (wC h)
theorem ee_callT (hc : CallR X (.type Ty) r) (h : OpC T r od) (hm : X.mg x = none) (hv : bootBuiltins x = some (.type Ty)) (hg : Gl X x := by rfl) (ha : EA X T W (e :: es) fs) (hn : x ≠ "__name__" := by decide) (hdb : (x == ("__debug__" : Str)) = false := by decide)
    (he : starEach (e :: es) X.env = (false, eval e X.env) :: starEach es X.env := by rfl) (hpl : (backTo pos (starEach es X.env)).any (·.1) = false := by rfl) : EE X T W (.Call (.Name x p) (e :: es) [] pos) (vCall od fs) :=
  PE.weak (pe_callTy hc hg hm hv ha hn hdb he hpl) (wC h)
theorem en_callT (hc : CallR X (.type Ty) r) (h : OpN T r ol) (hm : X.mg x = none) (hv : bootBuiltins x = some (.type Ty)) (hg : Gl X x := by rfl) (ha : EA X T W (e :: es) fs) (hn : x ≠ "__name__" := by decide) (hdb : (x == ("__debug__" : Str)) = false := by decide)
    (he : starEach (e :: es) X.env = (false, eval e X.env) :: starEach es X.env := by rfl) (hpl : (backTo pos (starEach es X.env)).any (·.1) = false := by rfl) : EN X T W (.Call (.Name x p) (e :: es) [] pos) (nCall ol fs) :=
  PE.weak (pe_callTy hc hg hm hv ha hn hdb he hpl) (wN h)
end
def lenD : List D → Option D
  | [.lst xs] => some (.int xs.length)
  | [.tup xs] => some (.int xs.length)
  | [.scr xs] => some (.int xs.length)
  | _ => none
theorem o_len {K : PySem.W.Frag} (hK : K = T.K) : OpC T (fun xs H Q => ∃ p ys, xs = [.ref p] ∧ (SqL K H p ys ∨ SqT K H p ys) ∧ Q (.int ys.length) H) lenD := by
  subst hK
  intro S H vs ds d Q sh is e fin
  unfold lenD at e
  split at e <;> cases e
  · cases is with
    | cons h t =>
      cases t
      cases h with
      | lst h s => exact ⟨_, _, rfl, .inl (SqL.of (sh.same _ _ h)), by rw [s.length]; exact fin _ S H (Kp.refl sh) (.int _)⟩
  · cases is with
    | cons h t =>
      cases t
      cases h with
      | tup h s => exact ⟨_, _, rfl, .inr (Same.seqT sh.same h), by rw [s.length]; exact fin _ S H (Kp.refl sh) (.int _)⟩
  · cases is with
    | cons h t =>
      cases t
      cases h with
      | scr h l => exact ⟨_, _, rfl, .inl (sh.same.seq h), by rw [List.length_map]; exact fin _ S H (Kp.refl sh) (.int _)⟩
def intD : List D → Option D
  | [.int i] => some (.int i)
  | [.bl b] => some (.int (if b then 1 else 0))
  | _ => none
theorem o_int : OpC T (fun xs H Q => (∃ i, xs = [.int i] ∧ Q (.int i) H) ∨ ∃ k, xs = [.bl k] ∧ Q (.int (if k then 1 else 0)) H) intD := by
  intro S H vs ds d Q sh is e fin
  unfold intD at e
  split at e <;> cases e
  · cases is with
    | cons h t =>
      cases t
      cases h
      exact .inl ⟨_, rfl, fin _ S H (Kp.refl sh) (.int _)⟩
  · cases is with
    | cons h t =>
      cases t
      cases h
      exact .inr ⟨_, rfl, fin _ S H (Kp.refl sh) (.int _)⟩
def absD : List D → Option D
  | [.int i] => some (.int (if i < 0 then -i else i))
  | _ => none
def minD : List D → Option D
  | [.int i, .int j] => some (.int (if j < i then j else i))
  | _ => none
def maxD : List D → Option D
  | [.int i, .int j] => some (.int (if j > i then j else i))
  | _ => none
theorem o_abs : OpC T (fun xs H Q => ∃ i, xs = [.int i] ∧ Q (.int (if i < 0 then -i else i)) H) absD := by
  intro S H vs ds d Q sh is e fin
  unfold absD at e
  split at e <;> cases e
  cases is with
  | cons h t =>
    cases t
    cases h
    exact ⟨_, rfl, fin _ S H (Kp.refl sh) (.int _)⟩
theorem o_min : OpC T (fun xs H Q => ∃ i j, xs = [.int i, .int j] ∧ Q (.int (if j < i then j else i)) H) minD := by
  intro S H vs ds d Q sh is e fin
  unfold minD at e
  split at e <;> cases e
  cases is with
  | cons h t =>
    cases t with
    | cons h2 t =>
      cases t
      cases h
      cases h2
      exact ⟨_, _, rfl, fin _ S H (Kp.refl sh) (.int _)⟩
theorem o_max : OpC T (fun xs H Q => ∃ i j, xs = [.int i, .int j] ∧ Q (.int (if j > i then j else i)) H) maxD := by
  intro S H vs ds d Q sh is e fin
  unfold maxD at e
  split at e <;> cases e
  cases is with
  | cons h t =>
    cases t with
    | cons h2 t =>
      cases t
      cases h
      cases h2
      exact ⟨_, _, rfl, fin _ S H (Kp.refl sh) (.int _)⟩
def tupleD : List D → Option D
  | [.lst xs] => some (.tup xs)
  | [.tup xs] => some (.tup xs)
  | _ => none
theorem o_tuple {K : PySem.W.Frag} (hK : K = T.K) : OpC T (fun xs H Q => ∃ p ys, xs = [.ref p] ∧ ((SqL K H p ys ∧ ∀ l, H l = none → Q (.ref l) (L2.upd H l (.tup ys))) ∨ (SqT K H p ys ∧ Q (.ref p) H))) tupleD := by
  subst hK
  intro S H vs ds d Q sh is e fin
  unfold tupleD at e
  split at e <;> cases e
  · cases is with
    | cons h t =>
      cases t
      cases h with
      | @lst a ys _ h s =>
        refine ⟨_, _, rfl, .inl ⟨SqL.of (sh.same _ _ h), fun l hl => ?_⟩⟩
        have k := Kp.new (o := .tup ys) sh hl
        exact fin _ _ _ k (.tup (SqT.of upd_same) (s.mono k.s))
  · cases is with
    | cons h t =>
      cases t
      cases h with
      | tup h s => exact ⟨_, _, rfl, .inr ⟨Same.seqT sh.same h, fin _ S H (Kp.refl sh) (.tup h s)⟩⟩
def listD : List D → Option (List D)
  | [.lst xs] => some xs
  | [.tup xs] => some xs
  | [.scr xs] => some (xs.map D.int)
  | _ => none
theorem o_list {K : PySem.W.Frag} (hK : K = T.K) : OpN T (fun xs H Q => ∃ p ys, xs = [.ref p] ∧ (SqL K H p ys ∨ SqT K H p ys) ∧ ∀ l, H l = none → Q (.ref l) (L2.upd H l (.lst ys))) listD := by
  subst hK
  intro S H vs ds es Q sh is e fin
  unfold listD at e
  split at e <;> cases e
  · cases is with
    | cons h t =>
      cases t
      cases h with
      | lst h s => exact ⟨_, _, rfl, .inl (SqL.of (sh.same _ _ h)), fun l hl => fin l _ S _ (Kp.hide sh hl rfl) hl (sh.same.free hl) upd_same s⟩
  · cases is with
    | cons h t =>
      cases t
      cases h with
      | tup h s => exact ⟨_, _, rfl, .inr (Same.seqT sh.same h), fun l hl => fin l _ S _ (Kp.hide sh hl rfl) hl (sh.same.free hl) upd_same s⟩
  · cases is with
    | cons h t =>
      cases t
      cases h with
      | scr h l => exact ⟨_, _, rfl, .inl (sh.same.seq h), fun l hl => fin l _ S _ (Kp.hide sh hl rfl) hl (sh.same.free hl) upd_same (Iss.ints _)⟩
/-- all, any, sum of a list -/
def blsD : List D → Option (List Bool)
  | [] => some []
  | .bl b :: r => (blsD r).map (b :: ·)
  | _ => none
theorem bls_iss {H : Hp} : ∀ {vs : List V} {ds : List D} {bs : List Bool}, Iss T H vs ds → blsD ds = some bs → vs = bs.map V.bl
  | _, _, _, .nil, h => by cases h; rfl
  | _, _, bs, .cons (d := d) h hs, e => by
    cases d <;> first | (cases e; done) | skip
    obtain ⟨r, e1, rfl⟩ := Option.map_eq_some_iff.mp (by simpa [blsD] using e)
    cases h
    rw [bls_iss hs e1]
    rfl
def allD : List D → Option D
  | [.lst xs] => (blsD xs).map fun bs => .bl (bs.all id)
  | _ => none
theorem o_all {K : PySem.W.Frag} (hK : K = T.K) : OpC T (rAll K) allD := by
  subst hK
  intro S H vs ds d Q sh is e fin
  unfold allD at e
  split at e <;> try cases e
  obtain ⟨bs, e1, rfl⟩ := Option.map_eq_some_iff.mp e
  cases is with
  | cons h t =>
    cases t
    cases h with
    | lst h s =>
      rw [bls_iss s e1] at h
      exact ⟨_, bs, rfl, SqL.of (sh.same _ _ h), fin _ S H (Kp.refl sh) (.bl _)⟩
end
end EV
end

section
set_option maxHeartbeats 4000000
/-! EV8: defs, calls, own classes. -/
namespace EV
open PySem L2

/-! ### what a def does, as a function of data -/
def semF (n : Nat) (g : FS) (ds : List D) : Option R := match g (ds.map Sl.v ++ List.replicate (n - ds.length) Sl.no) with
  | some (.rt d) => some (.ok d)
  | some (.nx _) => some (.ok .non)
  | some (.rs x _) => some (.ex x)
  | some (.rl ds) => some (.ok (.lst ds))
  | _ => none
def spF (T : TabC) (n : Nat) (sem : List D → Option R) : Sp := fun vs H Q E => ∃ S ds r, EV.Sub S H ∧ Iss T S vs ds ∧ vs.length = n ∧ sem ds = some r ∧ FEnd T S H Q E r
theorem Stp.kp0 {S H S' H' : Hp} {L' : Nat → Option Addr} (h : Stp S H (fun _ => none) S' H' L') (sh : EV.Sub S' H') : Kp S H S' H' :=
  ⟨h.s, fun a o e => h.fr a o e (fun _ z => (nomatch z)), sh, fun a h1 h2 => h.hid a h1 h2 (fun _ z => (nomatch z))⟩
theorem rep_start {T : Tab} {S H : Hp} {vs : List V} {ds : List D} {N : List Str} (sh : EV.Sub S H) (h : Iss T S vs ds) : Rep T (ds.map Sl.v ++ List.replicate (N.length - ds.length) Sl.no) (L2.start N vs) S H (fun _ => none) := by
  have nov : ∀ (i : Nat) (s : Sl), (ds.map Sl.v ++ List.replicate (N.length - ds.length) Sl.no)[i]? = some s → (∃ d, ds[i]? = some d ∧ s = .v d) ∨ s = .no := fun i s e => by
    by_cases hi : i < ds.length
    · rw [List.getElem?_append_left (by simpa using hi), List.getElem?_map] at e
      obtain ⟨d, e1, e2⟩ := Option.map_eq_some_iff.mp e
      exact .inl ⟨d, e1, e2.symm⟩
    · rw [List.getElem?_append_right (by simpa using hi)] at e
      exact .inr ((List.mem_replicate.mp (List.mem_of_getElem? e)).2)
  refine ⟨sh, ?_, fun i d e => ?_, fun i ds' e => ?_, fun i c ds' e => ?_, fun _ _ _ z => (nomatch z), fun _ _ z => (nomatch z), fun i x e => (by rcases nov i _ e with ⟨d', e1, e2⟩ | e2 <;> cases e2), fun i ks ds' e => (by rcases nov i _ e with ⟨d', e1, e2⟩ | e2 <;> cases e2)⟩
  · unfold L2.start
    simp [h.length]
  · rcases nov i _ e with ⟨d', e1, e2⟩ | e2
    · cases e2
      obtain ⟨v, h1, h2⟩ := h.get' e1
      refine ⟨v, ?_, h2⟩
      have hi := (List.getElem?_eq_some_iff.mp h1).1
      unfold L2.start
      rw [List.getElem?_append_left (by simpa using hi), List.getElem?_map, h1]
      rfl
    · cases e2
  · rcases nov i _ e with ⟨d', e1, e2⟩ | e2 <;> cases e2
  · rcases nov i _ e with ⟨d', e1, e2⟩ | e2 <;> cases e2
section
variable {P : Program} {w : World} {K : PySem.W.Frag} {mg : Str → Option Value} {base : Heap} {x qual : Str} {params : Arguments} {body : List Stmt} {scope : Scope} {dvs : List V} {kws : List (Str × V)} {f : Addr} {fd : FuncData} {N ps : List Str} {k : Nat} {T : Tab} {g : FS}
/-- THE RULE of a def -/
theorem fn_ev (F : FunD K x qual params body scope dvs kws f fd) (Sc : FnScope N ps scope)
    (hb : ∀ (cdv : Value) (A : Around) (outer : List PySem.Env) (s : Shared) (H : Hp) (E : XK), Room k (A.deeper (PyProof.Rows.envOfC qual scope s.heap.objs.size f cdv)) →
      SSs (cxOf (L2N.CX P w) P w K mg base N qual scope f cdv A outer s H E) T (fun cls d _ H' => E cls d H') body g) : FnOk P w K mg base (L2N.CX P w) (k + 1) f fd ps (spF T ps.length (semF N.length g)) := by
  refine F.ok Sc (fun vs H Q E h => ?_) fun cdv A outer s H vs Q E hr h => ⟨_, hb cdv A outer s H E hr, ?_⟩
  · obtain ⟨S, ds, r, _, _, hl, _⟩ := h
    exact hl
  · obtain ⟨S, ds, r, sh, hi, hl, e, fin⟩ := h
    unfold semF at e
    split at e <;> cases e
    · rename_i d hd
      exact ⟨_, S, _, _, rep_start sh hi, hd, fun v S' H' L' sh' st i => fin v S' H' (st.kp0 sh') i⟩
    · rename_i ρ hd
      exact ⟨_, S, _, _, rep_start sh hi, hd, fun σ' S' H' L' r st => fin .non S' H' (st.kp0 r.sub) .non⟩
    · rename_i x ρ hd
      exact ⟨_, S, _, _, rep_start sh hi, hd, fun σ' S' H' L' cls d r st i => fin S' H' cls d (st.kp0 r.sub) i⟩
    · rename_i es hd
      refine ⟨_, S, _, _, rep_start sh hi, hd, fun a us S' H' L' sh' st hy h1 h2 i => ?_⟩
      have hn : H a = none := by
        rcases hy with hy | ⟨_, hy⟩
        · exact hy
        · cases hy
      exact fin (.ref a) _ H' ((st.kp0 sh').open hn h2 h1) (.lst upd_same (i.mono (Same.opened h1)))
end

section
variable {X : Cx} {T : Tab} {W : WX} {k n : Nat} {f C : Addr} {fd : FuncData} {ps ks : List Str} {sp : Sp} {x m : Str} {p pos apos : Pos} {e o : Expr} {es : List Expr} {kws : List Keyword} {dvs : List V} {dds : List D} {perm : List Nat} {sem : List D → Option R} {fs fk : FL} {fo : FE}
theorem run_P {pins : List (Addr × Obj)} {σ : L2.St} {H : Hp} {s : Shared} {Q : VK} {us ws : List Value} {vs zs : List V} (F : FnOk X.prog X.w X.K X.mg X.base (L2N.CX X.prog X.w) k f fd ps sp) (hr : Room k X.A) (hb : ArgB X.K fd ps n ks dvs perm) (tk : L2N.Takes X W)
    (I : Inv X pins σ H s) (r : Vals vs us) (rz : Vals zs ws) (l1 : vs.length = n) (l2 : zs.length = ks.length) (h : sp (pick perm (vs ++ zs ++ dvs)) H Q (WE W σ)) : wpAny (model X.prog X.w) X.A (call (.ref f) us (ks.zip ws)) (EP X pins σ Q) X.xe s := by
  obtain ⟨ds, rd, to⟩ := hb.to
  have r2 := Vals.pick ((r.append rz).append rd) perm
  refine wpAny_call (codeAny_mono (F.run X.A X.stack s H ⟨us, ks.zip ws⟩ _ _ Q (WE W σ) hr I.env0 (to s us ws I.kIn (r.length.symm.trans l1) (rz.length.symm.trans l2)) r2 h) fun r s' hq => ?_)
  cases r with
  | error e => exact L2N.passAt tk σ pins H s e s' I hq
  | ok fl =>
    cases fl with
    | ret u => exact I.after hq
    | next => exact False.elim hq
    | brk => exact False.elim hq
    | cont => exact False.elim hq
/-- a call's reading: the arguments, then the promise -/
def tP (n m : Nat) (perm : List Nat) (sp : Sp) (dvs : List V) (E : L2.St → XK) (t tk : TA) : TE := fun σ H Q => t σ H fun vs H1 => tk σ H1 fun zs H2 => vs.length = n ∧ zs.length = m ∧ sp (pick perm (vs ++ zs ++ dvs)) H2 Q (E σ)
theorem pe_callP {t tkw : TA} (F : FnOk X.prog X.w X.K X.mg X.base (L2N.CX X.prog X.w) k f fd ps sp) (hr : Room k X.A) (hm : X.mg x = some (.ref f)) (hk : PySem.W.keepIn X.K (.ref f) = true) (hb : ArgB X.K fd ps n ks dvs perm) (tk : L2N.Takes X W)
    (ha : PA X (e :: es) t) (hkw : PK X kws tkw) (hg : Gl X x := by rfl) (hall : (backToKw pos (keywordEach kws X.env)).all (·.1.isSome) = true := by rfl) (hks : (backToKw pos (keywordEach kws X.env)).filterMap (·.1) = ks := by rfl)
    (hdb : (x == ("__debug__" : Str)) = false := by decide) (he : starEach (e :: es) X.env = (false, eval e X.env) :: starEach es X.env := by rfl)
    (hpl : ((backTo pos (starEach (e :: es) X.env)).any (·.1) || (backToKw pos (keywordEach kws X.env)).any (·.1.isNone)) = false := by rfl) :
    PE X (.Call (.Name x p) (e :: es) kws pos) (tP n ks.length perm sp dvs (WE W) t tkw) := by
  refine ⟨fun pins s σ H Q I h => ?_⟩
  refine wpAny_Call_Name_kw (ld_glob I hg hm ?_ hdb)
  refine PySem.W.callWith_KW (h₀ := X.base) I.ok.mod.kin hk hall (thn (ha.run pos pins s σ H _ I h) fun us s1 ⟨vs, H1, I1, r, q⟩ => ?_) hpl he
  refine thn (hkw.run pos pins s1 σ H1 _ I1 q) fun ws s2 ⟨zs, H2, I2, rz, l1, l2, q2⟩ => ⟨I2.kIn, ?_⟩
  rw [hks]
  exact run_P F hr hb tk I2 r rz l1 l2 q2
theorem pe_callP0 {tkw : TA} (F : FnOk X.prog X.w X.K X.mg X.base (L2N.CX X.prog X.w) k f fd ps sp) (hr : Room k X.A) (hm : X.mg x = some (.ref f)) (hk : PySem.W.keepIn X.K (.ref f) = true) (hb : ArgB X.K fd ps 0 ks dvs perm) (tk : L2N.Takes X W)
    (hkw : PK X kws tkw) (hg : Gl X x := by rfl) (hall : (backToKw pos (keywordEach kws X.env)).all (·.1.isSome) = true := by rfl) (hks : (backToKw pos (keywordEach kws X.env)).filterMap (·.1) = ks := by rfl)
    (hdb : (x == ("__debug__" : Str)) = false := by decide) (hpl : ((backTo pos (starEach [] X.env)).any (·.1) || (backToKw pos (keywordEach kws X.env)).any (·.1.isNone)) = false := by rfl) :
    PE X (.Call (.Name x p) [] kws pos) (tP 0 ks.length perm sp dvs (WE W) tNil tkw) := by
  refine ⟨fun pins s σ H Q I h => ?_⟩
  refine wpAny_Call_Name_kw (ld_glob I hg hm ?_ hdb)
  refine PySem.W.callWith_KW0 (h₀ := X.base) I.ok.mod.kin hk hall (thn (hkw.run pos pins s σ H _ I h) fun ws s2 ⟨zs, H2, I2, rz, l1, l2, q2⟩ => ⟨I2.kIn, ?_⟩) hpl
  rw [hks]
  exact run_P F hr hb tk I2 .nil rz rfl l2 q2
/-- keywords' values -/
def EK (X : Cx) (T : Tab) (W : WX) (kws : List Keyword) (f : FL) : Prop := PK X kws (tA T W f)
theorem PK.weak {kws : List Keyword} {t u : TA} (h : PK X kws t) (w : ∀ σ H Q, u σ H Q → t σ H Q) : PK X kws u := ⟨fun po pins s σ H Q I q => h.run po pins s σ H Q I (w σ H Q q)⟩
theorem ek_nil : EK X T W [] aNil := PK.weak pk_nil fun σ H Q q => by
  obtain ⟨ρ, S, r, sh, rep, e, fin⟩ := q
  cases e
  exact fin [] S H (Kp.refl sh) .nil
theorem ek_cons {nm : Option Str} {kpos : Pos} {fa : FE} {fr : FL} (ha : EE X T W e fa) (hr : EK X T W kws fr) : EK X T W (⟨nm, e, kpos⟩ :: kws) (aCons fa fr) := by
  refine PK.weak (pk_cons ha hr) fun σ H Q q => ?_
  obtain ⟨ρ, S, r, sh, rep, e, fin⟩ := q
  refine tF_goL sh rep e fin fun d v S1 H1 k1 i1 rep1 e1 fin1 => ?_
  refine tA_goL k1.sub rep1 e1 fin1 fun ds vs S2 H2 k2 i2 rep2 e2 fin2 => ?_
  cases e2
  exact fin2 _ S2 H2 (Kp.refl k2.sub) (.cons (i1.mono k2.s) i2)
/-- a call, by data -/
def vCallP (n m : Nat) (perm : List Nat) (sem : List D → Option R) (dds : List D) (fs fk : FL) : FE := fun ρ => RL1 (fs ρ) fun ds => RL1 (fk ρ) fun es => if ds.length = n ∧ es.length = m then sem (pick perm (ds ++ es ++ dds)) else none
theorem fend {S H : Hp} {σ : L2.St} {Q : VK} {r : R} (h : REnd T W S H σ Q r) : FEnd T S H Q (WE W σ) r := by
  cases r with
  | ok d => exact h
  | ex x => exact h
theorem wP {np : Nat} (hp : perm.length = np) (hdd : ∀ S, Iss T S dvs dds) (σ : L2.St) (H : Hp) (Q : VK) {m : Nat} (hmx : ∀ j ∈ perm, j < n + m + dvs.length) (q : tF T W (vCallP n m perm sem dds fs fk) σ H Q) : tP n m perm (spF T np sem) dvs (WE W) (tA T W fs) (tA T W fk) σ H Q := by
  obtain ⟨ρ, S, r, sh, rep, e, fin⟩ := q
  refine tA_go sh rep e fin fun ds vs S1 H1 k1 i1 rep1 e1 fin1 => ?_
  refine tA_go k1.sub rep1 e1 fin1 fun es zs S2 H2 k2 i2 rep2 e2 fin2 => ?_
  split at e2 <;> try cases e2
  rename_i hl
  have i12 := (((i1.mono k2.s).append i2).append (hdd S2)).pick perm
  refine ⟨i1.length.trans hl.1, i2.length.trans hl.2, S2, _, r, k2.sub, i12, ?_, e2, fend fin2⟩
  have : ∀ (l : List Nat) (xs : List V), (∀ j ∈ l, j < xs.length) → (pick l xs).length = l.length := fun l xs => by
    induction l with
    | nil => intro _; rfl
    | cons j r ih =>
      intro h
      unfold pick
      rw [List.filterMap_cons, List.getElem?_eq_getElem (h j List.mem_cons_self)]
      show (pick r xs).length + 1 = _
      rw [ih fun j hj => h j (List.mem_cons_of_mem _ hj)]
      rfl
  rw [this perm _ fun j hj => ?_, hp]
  rw [List.length_append, List.length_append, i1.length, i2.length, hl.1, hl.2]
  exact hmx j hj
theorem ee_callP {np mk : Nat} (F : FnOk X.prog X.w X.K X.mg X.base (L2N.CX X.prog X.w) k f fd ps (spF T np sem)) (hr : Room k X.A) (hm : X.mg x = some (.ref f)) (hk : PySem.W.keepIn X.K (.ref f) = true) (hb : ArgB X.K fd ps n ks dvs perm) (tk : L2N.Takes X W)
    (hp : perm.length = np) (hmx : ∀ j ∈ perm, j < n + ks.length + dvs.length) (hdd : ∀ S, Iss T S dvs dds) (ha : EA X T W (e :: es) fs) (hkw : EK X T W kws fk) (hg : Gl X x := by rfl) (hall : (backToKw pos (keywordEach kws X.env)).all (·.1.isSome) = true := by rfl) (hks : (backToKw pos (keywordEach kws X.env)).filterMap (·.1) = ks := by rfl)
    (hdb : (x == ("__debug__" : Str)) = false := by decide) (he : starEach (e :: es) X.env = (false, eval e X.env) :: starEach es X.env := by rfl)
    (hpl : ((backTo pos (starEach (e :: es) X.env)).any (·.1) || (backToKw pos (keywordEach kws X.env)).any (·.1.isNone)) = false := by rfl) (hkl : ks.length = mk := by rfl) :
    EE X T W (.Call (.Name x p) (e :: es) kws pos) (vCallP n mk perm sem dds fs fk) := by
  subst hkl
  exact PE.weak (pe_callP F hr hm hk hb tk ha hkw hg hall hks hdb he hpl) fun σ H Q q => wP hp hdd σ H Q hmx q
theorem ee_callP0 {np mk : Nat} (F : FnOk X.prog X.w X.K X.mg X.base (L2N.CX X.prog X.w) k f fd ps (spF T np sem)) (hr : Room k X.A) (hm : X.mg x = some (.ref f)) (hk : PySem.W.keepIn X.K (.ref f) = true) (hb : ArgB X.K fd ps 0 ks dvs perm) (tk : L2N.Takes X W)
    (hp : perm.length = np) (hmx : ∀ j ∈ perm, j < 0 + ks.length + dvs.length) (hdd : ∀ S, Iss T S dvs dds) (hkw : EK X T W kws fk) (hg : Gl X x := by rfl) (hall : (backToKw pos (keywordEach kws X.env)).all (·.1.isSome) = true := by rfl) (hks : (backToKw pos (keywordEach kws X.env)).filterMap (·.1) = ks := by rfl)
    (hdb : (x == ("__debug__" : Str)) = false := by decide) (hpl : ((backTo pos (starEach [] X.env)).any (·.1) || (backToKw pos (keywordEach kws X.env)).any (·.1.isNone)) = false := by rfl) (hkl : ks.length = mk := by rfl) :
    EE X T W (.Call (.Name x p) [] kws pos) (vCallP 0 mk perm sem dds aNil fk) := by
  subst hkl
  exact PE.weak (pe_callP0 F hr hm hk hb tk hkw hg hall hks hdb hpl) fun σ H Q q => by
    have z := wP (n := 0) hp hdd σ H Q hmx q
    obtain ⟨ρ, S, r, sh, rep, e, fin⟩ := z
    cases e
    exact fin [] S H (Kp.refl sh) .nil
/-- a call of a def that gives a new list -/
def nCallP (n m : Nat) (perm : List Nat) (sem : List D → Option RL) (dds : List D) (fs fk : FL) : FL := fun ρ => RLL (fs ρ) fun ds => RLL (fk ρ) fun es => if ds.length = n ∧ es.length = m then sem (pick perm (ds ++ es ++ dds)) else none
end
end EV
end

section
set_option maxHeartbeats 4000000
/-! EV9: instances of own classes: fields, making, methods; isinstance; constants of the module. -/
namespace EV
open PySem L2

section
variable {X : Cx} {T : Tab} {W : WX} {st : Stmt} {e a b c : Expr} {es : List Expr} {f fa fb : FE} {pos p1 p2 : Pos} {S H : Hp} {σ : L2.St} {ρ : Env} {L : Nat → Option Addr} {i k ci : Nat} {x fl : Str}

/-! ### names of the module -/
/-! ### fields -/
theorem lookup_zip {ns : List Str} {vs : List V} {k : Nat} {f : Str} {v : V} (hn : ns[k]? = some f) (hf : f ∉ ns.take k) (hv : vs[k]? = some v) : (ns.zip vs).lookup f = some v := by
  induction ns generalizing k vs with
  | nil => simp at hn
  | cons n ns ih =>
    cases vs with
    | nil => simp at hv
    | cons w vs =>
      cases k with
      | zero =>
        simp at hn hv
        subst hn hv
        simp [List.lookup]
      | succ k =>
        simp only [List.getElem?_cons_succ] at hn hv
        simp only [List.take_succ_cons, List.mem_cons, not_or] at hf
        have hne : (f == n) = false := by
          cases q : (f == n) with
          | false => rfl
          | true => exact absurd (eq_of_beq q) hf.1
        simp only [List.zip_cons_cons, List.lookup, hne]
        exact ih hn hf.2 hv
theorem putF_new {f : Str} {v : V} : ∀ {l : List (Str × V)}, f ∉ l.map (·.1) → putF f v l = l ++ [(f, v)]
  | [], _ => rfl
  | (g, w) :: l, h => by
    simp only [List.map_cons, List.mem_cons, not_or] at h
    unfold putF
    rw [if_neg (fun z => h.1 z.symm), putF_new h.2]
    rfl
theorem putF_zip {ns : List Str} {vs : List V} {f : Str} {v : V} (hn : ns[vs.length]? = some f) (hf : f ∉ ns.take vs.length) : putF f v (ns.zip vs) = ns.zip (vs ++ [v]) := by
  have h1 : (ns.zip vs).map (·.1) = ns.take vs.length := by
    have := List.map_fst_zip (l₁ := ns.take vs.length) (l₂ := vs) (by rw [List.length_take]; omega)
    rw [← this]
    congr 1
    rw [List.zip_eq_zip_take_min]
    have hl : vs.length ≤ ns.length := by
      have := (List.getElem?_eq_some_iff.mp hn).1
      omega
    rw [Nat.min_eq_right hl, List.take_length]
  rw [putF_new (by rw [h1]; exact hf)]
  clear h1 hf
  induction ns generalizing vs with
  | nil => simp at hn
  | cons n ns ih =>
    cases vs with
    | nil =>
      simp at hn
      subst hn
      simp
    | cons w vs =>
      simp only [List.length_cons, List.getElem?_cons_succ] at hn
      simp only [List.zip_cons_cons, List.cons_append, ih hn]
def fldD (ci k : Nat) : D → Option D
  | .obj c ds => if c = ci then ds[k]? else none
  | _ => none
theorem ee_fld {ci k : Nat} (F : Fld T ci k fl) (hK : X.K = T.K := by rfl) (hb : attributeBase a fl X.env (eval a X.env) = eval a X.env := by rfl) (ha : EE X T W a fa) : EE X T W (.Attribute a fl pos) (v1 (fldD ci k) fa) := by
  refine PE.weak (pe_fld ha hb) fun σ H Q q => ?_
  obtain ⟨ρ, S, z, sh, rep, e, fin⟩ := q
  refine tF_go sh rep e fin fun p x S1 H1 k1 i1 rep1 e1 fin1 => ?_
  obtain ⟨d, e3, rfl⟩ := okO_inv e1
  unfold fldD at e3
  split at e3 <;> try cases e3
  split at e3 <;> try cases e3
  rename_i hc
  subst hc
  cases i1 with
  | obj h hl hs =>
    obtain ⟨v, h1, h2⟩ := hs.get' e3
    rw [hK]
    exact ⟨_, _, _, _, v, rfl, k1.sub.same _ _ h, F.cls, F.no, lookup_zip F.at_ F.nd h1, fin1 v S1 H1 (Kp.refl k1.sub) h2⟩
/-- self.f = e, the instance under way -/
def fldK (i ci k : Nat) (ρ : EV.Env) (d : D) : Option Out := match ρ[i]? with
  | some (.ins c ds) => if c = ci ∧ ds.length = k then some (.nx (ρ.set i (.ins c (ds ++ [d])))) else none
  | _ => none
def gFld (i ci k : Nat) (f : FE) : FS := fun ρ => RS (f ρ) ρ (fldK i ci k ρ)
theorem fld_end {Dn : Ends} {o : Out} {d : D} {v : V} {ci k : Nat} (F : Fld T ci k fl) (hK : X.K = T.K) (r : Rep T ρ σ S H L) (hi : Is T S v d) (e : fldK i ci k ρ d = some o) (fin : SEnd T W Dn S H L o) :
    tVar i σ H fun x H2 => ∃ a C dx fs, x = .ref a ∧ H2 a = some (.ins C dx fs) ∧ Cls X.K C ∧ NoAttr X.K C fl ∧ fs.length < 1000 ∧ Dn.nx σ (L2.upd H2 a (.ins C dx (putF fl v fs))) := by
  unfold fldK at e
  split at e <;> try cases e
  rename_i c ds hd
  split at e <;> cases e
  rename_i hc
  obtain ⟨rfl, hl⟩ := hc
  obtain ⟨a, dx, vs, h1, h2, h3, h4, h5, h6⟩ := r.ins i c ds hd
  have hlv : vs.length = k := by rw [h6.length]; exact hl
  have hk := (List.getElem?_eq_some_iff.mp F.at_).1
  refine ⟨_, h2, a, _, dx, _, rfl, h3, by rw [hK]; exact F.cls, by rw [hK]; exact F.no, ?_, ?_⟩
  · have := List.length_zip (l₁ := T.flds c) (l₂ := vs)
    have := F.few
    omega
  · rw [putF_zip (by rw [hlv]; exact F.at_) (by rw [hlv]; exact F.nd)]
    exact fin σ S _ L (r.updI hd h1 (by rw [List.length_append, List.length_singleton, hlv]; exact hk) (h6.append (.cons hi .nil))) (Stp.updI h1 h3)
theorem ss_fld (i : Nat) {ci k : Nat} (F : Fld T ci k fl) (hK : X.K = T.K := by rfl) (hN : X.N[i]? = some x := by rfl) (hv : Vis X.env.scope x := by first | exact Or.inl rfl | exact Or.inr (Or.inl rfl) | exact Or.inr (Or.inr rfl)) (hd : (x == ("__debug__" : Str)) = false := by decide) (hcd : (x == ("__classdict__" : Str)) = false := by decide)
    (hs : swapsWith e (some (.Attribute (.Name x p1) fl p2)) pos.line X.env = pure false := by rfl) (he : EE X T W e f) : SS X T W (.Assign [.Attribute (.Name x p1) fl p2] e pos) (gFld i ci k f) := by
  refine PS.weak (ps_fld (pe_var hN hv hd hcd) he hs) fun Dn σ H q => ?_
  obtain ⟨ρ, S, L, o, r, e, fin⟩ := q
  exact sB r e fin fun d v S' H' kp hi r' e' fin' => fld_end F hK r' hi e' fin'
end

/-! ### __init__ -/
def semI (ci n : Nat) (g : FS) (ds : List D) : Option R := match g (Sl.ins ci [] :: (ds.map Sl.v ++ List.replicate (n - 1 - ds.length) Sl.no)) with
  | some (.nx ρ) => (match ρ[(0 : Nat)]? with
    | some (.ins c fs) => if c = ci then some (.ok (.obj ci fs)) else none
    | _ => none)
  | some (.rs x _) => some (.ex x)
  | _ => none
def IEnd (T : TabC) (ci : Nat) (x dx : Addr) (S H : Hp) (Q : VK) (E : XK) : R → Prop
  | .ok (.obj c fs) => c = ci ∧ ∀ vs S' H', Same S S' → (∀ a o, a ≠ x → H a = some o → H' a = some o) → EV.Sub S' H' → (∀ a, H a ≠ none → S a = none → S' a = none) → H' x = some (.ins (T.cls ci) dx ((T.flds ci).zip vs)) → vs.length ≤ (T.flds ci).length → Iss T S' vs fs → Q .non H'
  | .ok _ => False
  | .ex xn => ∀ S' H' cls d, Same S S' → (∀ a o, a ≠ x → H a = some o → H' a = some o) → EV.Sub S' H' → (∀ a, H a ≠ none → S a = none → a ≠ x → S' a = none) → XIs T S' xn cls d → E cls d H'
def spI (T : TabC) (ci n : Nat) (sem : List D → Option R) : Sp := fun vs H Q E => ∃ S x dx as ds r, vs = .ref x :: as ∧ as.length + 1 = n ∧ EV.Sub S H ∧ H x = some (.ins (T.cls ci) dx []) ∧ S x = none ∧ Iss T S as ds ∧ sem ds = some r ∧ IEnd T ci x dx S H Q E r
section
variable {P : Program} {w : World} {K : PySem.W.Frag} {mg : Str → Option Value} {base : Heap} {x qual : Str} {params : Arguments} {body : List Stmt} {scope : Scope} {dvs : List V} {kws : List (Str × V)} {f : Addr} {fd : FuncData} {N ps : List Str} {k ci : Nat} {T : Tab} {g : FS}
def on0 (a : Addr) : Nat → Option Addr := fun j => if j = 0 then some a else none
theorem rep_startI {S H : Hp} {vs : List V} {ds : List D} {N : List Str} {a dx : Addr} (hN : 0 < N.length) (sh : EV.Sub S H) (ha : H a = some (.ins (T.cls ci) dx [])) (hs : S a = none) (h : Iss T S vs ds) :
    Rep T (Sl.ins ci [] :: (ds.map Sl.v ++ List.replicate (N.length - 1 - ds.length) Sl.no)) (L2.start N (.ref a :: vs)) S H (on0 a) := by
  have hst : L2.start N (.ref a :: vs) = some (.ref a) :: (vs.map some ++ List.replicate (N.length - 1 - ds.length) none) := by
    unfold L2.start
    rw [List.map_cons, List.length_cons, ← h.length]
    show some (V.ref a) :: (vs.map some ++ _) = _
    congr 3
    omega
  rw [hst]
  have nov : ∀ (i : Nat) (s : Sl), (ds.map Sl.v ++ List.replicate (N.length - 1 - ds.length) Sl.no)[i]? = some s → (∃ d, ds[i]? = some d ∧ s = .v d) ∨ s = .no := fun i s e => by
    by_cases hi : i < ds.length
    · rw [List.getElem?_append_left (by simpa using hi), List.getElem?_map] at e
      obtain ⟨d, e1, e2⟩ := Option.map_eq_some_iff.mp e
      exact .inl ⟨d, e1, e2.symm⟩
    · rw [List.getElem?_append_right (by simpa using hi)] at e
      exact .inr ((List.mem_replicate.mp (List.mem_of_getElem? e)).2)
  refine ⟨sh, by simp [h.length], fun i d e => ?_, fun i ds' e => ?_, fun i c ds' e => ?_, fun i j b h1 h2 => ?_, fun i b h1 => ?_, fun i x e => (by
    cases i with
    | zero => cases e
    | succ i =>
      rw [List.getElem?_cons_succ] at e
      rcases nov i _ e with ⟨d', e1, e2⟩ | e2 <;> cases e2), fun i ks ds' e => (by
    cases i with
    | zero => cases e
    | succ i =>
      rw [List.getElem?_cons_succ] at e
      rcases nov i _ e with ⟨d', e1, e2⟩ | e2 <;> cases e2)⟩
  · cases i with
    | zero => cases e
    | succ i =>
      rw [List.getElem?_cons_succ] at e
      rcases nov i _ e with ⟨d', e1, e2⟩ | e2
      · cases e2
        obtain ⟨v, h1, h2⟩ := h.get' e1
        refine ⟨v, ?_, h2⟩
        have hi := (List.getElem?_eq_some_iff.mp h1).1
        rw [List.getElem?_cons_succ, List.getElem?_append_left (by simpa using hi), List.getElem?_map, h1]
        rfl
      · cases e2
  · cases i with
    | zero => cases e
    | succ i =>
      rw [List.getElem?_cons_succ] at e
      rcases nov i _ e with ⟨d', e1, e2⟩ | e2 <;> cases e2
  · cases i with
    | zero =>
      cases e
      exact ⟨a, dx, [], rfl, rfl, by rw [ha]; simp, hs, Nat.zero_le _, .nil⟩
    | succ i =>
      rw [List.getElem?_cons_succ] at e
      rcases nov i _ e with ⟨d', e1, e2⟩ | e2 <;> cases e2
  · unfold on0 at h1 h2
    split at h1 <;> cases h1
    split at h2 <;> cases h2
    omega
  · unfold on0 at h1
    split at h1 <;> cases h1
    rename_i hi
    subst hi
    exact .inr (.inl ⟨ci, [], rfl⟩)
theorem on0_stp {S H S' H' : Hp} {L' : Nat → Option Addr} {a : Addr} (st : Stp S H (on0 a) S' H' L') : Same S S' ∧ (∀ b o, b ≠ a → H b = some o → H' b = some o) ∧ ∀ b, H b ≠ none → S b = none → b ≠ a → S' b = none := by
  have na : ∀ b, b ≠ a → ∀ i, on0 a i ≠ some b := fun b hb i z => by
    unfold on0 at z
    split at z <;> cases z
    exact hb rfl
  exact ⟨st.s, fun b o hb h => st.fr b o h (na b hb), fun b h1 h2 hb => st.hid b h1 h2 (na b hb)⟩
theorem fn_evI (ci : Nat) (F : FunD K x qual params body scope dvs kws f fd) (Sc : FnScope N ps scope) (hN : 0 < N.length)
    (hb : ∀ (cdv : Value) (A : Around) (outer : List PySem.Env) (s : Shared) (H : Hp) (E : XK), Room k (A.deeper (PyProof.Rows.envOfC qual scope s.heap.objs.size f cdv)) →
      SSs (cxOf (L2N.CX P w) P w K mg base N qual scope f cdv A outer s H E) T (fun cls d _ H' => E cls d H') body g) : FnOk P w K mg base (L2N.CX P w) (k + 1) f fd ps (spI T ci ps.length (semI ci N.length g)) := by
  refine F.ok Sc (fun vs H Q E h => ?_) fun cdv A outer s H vs Q E hr h => ⟨_, hb cdv A outer s H E hr, ?_⟩
  · obtain ⟨S, x, dx, as, ds, r, rfl, hl, _⟩ := h
    exact hl
  · obtain ⟨S, a, dx, as, ds, r, rfl, hl, sh, ha, hs, hi, e, fin⟩ := h
    have rep := rep_startI (ci := ci) hN sh ha hs hi
    unfold semI at e
    split at e <;> try cases e
    · rename_i ρ hd
      split at e <;> try cases e
      rename_i c fs h0
      split at e <;> cases e
      rename_i hc
      subst hc
      refine ⟨_, S, _, _, rep, hd, fun σ' S' H' L' r st => ?_⟩
      obtain ⟨b, dx', vs', q1, q2, q3, q4, q5, q6⟩ := r.ins 0 c fs h0
      obtain ⟨s1, s2, s3⟩ := on0_stp st
      have eb : b = a ∧ dx' = dx := by
        have e1 : b = a := by
          rcases st.own 0 b q1 with ⟨j, z⟩ | ⟨_, ⟨xs, z⟩ | ⟨ks, bs, ws, z⟩⟩
          · unfold on0 at z
            split at z <;> cases z
            rfl
          · rw [q3] at z; cases z
          · rw [q3] at z; exact (dct_ins z).elim
        subst e1
        obtain ⟨fs', z⟩ := st.ik b _ _ _ ha
        rw [q3] at z
        cases z
        exact ⟨rfl, rfl⟩
      obtain ⟨rfl, rfl⟩ := eb
      refine fin.2 vs' S' H' s1 s2 r.sub (fun z h1 h2 => ?_) q3 q5 q6
      by_cases hz : z = b
      · rw [hz]; exact q4
      · exact s3 z h1 h2 hz
    · rename_i xn ρ hd
      refine ⟨_, S, _, _, rep, hd, fun σ' S' H' L' cls d r st i => ?_⟩
      obtain ⟨s1, s2, s3⟩ := on0_stp st
      exact fin S' H' cls d s1 s2 r.sub s3 i
end
end EV
end

section
set_option maxHeartbeats 4000000
/-! EV10: making instances, methods, isinstance of built-in types. -/
namespace EV
open PySem L2
section
variable {X : Cx} {T : Tab} {W : WX} {k n ci : Nat} {f C : Addr} {fd : FuncData} {ps ks : List Str} {sp : Sp} {x m : Str} {p pos apos : Pos} {e o a : Expr} {es : List Expr} {kws : List Keyword} {dvs : List V} {dds : List D} {perm : List Nat} {sem : List D → Option R} {fs fk : FL} {fo fa : FE}
theorem pick_succ {α : Type} {y : α} {l : List α} : ∀ perm : List Nat, pick (perm.map (· + 1)) (y :: l) = pick perm l
  | [] => rfl
  | j :: r => by
    have ih := pick_succ (y := y) (l := l) r
    unfold pick at ih ⊢
    simp only [List.map_cons, List.filterMap_cons, List.getElem?_cons_succ]
    split <;> simp [ih]
theorem pick_zero {α : Type} {y : α} {l : List α} {perm : List Nat} : pick (0 :: perm.map (· + 1)) (y :: l) = y :: pick perm l := by
  have ih := pick_succ (y := y) (l := l) perm
  unfold pick at ih ⊢
  simp only [List.filterMap_cons, List.getElem?_cons_zero, ih]
theorem run_M {pins : List (Addr × Obj)} {σ : L2.St} {H : Hp} {s : Shared} {Q : VK} {us ws : List Value} {vs zs : List V} (M : Mk X.K C f) (F : FnOk X.prog X.w X.K X.mg X.base (L2N.CX X.prog X.w) k f fd ps sp) (hr : Room (k + 1) X.A) (hb : ArgB X.K fd ps (n + 1) ks dvs (0 :: perm.map (· + 1))) (tk : L2N.Takes X W)
    (I : Inv X pins σ H s) (r : Vals vs us) (rz : Vals zs ws) (l1 : vs.length = n) (l2 : zs.length = ks.length)
    (h : ∀ x dx, H x = none → H dx = none → dx ≠ x → sp (.ref x :: pick perm (vs ++ zs ++ dvs)) (L2.upd (L2.upd H dx (.own x)) x (.ins C dx [])) (fun v H2 => v = .non ∧ Q (.ref x) H2) (WE W σ)) :
    wpAny (model X.prog X.w) X.A (call (.ref C) us (ks.zip ws)) (EP X pins σ Q) X.xe s := by
  have hq := h (s.heap.objs.size + 1) s.heap.objs.size (I.hok.fresh (Nat.le_succ _)) (I.hok.fresh (Nat.le_refl _)) (Nat.ne_of_lt (Nat.lt_succ_self _))
  have I2 := Inv.made (C := C) I
  obtain ⟨ds, rd, to⟩ := hb.to
  have r1 : Vals (V.ref (s.heap.objs.size + 1) :: vs) (Value.ref (s.heap.objs.size + 1) :: us) := .cons rfl r
  have r2 := Vals.pick ((r1.append rz).append rd) (0 :: perm.map (· + 1))
  have ev : pick (0 :: perm.map (· + 1)) (V.ref (s.heap.objs.size + 1) :: vs ++ zs ++ dvs) = V.ref (s.heap.objs.size + 1) :: pick perm (vs ++ zs ++ dvs) := pick_zero
  rw [ev] at r2
  have e1 : (Value.ref (s.heap.objs.size + 1) :: us).length = n + 1 := r1.length.symm.trans (congrArg Nat.succ l1)
  have e2 : ws.length = ks.length := rz.length.symm.trans l2
  refine wpAny_call (make_map (f := f) I.kIn M.makes M.init (beq_iff_eq.mp M.fn) (codeAny_mono (F.run _ X.stack _ _ ⟨Value.ref (s.heap.objs.size + 1) :: us, ks.zip ws⟩ _ _ _ (WE W σ) (hr.make C us (ks.zip ws))
    (I2.env0.make C us (ks.zip ws)) (to _ (Value.ref (s.heap.objs.size + 1) :: us) ws I2.kIn e1 e2) r2 hq) fun r s' hq' => ?_))
  cases r with
  | error e => exact L2N.passAt tk σ pins _ _ e s' I2 hq'
  | ok fl =>
    cases fl with
    | ret u =>
      obtain ⟨v, H', I3, rv, ev, q3⟩ := I2.after hq'
      subst ev
      exact ⟨rv, ⟨V.ref (s.heap.objs.size + 1), H', I3, rfl, q3⟩⟩
    | next => exact False.elim hq'
    | brk => exact False.elim hq'
    | cont => exact False.elim hq'
def tM (C : Addr) (n m : Nat) (perm : List Nat) (sp : Sp) (dvs : List V) (E : L2.St → XK) (t tk : TA) : TE := fun σ H Q => t σ H fun vs H1 => tk σ H1 fun zs H2 => vs.length = n ∧ zs.length = m ∧
  ∀ x dx, H2 x = none → H2 dx = none → dx ≠ x → sp (.ref x :: pick perm (vs ++ zs ++ dvs)) (L2.upd (L2.upd H2 dx (.own x)) x (.ins C dx [])) (fun v H3 => v = .non ∧ Q (.ref x) H3) (E σ)
theorem pe_makeP {t tkw : TA} (M : Mk X.K C f) (F : FnOk X.prog X.w X.K X.mg X.base (L2N.CX X.prog X.w) k f fd ps sp) (hr : Room (k + 1) X.A) (hm : X.mg x = some (.ref C)) (hb : ArgB X.K fd ps (n + 1) ks dvs (0 :: perm.map (· + 1))) (tk : L2N.Takes X W)
    (ha : PA X (e :: es) t) (hkw : PK X kws tkw) (hg : Gl X x) (hall : (backToKw pos (keywordEach kws X.env)).all (·.1.isSome) = true) (hks : (backToKw pos (keywordEach kws X.env)).filterMap (·.1) = ks)
    (hdb : (x == ("__debug__" : Str)) = false) (he : starEach (e :: es) X.env = (false, eval e X.env) :: starEach es X.env)
    (hpl : ((backTo pos (starEach (e :: es) X.env)).any (·.1) || (backToKw pos (keywordEach kws X.env)).any (·.1.isNone)) = false) :
    PE X (.Call (.Name x p) (e :: es) kws pos) (tM C n ks.length perm sp dvs (WE W) t tkw) := by
  refine ⟨fun pins s σ H Q I h => ?_⟩
  refine wpAny_Call_Name_kw (ld_glob I hg hm ?_ hdb)
  refine PySem.W.callWith_KW (h₀ := X.base) I.ok.mod.kin M.kp hall (thn (ha.run pos pins s σ H _ I h) fun us s1 ⟨vs, H1, I1, r, q⟩ => ?_) hpl he
  refine thn (hkw.run pos pins s1 σ H1 _ I1 q) fun ws s2 ⟨zs, H2, I2, rz, l1, l2, q2⟩ => ⟨I2.kIn, ?_⟩
  rw [hks]
  exact run_M M F hr hb tk I2 r rz l1 l2 q2
theorem pick_len {l : List Nat} {xs : List V} (h : ∀ j ∈ l, j < xs.length) : (pick l xs).length = l.length := by
  induction l with
  | nil => rfl
  | cons j r ih =>
    unfold pick
    rw [List.filterMap_cons, List.getElem?_eq_getElem (h j List.mem_cons_self)]
    show (pick r xs).length + 1 = _
    rw [ih fun j hj => h j (List.mem_cons_of_mem _ hj)]
    rfl
theorem wM {np : Nat} (hs : ∀ ds d, sem ds = some (.ok d) → ∃ fs, d = .obj ci fs) (hp : perm.length + 1 = np) (hdd : ∀ S, Iss T S dvs dds) (σ : L2.St) (H : Hp) (Q : VK) {m : Nat} (hmx : ∀ j ∈ perm, j < n + m + dvs.length)
    (q : tF T W (vCallP n m perm sem dds fs fk) σ H Q) : tM (T.cls ci) n m perm (spI T ci np sem) dvs (WE W) (tA T W fs) (tA T W fk) σ H Q := by
  obtain ⟨ρ, S, r, sh, rep, e, fin⟩ := q
  refine tA_go sh rep e fin fun ds vs S1 H1 k1 i1 rep1 e1 fin1 => ?_
  refine tA_go k1.sub rep1 e1 fin1 fun es zs S2 H2 k2 i2 rep2 e2 fin2 => ?_
  split at e2 <;> try cases e2
  rename_i hl
  have i12 := (((i1.mono k2.s).append i2).append (hdd S2)).pick perm
  refine ⟨i1.length.trans hl.1, i2.length.trans hl.2, fun x dx hx hd hne => ?_⟩
  have sx : S2 x = none := k2.sub.same.free hx
  have sd : S2 dx = none := k2.sub.same.free hd
  have sub3 : EV.Sub S2 (L2.upd (L2.upd H2 dx (.own x)) x (.ins (T.cls ci) dx [])) := by
    refine ⟨fun a u h => ?_, fun a u h f => ?_⟩
    · rw [upd_ne (ne_of_none h sx), upd_ne (ne_of_none h sd)]
      exact k2.sub.same a u h
    · by_cases ha : a = x
      · subst ha; rw [upd_same] at h; cases h; cases f
      · rw [upd_ne ha] at h
        by_cases hb : a = dx
        · subst hb; rw [upd_same] at h; cases h; cases f
        · rw [upd_ne hb] at h; exact k2.sub.fix a u h f
  refine ⟨S2, x, dx, _, _, r, rfl, ?_, sub3, upd_same, sx, i12, e2, ?_⟩
  · rw [pick_len fun j hj => ?_, hp]
    rw [List.length_append, List.length_append, i1.length, i2.length, hl.1, hl.2]
    exact hmx j hj
  · cases r with
    | ok d =>
      obtain ⟨gs, rfl⟩ := hs _ _ e2
      refine ⟨rfl, fun vs' S' H' s1 s2 s3 s4 hx' hlen hi => ⟨rfl, ?_⟩⟩
      have hSx : S' x = none := s4 x (by rw [upd_same]; intro z; cases z) sx
      have kp := Kp.made k2.sub hx hd s1 s2 s3 fun a h1 h2 _ => s4 a h1 h2
      exact fin2 (.ref x) _ H' (kp.open hx hx' hSx) (.obj upd_same hlen (hi.mono (Same.opened hSx)))
    | ex xn =>
      intro S' H' cls d s1 s2 s3 s4 i
      exact fin2 S' H' cls d (Kp.made k2.sub hx hd s1 s2 s3 s4) i
theorem semI_obj {N : Nat} {g : FS} (ds : List D) (d : D) (h : semI ci N g ds = some (.ok d)) : ∃ fs, d = .obj ci fs := by
  unfold semI at h
  split at h <;> try cases h
  split at h <;> try cases h
  split at h <;> cases h
  exact ⟨_, rfl⟩
theorem ee_makeP {np mk : Nat} (hs : ∀ ds d, sem ds = some (.ok d) → ∃ fs, d = .obj ci fs) (M : Mk X.K (T.cls ci) f) (F : FnOk X.prog X.w X.K X.mg X.base (L2N.CX X.prog X.w) k f fd ps (spI T ci np sem)) (hr : Room (k + 1) X.A) (hm : X.mg x = some (.ref (T.cls ci)))
    (hb : ArgB X.K fd ps (n + 1) ks dvs (0 :: perm.map (· + 1))) (tk : L2N.Takes X W) (hp : perm.length + 1 = np) (hmx : ∀ j ∈ perm, j < n + ks.length + dvs.length) (hdd : ∀ S, Iss T S dvs dds) (ha : EA X T W (e :: es) fs) (hkw : EK X T W kws fk)
    (hg : Gl X x := by rfl) (hall : (backToKw pos (keywordEach kws X.env)).all (·.1.isSome) = true := by rfl) (hks : (backToKw pos (keywordEach kws X.env)).filterMap (·.1) = ks := by rfl)
    (hdb : (x == ("__debug__" : Str)) = false := by decide) (he : starEach (e :: es) X.env = (false, eval e X.env) :: starEach es X.env := by rfl)
    (hpl : ((backTo pos (starEach (e :: es) X.env)).any (·.1) || (backToKw pos (keywordEach kws X.env)).any (·.1.isNone)) = false := by rfl) (hkl : ks.length = mk := by rfl) :
    EE X T W (.Call (.Name x p) (e :: es) kws pos) (vCallP n mk perm sem dds fs fk) := by
  subst hkl
  exact PE.weak (pe_makeP M F hr hm hb tk ha hkw hg hall hks hdb he hpl) fun σ H Q q => wM hs hp hdd σ H Q hmx q
/-! ### o.m(..) of an instance -/
def Ty.le : Ty → Ty → Bool
  | .non, .non => true | .bl, .bl => true | .bl, .int => true | .int, .int => true | .str, .str => true | .lst, .lst => true | .tup, .tup => true
  | _, _ => false
theorem kit_le {K : PySem.W.Frag} (t u : Ty) : PySem.W.kitOne K (.type t.nm) (.type u.nm) = some (t.le u) := by
  refine kit_ty ?_
  cases t <;> cases u <;> decide +kernel
def isD (cs : List Ty) (d : D) : Option D := d.ty.map fun t => .bl (cs.any fun u => t.le u)
theorem ee_isi (u : Ty) {y : Str} {q : Pos} (hm : X.mg "isinstance" = none) (hmy : X.mg y = none) (hvy : bootBuiltins y = some (.type u.nm)) (hK : X.K = T.K := by rfl) (hg : Gl X "isinstance" := by rfl) (hgy : Gl X y := by rfl) (hny : y ≠ "__name__" := by decide) (hdy : (y == ("__debug__" : Str)) = false := by decide)
    (he : starEach (a :: [.Name y q]) X.env = (false, eval a X.env) :: starEach [.Name y q] X.env := by rfl) (he2 : starEach [.Name y q] X.env = (false, eval (.Name y q) X.env) :: starEach [] X.env := by rfl) (hpl : (backTo pos (starEach [.Name y q] X.env)).any (·.1) = false := by rfl)
    (ha : EE X T W a fa) : EE X T W (.Call (.Name "isinstance" p) [a, .Name y q] [] pos) (v1 (isD [u]) fa) := by
  refine PE.weak (pe_callB call_isi hg hm (by decide +kernel) (pa_cons ha (pa_cons (pe_bltn (v := .ty u.nm) hgy hmy hvy rfl hny hdy) pa_nil he2) he) (by decide) (by decide) he hpl) fun σ H Q q => ?_
  obtain ⟨ρ, S, z, sh, rep, e, fin⟩ := q
  refine tF_go sh rep e fin fun d x S1 H1 k1 i1 rep1 e1 fin1 => ?_
  obtain ⟨r, e3, rfl⟩ := okO_inv e1
  obtain ⟨t, e4, rfl⟩ := Option.map_eq_some_iff.mp e3
  refine ⟨x, .ty u.nm, _, _, _, rfl, .ty _, by rw [hK]; exact ty_of (i1.mono k1.sub.same) e4, kit_le t u, ?_⟩
  have : [u].any (fun u => t.le u) = t.le u := by simp
  rw [this] at fin1
  exact fin1 _ S1 H1 (Kp.refl k1.sub) (.bl _)
theorem kitAny_le {K : PySem.W.Frag} (t : Ty) : ∀ us : List Ty, PySem.W.kitAny K (.type t.nm) (us.map fun u => .type u.nm) = some (us.any fun u => t.le u)
  | [] => rfl
  | u :: us => by
    rw [List.map_cons, List.any_cons]
    refine kitAny_cons (b := t.le u) (kit_le t u) (fun h => ?_) fun h => ?_
    · rw [h, Bool.false_or]; exact kitAny_le t us
    · rw [h]; rfl
theorem PTy.pa {es : List Expr} {us : List Ty} (h : PTy X es us) : PA X es (fun _ H Q => Q (us.map fun u => V.ty u.nm) H) := by
  induction h with
  | nil => exact pa_nil
  | cons hmy hvy hr hgy hny hdy he ih => exact pa_cons (pe_bltn (v := .ty _) hgy hmy hvy rfl hny hdy) ih he
theorem PTy.clsV : ∀ us : List Ty, Paired ClsV (us.map fun u => V.ty u.nm) (us.map fun u => Value.type u.nm)
  | [] => .nil
  | u :: us => .cons (.ty _) (PTy.clsV us)
theorem ee_isiT (us : List Ty) {q : Pos} {x1} (h : PTy X es us) (hl : us.length ≤ 20) (hm : X.mg "isinstance" = none) (hK : X.K = T.K := by rfl) (hg : Gl X "isinstance" := by rfl)
    (he : starEach (a :: [.Tuple es x1 q]) X.env = (false, eval a X.env) :: starEach [.Tuple es x1 q] X.env := by rfl) (he2 : starEach [.Tuple es x1 q] X.env = (false, eval (.Tuple es x1 q) X.env) :: starEach [] X.env := by rfl) (hpl : (backTo pos (starEach [.Tuple es x1 q] X.env)).any (·.1) = false := by rfl)
    (ha : EE X T W a fa) : EE X T W (.Call (.Name "isinstance" p) [a, .Tuple es x1 q] [] pos) (v1 (isD us) fa) := by
  refine PE.weak (pe_callB call_isiT hg hm (by decide +kernel) (pa_cons ha (pa_cons (pe_tup h.pa) pa_nil he2) he) (by decide) (by decide) he hpl) fun σ H Q q => ?_
  obtain ⟨ρ, S, z, sh, rep, e, fin⟩ := q
  refine tF_go sh rep e fin fun d x S1 H1 k1 i1 rep1 e1 fin1 => ?_
  obtain ⟨r, e3, rfl⟩ := okO_inv e1
  obtain ⟨t, e4, rfl⟩ := Option.map_eq_some_iff.mp e3
  refine ⟨by rw [List.length_map]; exact line_of (by omega), fun tp hp => ?_⟩
  have k2 := Kp.new (o := .tup (us.map fun u => V.ty u.nm)) k1.sub hp
  refine ⟨x, tp, _, _, _, _, rfl, upd_same, PTy.clsV us, by rw [hK]; exact ty_of (((i1.mono k2.s)).mono k2.sub.same) e4, kitAny_le t us, ?_⟩
  exact fin1 _ _ _ k2 (.bl _)
end
end EV
end

section
set_option maxHeartbeats 4000000
/-! EV11: enumerate of lists and tuples, x += e, sorted(set(e)). -/
namespace EV
open PySem L2

/-- a list (false) or a tuple (true) -/
def SqK (K : PySem.W.Frag) : Bool → Hp → Addr → List V → Prop
  | true => SqT K
  | false => SqL K
def IsK : Bool → Heap → Addr → Array Value → Prop
  | true => fun h a its => h.IsTuple a its
  | false => fun h a its => h.IsList a its
def itO : Bool → Addr → Obj
  | true, a => { cls := .type "tuple_iterator", data := .fields #[.ref a, .int 0 0] }
  | false, a => { cls := .type "list_iterator", data := .fields #[.ref a, .int 0 0] }
def stK : Bool → Addr → Addr → Nat → Heap → Prop
  | true, it, a, i => fun h => h.IsTupleIter it a i
  | false, it, a, i => fun h => h.IsListIter it a i
theorem beginsK : ∀ (k : Bool) (a : Addr) (its : Array Value), Begins (.ref a) (itO k a) fun h => IsK k h a its
  | true, a, its => begins_tuple a its
  | false, a, its => begins_list a its
theorem itO_st {h : Heap} {it a : Addr} : ∀ {k : Bool}, h.get? it = some (itO k a) → stK k it a 0 h
  | true, e => ⟨_, e, rfl, rfl⟩
  | false, e => ⟨_, e, rfl, rfl⟩
theorem drawsK {prog : Program} {w : World} {A : Around} (hh : A.handled = none) (it a : Addr) (hne : a ≠ it) (its : Array Value) : ∀ k : Bool,
    Draws prog w A it [it, a] its.size (fun i v => its[i]? = some v) (fun i h => stK k it a i h ∧ IsK k h a its)
  | true => Draws.tuple hh it a hne its
  | false => Draws.list hh it a hne its
theorem stK_live {h : Heap} {it a : Addr} {i : Nat} : ∀ {k : Bool}, stK k it a i h → ∃ o, h.get? it = some o ∧ ∀ v, o.data ≠ .cell v
  | true, ⟨o, e, _, d⟩ => ⟨o, e, fun v q => by rw [d] at q; cases q⟩
  | false, ⟨o, e, _, d⟩ => ⟨o, e, fun v q => by rw [d] at q; cases q⟩
theorem stK_at {h h' : Heap} {it a : Addr} {i : Nat} : ∀ {k : Bool}, stK k it a i h → (∀ o, h.get? it = some o → h'.get? it = some o) → stK k it a i h'
  | true, st, q => Heap.IsTupleIter.at st q
  | false, st, q => Heap.IsListIter.at st q
theorem stK_ne {h : Heap} {it a b : Addr} {i : Nat} {its : Array Value} : ∀ {k k' : Bool}, stK k it a i h → IsK k' h b its → b ≠ it
  | true, true, ⟨o, e, c, _⟩, ⟨u, e', c', _⟩ => fun z => by subst z; rw [e] at e'; cases e'; rw [c] at c'; injection c' with c'; exact absurd c' (by decide)
  | true, false, ⟨o, e, c, _⟩, ⟨u, e', c', _⟩ => fun z => by subst z; rw [e] at e'; cases e'; rw [c] at c'; injection c' with c'; exact absurd c' (by decide)
  | false, true, ⟨o, e, c, _⟩, ⟨u, e', c', _⟩ => fun z => by subst z; rw [e] at e'; cases e'; rw [c] at c'; injection c' with c'; exact absurd c' (by decide)
  | false, false, ⟨o, e, c, _⟩, ⟨u, e', c', _⟩ => fun z => by subst z; rw [e] at e'; cases e'; rw [c] at c'; injection c' with c'; exact absurd c' (by decide)
theorem isK_ne {h : Heap} {e b : Addr} {its : Array Value} {o : Obj} {T : String} (ho : h.get? e = some o) (hc : o.cls = .type T) (h1 : T ≠ "list") (h2 : T ≠ "tuple") : ∀ {k : Bool}, IsK k h b its → e ≠ b
  | true, ⟨u, e', c', _⟩ => fun z => by subst z; rw [ho] at e'; cases e'; rw [hc] at c'; cases c'; exact h2 rfl
  | false, ⟨u, e', c', _⟩ => fun z => by subst z; rw [ho] at e'; cases e'; rw [hc] at c'; cases c'; exact h1 rfl
section
variable {X : Cx} {pins : List (Addr × Obj)} {σ : L2.St} {H : Hp} {s : Shared} {a : Addr} {xs ys : List V}
theorem sqK_get (I : Inv X pins σ H s) : ∀ {k : Bool}, SqK X.K k H a xs → ∃ its : List Value, Vals xs its ∧ IsK k s.heap a its.toArray
  | true, h => let ⟨its, r, p, _⟩ := I.tuple h; ⟨its, r, p⟩
  | false, h => let ⟨its, r, p, _⟩ := I.list h; ⟨its, r, p.isList⟩
theorem sqK_inj (I : Inv X pins σ H s) : ∀ {k : Bool}, SqK X.K k H a xs → SqK X.K k H a ys → xs = ys
  | true, h, h' => I.tuple_inj h h'
  | false, h, h' => I.list_inj h h'
end
theorem sqK_same {K : PySem.W.Frag} {H H' : Hp} {a : Addr} {xs : List V} (e : Same H H') : ∀ {k : Bool}, SqK K k H a xs → SqK K k H' a xs
  | true, h => Same.seqT e h
  | false, h => e.seq h

/-! ### enumerate -/
def Itn (K : PySem.W.Frag) (k : Bool) (a : Addr) : It :=
  ⟨fun i H => ∃ (xs : List V) (x : V), SqK K k H a xs ∧ xs[i]? = some x, fun i H v H' => ∃ T x, v = .ref T ∧ H T = none ∧ H' = L2.upd H T (.tup [.int (i : Nat), x]) ∧ ∀ xs, SqK K k H a xs → xs[i]? = some x, fun i H => ∃ xs : List V, SqK K k H a xs ∧ xs.length = i⟩
theorem turn_itn {P : Program} {w : World} {K : PySem.W.Frag} {elts : List Expr} {kk : Nat} {tpos : Pos} (k : Bool) (a e it : Addr) :
    Turn P w K (.Tuple elts kk tpos) (Itn K k a) [e, it] e (fun i h => (∃ old, IsEnum h e it ((i : Nat) : Int) old) ∧ stK k it a i h ∧ e ≠ it) where
  mem := List.mem_cons_self
  obj := fun i h st b hb => by
    obtain ⟨⟨old, he⟩, hi, _⟩ := st
    rcases List.mem_cons.mp hb with z | z
    · subst z; exact ⟨_, he, fun v q => nomatch q⟩
    · rw [List.mem_singleton.mp z]; exact stK_live hi
  keep := fun i h h' st q => ⟨⟨st.1.choose, q e (by simp) _ st.1.choose_spec⟩, stK_at st.2.1 fun o z => q it (by simp) o z, st.2.2⟩
  item := by
    intro X hP hw hK hc i pins s σ H E I hf st hg
    subst hP hw hK
    obtain ⟨⟨old, he⟩, hi, hne⟩ := st
    obtain ⟨xs, x, hq, hx⟩ := hg
    obtain ⟨its, rv, p⟩ := sqK_get I hq
    obtain ⟨u, hu, ru⟩ := rv.get hx
    have hai : a ≠ it := stK_ne hi p
    have hea : e ≠ a := isK_ne he rfl (by decide) (by decide) p
    have hel : e < s.heap.objs.size := Heap.lt_size he
    have hil : it < s.heap.objs.size := by obtain ⟨_, q, _⟩ := stK_live hi; exact Heap.lt_size q
    have hlt : i < its.toArray.size := by
      have := (List.getElem?_eq_some_iff.mp hu).1
      simpa using this
    refine wpAny_pyNext_enum_itemD (drawsK (A := X.A.in1) (I.ok.hd hc) it a hai its.toArray k) he ⟨hi, p⟩ hlt hne (by simp [hne, hea]) fun v h1 tk hv ho st1 hT hsz hk => ?_
    have ev : v = u := by
      have e1 : its.toArray[i]? = some u := by simpa using hu
      rw [e1] at hv
      exact (Option.some.inj hv).symm
    subst ev
    refine ⟨_, rfl, wpAny_letOwnedTupleGo_enum (s := { s with heap := h1, toks := tk + 1 }) ho fun h2 he2 sb => ?_⟩
    have hT2 : h2.get? s.heap.objs.size = some { cls := .type "tuple", data := .seq #[.int i tk, v] } := (sb.2 _ (Nat.ne_of_gt hel)).trans hT
    have new : ObjOk X.prog X.w (L2.upd H s.heap.objs.size (.tup [.int (i : Nat), x])) h2 s.heap.objs.size (.tup [.int (i : Nat), x]) :=
      ⟨by show 2 ≤ sizeLine; decide, [.int i tk, v], .cons ⟨_, rfl⟩ (.cons ru .nil), ⟨_, hT2, rfl, _, rfl⟩⟩
    have I1 : Inv X pins σ (L2.upd H s.heap.objs.size (.tup [.int (i : Nat), x])) { s with heap := h2, toks := tk + 1 } :=
      I.turnedNew (ch := [e, it]) (fun b ob hb q => (sb.2 b (fun z => hb (by simp [z]))).trans (hk b ob (fun z => hb (by simp [z])) (fun z => hb (by simp [z])) q)) hf (Nat.le_refl _) new
    refine ⟨.ref s.heap.objs.size, _, I1, rfl, ⟨_, x, rfl, I.hok.fresh (Nat.le_refl _), rfl, fun ys hy => by rw [sqK_inj I hy hq]; exact hx⟩, ⟨⟨v, ?_⟩, stK_at st1.1 fun o q => (sb.2 it (Ne.symm hne)).trans q, hne⟩, fun b hb => ?_⟩
    · have e1 : ((i + 1 : Nat) : Int) = (i : Int) + 1 := by omega
      rw [e1]; exact he2
    · have hb' : b < s.heap.objs.size := by
        rcases List.mem_cons.mp hb with z | z
        · rw [z]; exact hel
        · rw [List.mem_singleton.mp z]; exact hil
      rw [upd_ne (Nat.ne_of_lt hb')]
      exact (hf b hb).1
  done := by
    intro X hP hw hK hc i pins s σ H E I hf st hg
    subst hP hw hK
    obtain ⟨⟨old, he⟩, hi, hne⟩ := st
    obtain ⟨xs, hq, hx⟩ := hg
    obtain ⟨its, rv, p⟩ := sqK_get I hq
    have hai : a ≠ it := stK_ne hi p
    obtain ⟨f0, f1, f2, f3, f4, f5⟩ := hf it (by simp)
    have hn : its.toArray.size = i := by
      have := rv.length
      simp
      omega
    refine wpAny_pyNext_enum_endD (drawsK (A := X.A.in1) (I.ok.hd hc) it a hai its.toArray k) he ⟨by rw [hn]; exact hi, p⟩ fun h1 eb => ⟨rfl, I.turned (t' := s.toks) (fun b o hb q => eb b o hb q) f0 f1 f3 f4 f5⟩
  self := fun A i s Q E st h => wpAny_pyIter_enum st.1.choose_spec h
theorem meets_enum1 {v : Value} {o : Obj} {G : Heap → Prop} (B : Begins v o G) :
    Meets (Builtin.«enumerate.__new__» ⟨[.type "enumerate", v], []⟩) (fun _ R s => G s.heap ∧
      R (.ok (.ret (.ref (s.heap.push o).objs.size))) { s with heap := (s.heap.push o).push { cls := .type "enumerate", data := .fields #[.none, .bool false, .ref s.heap.objs.size, rawInt 0, .none, .none] } }) :=
  .of_wp fun prog w A R s h => by
    obtain ⟨hp, g, d, tk, os⟩ := s
    obtain ⟨h1, h⟩ := h
    have isE := sub_enumerate
    have begun : ∀ {A' : Around} {E : Value → Shared → Prop} {Q : Value → Shared → Prop}, Q (.ref hp.objs.size) ⟨hp.push o, g, d, tk, os⟩ → wpAny (model prog w) A' (pyIter v) Q E ⟨hp, g, d, tk, os⟩ :=
      fun q => B.iter prog w _ _ ⟨hp, g, d, tk, os⟩ _ h1 q
    wp_walk using begun
    refine wpAny_stack_any fun st => wpAny_pure ?_
    split
    · rename_i cc _ _ _ _ _
      cases (cc == Value.type "enumerate")
      · wp_walk using begun
        exact ⟨_, rfl, h⟩
      · wp_walk using begun
        exact ⟨_, rfl, h⟩
    · wp_walk using begun
      exact ⟨_, rfl, h⟩
section
variable {prog : Program} {w : World} {A : Around} {E : Value → Shared → Prop} {s : Shared}
theorem call_enum1 {v : Value} {o : Obj} {G : Heap → Prop} {Q : Value → Shared → Prop} (B : Begins v o G) (h1 : G s.heap)
    (h : ∀ h', IsEnum h' (s.heap.objs.size + 1) s.heap.objs.size 0 .none → h'.get? s.heap.objs.size = some o → (∀ b o, s.heap.get? b = some o → h'.get? b = some o) → Q (.ref (s.heap.objs.size + 1)) { s with heap := h' }) :
    wpAny (model prog w) A (call (.type "enumerate") [v]) Q E s := by
  refine callType_new F.called_enumerate (by decide) (F.typeCall_enumerate_1 _) (F.newCall_enumerate_1 _) (fun obj => F.args_object_init_2 obj _) F.entry_enumerate_new (meets_enum1 B) ⟨h1, ?_⟩
  have hz : (s.heap.push o).objs.size = s.heap.objs.size + 1 := Heap.size_push ..
  have he : ∀ n, n = (s.heap.push o).objs.size → IsEnum ((s.heap.push o).push { cls := .type "enumerate", data := .fields #[.none, .bool false, .ref s.heap.objs.size, rawInt 0, .none, .none] }) n s.heap.objs.size 0 .none := fun n q => by
    rw [q]
    exact Heap.get?_push_size _ rfl
  show _ ∧ _
  rw [hz]
  exact ⟨⟨_, he _ hz.symm, rfl⟩, h _ (he _ hz.symm) (Heap.get?_push_of_some _ (Heap.get?_push_size _ B.free)) fun b o x => Heap.get?_push_of_some _ (Heap.get?_push_of_some _ x)⟩
end
section
variable {X : Cx} {T : Tab} {W : WX} {e : Expr} {fa : FE} {p pos tpos : Pos} {elts : List Expr} {kk : Nat}
def iEn (K : PySem.W.Frag) (ta : TA) : TI := fun σ H R => ta σ H fun vs H1 => ∃ a xs k, vs = [.ref a] ∧ SqK K k H1 a xs ∧ R (Itn K k a) H1
theorem pi_en {ta : TA} (hg : Gl X "enumerate") (hm : X.mg "enumerate" = none) (ha : PA X [e] ta) (hs : starEach [e] X.env = [(false, eval e X.env)] := by rfl) : PI X (.Tuple elts kk tpos) (.Call (.Name "enumerate" p) [e] [] pos) (iEn X.K ta) := by
  refine ⟨fun pins s σ H R I h => ?_⟩
  refine PyProof.Rows.Call_ (ld_blt I hg hm PyProof.Rows.boot_enumerate (PyProof.Rows.callWith_type1 (thn (ha.run pos pins s σ H _ I h) fun us s1 ⟨vs, H1, I1, r1, q1⟩ => ?_) hs rfl))
  obtain ⟨a, xs, k, rfl, hq, q⟩ := q1
  cases r1 with
  | cons r rr =>
    cases rr
    cases r
    obtain ⟨its, rv, pk⟩ := sqK_get I1 hq
    refine call_enum1 (beginsK k a its.toArray) pk fun h' he hi hk => wpAny_pyIter_enum he ?_
    have I2 : Inv X pins σ H1 { s1 with heap := h' } := I1.kept (t' := s1.toks) hk
    refine ⟨s1.heap.objs.size + 1, [s1.heap.objs.size + 1, s1.heap.objs.size], _, _, H1, rfl, I2, turn_itn k a (s1.heap.objs.size + 1) s1.heap.objs.size, ⟨⟨.none, he⟩, itO_st hi, Nat.succ_ne_self _⟩, fun b hb => ?_, q⟩
    have hle : s1.heap.objs.size ≤ b := by
      rcases List.mem_cons.mp hb with z | z
      · rw [z]; exact Nat.le_add_right _ _
      · rw [List.mem_singleton.mp z]; exact Nat.le_refl _
    exact I1.fpOk hle (I1.hok.fresh hle)
def enumFrom : Nat → List D → List D
  | _, [] => []
  | n, d :: ds => .tup [.int n, d] :: enumFrom (n + 1) ds
theorem enumFrom_length : ∀ (ds : List D) (n : Nat), (enumFrom n ds).length = ds.length
  | [], _ => rfl
  | d :: ds, n => by simp [enumFrom, enumFrom_length ds]
theorem enumFrom_get : ∀ (ds : List D) (n i : Nat) (d : D), ds[i]? = some d → (enumFrom n ds)[i]? = some (.tup [.int ((n + i : Nat) : Int), d])
  | [], _, _, _, h => by simp at h
  | d :: ds, n, 0, e, h => by simp at h; subst h; simp [enumFrom]
  | d :: ds, n, i + 1, e, h => by
    have := enumFrom_get ds (n + 1) i e (by simpa using h)
    simp only [enumFrom, List.getElem?_cons_succ, this]
    rw [show n + 1 + i = n + (i + 1) by omega]
def iEnum (f : FE) : FL := fun ρ => R1L (f ρ) fun d => (seqD d).map fun ds => RL.ok (enumFrom 0 ds)
theorem iw_enum {K : PySem.W.Frag} (hK : K = T.K) {k : Bool} {a : Addr} {vs : List V} {ds : List D} {S1 H1 : Hp} {σ : L2.St} (h : SqK K k S1 a vs) (hs : Iss T S1 vs ds) : IW T (Itn K k a) S1 (enumFrom 0 ds) := by
  refine ⟨fun i S H s sh hi => ?_, fun S H s sh => ?_, fun i S H x H' s sh hi y => ?_⟩
  · rw [enumFrom_length, ← hs.length] at hi
    exact ⟨vs, vs[i], sqK_same sh.same (sqK_same s h), List.getElem?_eq_getElem hi⟩
  · exact ⟨vs, sqK_same sh.same (sqK_same s h), by rw [enumFrom_length, hs.length]⟩
  · obtain ⟨Tn, x', rfl, hn, rfl, hx⟩ := y
    obtain ⟨d, h1, h2⟩ := hs.get (hx vs (sqK_same sh.same (sqK_same s h)))
    have kp := Kp.new (o := .tup [.int (i : Nat), x']) sh hn
    refine ⟨.tup [.int (i : Nat), d], _, ?_, kp, .tup (SqT.of upd_same) (.cons (.int _) (.cons ((h2.mono s).mono kp.s) .nil))⟩
    have := enumFrom_get ds 0 i d h1
    rw [Nat.zero_add] at this
    exact this
theorem ei_enum (hm : X.mg "enumerate" = none) (ha : EE X T W e fa) (hK : X.K = T.K := by rfl) (hg : Gl X "enumerate" := by rfl) (hs : starEach [e] X.env = [(false, eval e X.env)] := by rfl) (hs2 : starEach [e] X.env = (false, eval e X.env) :: starEach [] X.env := by rfl) :
    EI X T W (.Tuple elts kk tpos) (.Call (.Name "enumerate" p) [e] [] pos) (iEnum fa) := by
  refine PI.weak (pi_en hg hm (pa_cons ha pa_nil hs2) hs) fun σ H R q => ?_
  obtain ⟨ρ, S, r, sh, rep, e, fin⟩ := q
  show tF T W fa σ H _
  refine tF_goI sh rep e fin fun d v S1 H1 k i rep1 e1 fin1 => ?_
  obtain ⟨ds, e2, rfl⟩ := Option.map_eq_some_iff.mp e1
  unfold seqD at e2
  split at e2 <;> cases e2
  · cases i with
    | lst h hs => exact ⟨_, _, false, rfl, SqL.of (k.sub.same _ _ h), fin1 _ S1 H1 (Kp.refl k.sub) (iw_enum (H1 := H1) (σ := σ) hK (k := false) (SqL.of h) hs)⟩
  · cases i with
    | tup h hs => exact ⟨_, _, true, rfl, Same.seqT k.sub.same (by rw [hK]; exact h), fin1 _ S1 H1 (Kp.refl k.sub) (iw_enum (H1 := H1) (σ := σ) hK (k := true) (by show SqT X.K _ _ _; rw [hK]; exact h) hs)⟩
  · cases i with
    | scr h l => exact ⟨_, _, false, rfl, k.sub.same.seq (by rw [hK]; exact h), fin1 _ S1 H1 (Kp.refl k.sub) (iw_enum (H1 := H1) (σ := σ) hK (k := false) (by show SqL X.K _ _ _; rw [hK]; exact h) (Iss.ints _))⟩
end

/-! ### set(xs) of a list of ints -/
section
open PyProof.Rows Calls
variable {P : Program} {w : World} {A : Around} {E : Value → Shared → Prop} {s : Shared}
end
/-! ### x += e of ints -/
section
variable {X : Cx} {T : Tab} {W : WX} {e a : Expr} {f fa : FE} {x : Str} {i : Nat} {p pos : Pos}
end
end EV
end

section
set_option maxHeartbeats 4000000
/-! EV12: sorted(set(e)); constants of the module. -/
namespace EV
open PySem L2

section
variable {X : Cx} {T : Tab} {W : WX} {a : Expr} {fa : FE} {p p2 q pos : Pos}
end

section
variable {X : Cx} {T : Tab} {W : WX} {x : Str} {pos : Pos}
end
end EV
namespace EV
open PySem L2
/-- a def of which nothing is said -/
theorem fn_none {P : Program} {w : World} {K : PySem.W.Frag} {mg : Str → Option Value} {base : Heap} {CX : CXT} {k n : Nat} {f : Addr} {fd : FuncData} {ps : List Str} {T : Tab} : FnOk P w K mg base CX k f fd ps (spF T n fun _ => none) :=
  ⟨fun vs H Q E h => (nomatch (show False from (let ⟨_, _, _, _, _, _, e, _⟩ := h; nomatch e))), fun A outer s H args us vs Q E _ _ _ _ h => (nomatch (show False from (let ⟨_, _, _, _, _, _, e, _⟩ := h; nomatch e)))⟩
end EV
namespace EV
open PySem L2
section
variable {K : PySem.W.Frag} {x qual : Str} {params : Arguments} {body : List Stmt} {scope : Scope} {f : Addr} {fd : FuncData} {ps ks : List Str} {n : Nat} {perm : List Nat} {dvs : List V} {kws : List (Str × V)}
/-- a def without positional defaults; all parameters are given -/
theorem ArgB.given (F : FunD K x qual params body scope [] kws f fd)
    (h : ∀ (kV doc pm : Value) (an : Option Addr) (cdv ct : Value) (us ws : List Value), us.length = n → ws.length = ks.length → bindArgs (PySem.W.fnOf x qual params body scope .none kV doc pm an cdv ct) ⟨us, ks.zip ws⟩ = pure (ps.zip (pick perm (us ++ ws ++ [])))) : ArgB K fd ps n ks [] perm := by
  obtain ⟨oc, od, dV, kV, doc, pm, an, cdv, ct, osl, rfl, lk, hcd, hD, hK⟩ := F.ex
  rcases hD with ⟨_, rfl⟩ | ⟨e, _⟩
  · exact ⟨[], .nil, fun s us ws _ l1 l2 => BindsTo.of_eq (h kV doc pm an cdv ct us ws l1 l2)⟩
  · exact absurd rfl e
/-- a def with positional defaults, none of them is used -/
theorem ArgB.unused (F : FunD K x qual params body scope dvs kws f fd) (hd : dvs ≠ [])
    (h : ∀ (T : Addr) (kV doc pm : Value) (an : Option Addr) (cdv ct : Value) (us its ws : List Value), us.length = n → its.length = dvs.length → ws.length = ks.length →
      ∃ k, bindArgs (PySem.W.fnOf x qual params body scope (.ref T) kV doc pm an cdv ct) ⟨us, ks.zip ws⟩ = seqItems? (.ref T) >>= k ∧ k (some its.toArray) = pure (ps.zip (pick perm (us ++ ws ++ [])))) : ArgB K fd ps n ks [] perm := by
  obtain ⟨oc, od, dV, kV, doc, pm, an, cdv, ct, osl, rfl, lk, hcd, hD, hK⟩ := F.ex
  rcases hD with ⟨e, _⟩ | ⟨_, Ta, o, its, m, rfl, lT, oT, rT⟩
  · exact absurd e hd
  · refine ⟨[], .nil, fun s us ws X l1 l2 => ?_⟩
    obtain ⟨k, e1, e2⟩ := h Ta kV doc pm an cdv ct us its ws l1 rT.length.symm l2
    refine BindsTo.of_looks fun M => ?_
    rw [e1]
    exact looks_items X lT oT (.of_pure e2)
end
end EV
namespace EV
open PySem L2
section
variable {X : Cx} {T : Tab} {W : WX} {e : Expr} {f : FE} {pos : Pos}
end
end EV
end

section
set_option maxHeartbeats 4000000
/-! EV14: reasoning about the pure functions. -/
namespace EV
open PySem L2

section
variable {f fa fb fc : FE} {fs fr fk : FL} {ρ : Env} {i j : Int} {P Q : Prop} {d d' p q : D} {ds es : List D}
theorem Ev.var {k : Nat} (h : ρ[k]? = some (.v d)) : Ev (vVar k) ρ d := by unfold Ev vVar; rw [h]
theorem Ev.v1 {o : D → Option D} (ha : Ev fa ρ p) (h : o p = some d) : Ev (v1 o fa) ρ d := by
  unfold Ev EV.v1; rw [ha]; simp [h]
theorem Ev.add (ha : Ev fa ρ (.int i)) (hb : Ev fb ρ (.int j)) : Ev (EV.v2 addD fa fb) ρ (.int (i + j)) := .v2 ha hb rfl
theorem Ev.addT (ha : Ev fa ρ (.tup ds)) (hb : Ev fb ρ (.tup es)) (h : ds.length + es.length ≤ 100000) : Ev (EV.v2 addD fa fb) ρ (.tup (ds ++ es)) := .v2 ha hb (by simp [addD, h])
theorem Ev.addL (ha : Ev fa ρ (.lst ds)) (hb : Ev fb ρ (.lst es)) (h : ds.length + es.length ≤ 100000) : Ev (EV.v2 addD fa fb) ρ (.lst (ds ++ es)) := .v2 ha hb (by simp [addD, h])
theorem Ev.mulR (ha : Ev fa ρ (.int i)) (hb : Ev fb ρ (.int j)) (h : -18446744073709551616 < j ∧ j < 18446744073709551616) : Ev (EV.v2 mulD fa fb) ρ (.int (i * j)) := .v2 ha hb (if_pos (.inr (by omega)))
theorem Ev.mulL (ha : Ev fa ρ (.int i)) (hb : Ev fb ρ (.int j)) (h : -18446744073709551616 < i ∧ i < 18446744073709551616) : Ev (EV.v2 mulD fa fb) ρ (.int (i * j)) := .v2 ha hb (if_pos (.inl (by omega)))
theorem Ev.fdiv (ha : Ev fa ρ (.int i)) (hb : Ev fb ρ (.int j)) (h : 0 < j ∧ j < 1073741824) : Ev (EV.v2 fdivD fa fb) ρ (.int (i / j)) := .v2 ha hb (if_pos h)
theorem Ev.pow (ha : Ev fa ρ (.int i)) (hb : Ev fb ρ (.int j)) (h : 0 ≤ j ∧ j ≤ 1000000 ∧ i.natAbs < 2 ^ 64) : Ev (EV.v2 powD fa fb) ρ (.int (i ^ j.toNat)) := .v2 ha hb (if_pos h)
theorem Ev.neg (ha : Ev fa ρ (.int i)) : Ev (EV.v1 negD fa) ρ (.int (-i)) := .v1 ha rfl
theorem Ev.le (ha : Ev fa ρ (.int i)) (hb : Ev fb ρ (.int j)) : Ev (EV.v2 leD fa fb) ρ (.bl (decide (i ≤ j))) := .v2 ha hb rfl
theorem Ev.ge (ha : Ev fa ρ (.int i)) (hb : Ev fb ρ (.int j)) : Ev (EV.v2 geD fa fb) ρ (.bl (decide (j ≤ i))) := .v2 ha hb rfl
theorem Ev.eqI (ha : Ev fa ρ (.int i)) (hb : Ev fb ρ (.int j)) : Ev (EV.v2 eqD fa fb) ρ (.bl (decide (i = j))) := .v2 ha hb (by
  simp only [eqD, D.pl, D.eqv, Bool.and_self, if_true]
  congr 2)
theorem Ev.neI (ha : Ev fa ρ (.int i)) (hb : Ev fb ρ (.int j)) : Ev (EV.v2 neD fa fb) ρ (.bl (decide (i ≠ j))) := .v2 ha hb (by
  simp only [neD, D.pl, D.eqv, Bool.and_self, if_true]
  congr 2
  rw [decide_not]
  congr 1)
theorem Ev.eq (ha : Ev fa ρ p) (hb : Ev fb ρ q) (hp : D.pl 8 p = true) (hq : D.pl 8 q = true) : Ev (EV.v2 eqD fa fb) ρ (.bl (D.eqv p q)) := .v2 ha hb (by simp [eqD, hp, hq])
theorem Ev.isN (ha : Ev fa ρ p) : Ev (EV.v2 isNonD fa (vC .non)) ρ (.bl (decide (p.isNon = true))) := .v2 ha .c (by
  show some (D.bl p.isNon) = _
  cases p.isNon <;> rfl)
theorem Ev.notN (ha : Ev fa ρ p) : Ev (EV.v2 notNonD fa (vC .non)) ρ (.bl (decide (¬ p.isNon = true))) := .v2 ha .c (by
  show some (D.bl (!p.isNon)) = _
  cases p.isNon <;> rfl)
theorem Ev.notP {iP : Decidable P} (ha : Ev fa ρ (.bl (decide P))) : Ev (EV.v1 notD fa) ρ (.bl (decide (¬ P))) := .v1 ha (by
  show some (D.bl (!decide P)) = _
  rw [decide_not])
theorem Ev.andP {iP : Decidable P} {iQ : Decidable Q} (ha : Ev fa ρ (.bl (decide P))) (hb : P → Ev fb ρ (.bl (decide Q))) : Ev (vAnd fa fb) ρ (.bl (decide (P ∧ Q))) := by
  by_cases h : P
  · have hb := hb h
    unfold Ev vAnd
    rw [ha, decide_eq_true h]
    show fb ρ = _
    rw [hb]
    simp [h]
  · unfold Ev vAnd
    rw [ha]
    simp [h]
theorem Ev.orP {iP : Decidable P} {iQ : Decidable Q} (ha : Ev fa ρ (.bl (decide P))) (hb : ¬ P → Ev fb ρ (.bl (decide Q))) : Ev (vOr fa fb) ρ (.bl (decide (P ∨ Q))) := by
  by_cases h : P
  · unfold Ev vOr
    rw [ha]
    simp [h]
  · have hb := hb h
    unfold Ev vOr
    rw [ha, decide_eq_false h]
    show fb ρ = _
    rw [hb]
    simp [h]
theorem Ev.ifP {iP : Decidable P} (hc : Ev fc ρ (.bl (decide P))) (ha : P → Ev fa ρ d) (hb : ¬ P → Ev fb ρ d') : Ev (vIf fc fa fb) ρ (if P then d else d') := by
  by_cases h : P
  · unfold Ev vIf
    rw [hc]
    simp only [h, decide_true, if_true]
    exact ha h
  · unfold Ev vIf
    rw [hc]
    simp only [h, decide_false, if_false]
    exact hb h
theorem atI_nn {α : Type} {xs : List α} {x : α} (h0 : 0 ≤ i) (h : xs[i.toNat]? = some x) : atI xs i = some x := by
  have hl := (List.getElem?_eq_some_iff.mp h).1
  unfold atI
  have e : ixN xs.length i = some i.toNat := by
    unfold ixN
    simp only [h0, if_true]
    rw [if_pos (by omega)]
  rw [e]
  exact h
theorem Ev.ixL (ha : Ev fa ρ (.lst ds)) (hb : Ev fb ρ (.int i)) (h0 : 0 ≤ i) (h : ds[i.toNat]? = some d) : Ev (EV.v2 ixD fa fb) ρ d := .v2 ha hb (atI_nn h0 h)
theorem Ev.ixT (ha : Ev fa ρ (.tup ds)) (hb : Ev fb ρ (.int i)) (h0 : 0 ≤ i) (h : ds[i.toNat]? = some d) : Ev (EV.v2 ixD fa fb) ρ d := .v2 ha hb (atI_nn h0 h)
theorem Ev.ixS {ns : List Int} {z : Int} (ha : Ev fa ρ (.scr ns)) (hb : Ev fb ρ (.int i)) (h0 : 0 ≤ i) (h : ns[i.toNat]? = some z) : Ev (EV.v2 ixD fa fb) ρ (.int z) := .v2 ha hb (by
  show (atI ns i).map D.int = _
  rw [atI_nn h0 h]
  rfl)
theorem Ev.in_ (ha : Ev fa ρ p) (hb : Ev fb ρ q) (h : q = .lst ds ∨ q = .tup ds) (hp : D.pl 8 p = true) (hq : D.pls 8 ds = true) : Ev (EV.v2 inD fa fb) ρ (.bl (ds.any fun z => D.eqv z p)) := .v2 ha hb (by
  rcases h with rfl | rfl <;> simp [inD, hp, hq])
theorem Ev.vL (h : EvL fs ρ ds) : Ev (vL fs) ρ (.lst ds) := by
  unfold Ev EV.vL; rw [h]; rfl
theorem EvL.lenOk (h : EvL fs ρ ds) (hl : ds.length ≤ 100000) : EvL (lenOk fs) ρ ds := by
  unfold EvL EV.lenOk; rw [h]; simp [hl]
theorem Ev.int_ (ha : Ev fa ρ (.int i)) : Ev (vCall intD (aCons fa aNil)) ρ (.int i) := .call (.cons ha .nil) rfl
theorem Ev.intB {b : Bool} (ha : Ev fa ρ (.bl b)) : Ev (vCall intD (aCons fa aNil)) ρ (.int (if b then 1 else 0)) := .call (.cons ha .nil) rfl
theorem Ev.lenL (ha : Ev fa ρ (.lst ds)) : Ev (vCall lenD (aCons fa aNil)) ρ (.int ds.length) := .call (.cons ha .nil) rfl
theorem Ev.lenT (ha : Ev fa ρ (.tup ds)) : Ev (vCall lenD (aCons fa aNil)) ρ (.int ds.length) := .call (.cons ha .nil) rfl
theorem Ev.lenS {ns : List Int} (ha : Ev fa ρ (.scr ns)) : Ev (vCall lenD (aCons fa aNil)) ρ (.int ns.length) := .call (.cons ha .nil) rfl
theorem Ev.min_ (ha : Ev fa ρ (.int i)) (hb : Ev fb ρ (.int j)) : Ev (vCall minD (aCons fa (aCons fb aNil))) ρ (.int (min i j)) := .call (.cons ha (.cons hb .nil)) (by
  show some (D.int (if j < i then j else i)) = _
  congr 2
  split <;> omega)
theorem Ev.max_ (ha : Ev fa ρ (.int i)) (hb : Ev fb ρ (.int j)) : Ev (vCall maxD (aCons fa (aCons fb aNil))) ρ (.int (max i j)) := .call (.cons ha (.cons hb .nil)) (by
  show some (D.int (if j > i then j else i)) = _
  congr 2
  split <;> omega)
theorem Ev.abs_ (ha : Ev fa ρ (.int i)) : Ev (vCall absD (aCons fa aNil)) ρ (.int (if i < 0 then -i else i)) := .call (.cons ha .nil) rfl
theorem Ev.tupleL (ha : Ev fa ρ (.lst ds)) : Ev (vCall tupleD (aCons fa aNil)) ρ (.tup ds) := .call (.cons ha .nil) rfl
theorem Ev.tupleT (ha : Ev fa ρ (.tup ds)) : Ev (vCall tupleD (aCons fa aNil)) ρ (.tup ds) := .call (.cons ha .nil) rfl
theorem EvL.listL (ha : Ev fa ρ (.lst ds)) : EvL (nCall listD (aCons fa aNil)) ρ ds := .call (.cons ha .nil) rfl
theorem EvL.listT (ha : Ev fa ρ (.tup ds)) : EvL (nCall listD (aCons fa aNil)) ρ ds := .call (.cons ha .nil) rfl
theorem Ev.callP {n m : Nat} {perm : List Nat} {sem : List D → Option R} {dds : List D} (h : EvL fs ρ ds) (hk : EvL fk ρ es) (hl : ds.length = n ∧ es.length = m) (e : sem (pick perm (ds ++ es ++ dds)) = some (.ok d)) : Ev (vCallP n m perm sem dds fs fk) ρ d := by
  unfold Ev vCallP; rw [h, hk]; simp only [RL1, hl, and_self, if_true]; exact e
theorem EvL.callP {n m : Nat} {perm : List Nat} {sem : List D → Option RL} {dds xs : List D} (h : EvL fs ρ ds) (hk : EvL fk ρ es) (hl : ds.length = n ∧ es.length = m) (e : sem (pick perm (ds ++ es ++ dds)) = some (.ok xs)) : EvL (nCallP n m perm sem dds fs fk) ρ xs := by
  unfold EvL nCallP; rw [h, hk]; simp only [RLL, hl, and_self, if_true]; exact e
theorem EvL.rep (ha : Ev fa ρ (.lst ds)) (hb : Ev fb ρ (.int i)) (h0 : 0 ≤ i ∧ i < 1000000 ∧ ds.length * i.toNat ≤ 100000) : EvL (nRep fa fb) ρ (List.replicate i.toNat ds).flatten := by
  unfold EvL nRep; rw [ha, hb]
  simp only [R1L]
  rw [if_pos (by omega)]
theorem EvL.add (ha : Ev fa ρ (.lst ds)) (hb : Ev fb ρ (.lst es)) (h : ds.length + es.length ≤ 100000) : EvL (nAdd fa fb) ρ (ds ++ es) := by
  unfold EvL nAdd; rw [ha, hb]
  simp only [R1L]
  rw [if_pos h]
/-! what is walked -/
theorem EvL.seqL (h : Ev f ρ (.lst ds)) : EvL (iSeq f) ρ ds := by unfold EvL iSeq; rw [h]; rfl
theorem EvL.seqS {ns : List Int} (h : Ev f ρ (.scr ns)) : EvL (iSeq f) ρ (ns.map D.int) := by unfold EvL iSeq; rw [h]; rfl
theorem EvL.range1 (h : Ev f ρ (.int j)) (hb : -4611686018427387904 ≤ j ∧ j < 4611686018427387904) : EvL (iRange1 f) ρ (rangeD 0 j.toNat) := by
  unfold EvL iRange1; rw [h]
  simp only [R1L]
  rw [if_pos (by omega)]
theorem EvL.enumL (h : Ev f ρ (.lst ds)) : EvL (iEnum f) ρ (enumFrom 0 ds) := by unfold EvL iEnum; rw [h]; rfl
theorem EvL.enumT (h : Ev f ρ (.tup ds)) : EvL (iEnum f) ρ (enumFrom 0 ds) := by unfold EvL iEnum; rw [h]; rfl
end

section
variable {g g1 g2 : FS} {f fa fb fc fkx : FE} {fl : FL} {ρ ρ' : Env} {Q : Out → Prop} {d : D} {ds : List D} {i : Nat} {P : Prop}
theorem Run.cut (M : Env → Prop) (h1 : Run g1 ρ fun o => ∃ ρ', o = .nx ρ' ∧ M ρ') (h2 : ∀ ρ', M ρ' → Run g2 ρ' Q) : Run (gSeq g1 g2) ρ Q := by
  obtain ⟨o, e, ρ', rfl, m⟩ := h1
  exact Run.seq ⟨_, e, h2 ρ' m⟩
theorem Run.setA (e : Ev f (thaw ρ) d) (p : d.pure = true) (h : Q (.nx (ρ.set i (.v d)))) : Run (gSetA i f) ρ Q := ⟨_, by unfold gSetA; rw [e]; simp only [RA, p, if_true], h⟩
theorem Run.ownA (e : EvL fl (thaw ρ) ds) (p : D.pures ds = true) (hi : i < ρ.length) (h : Q (.nx (ρ.set i (.own ds)))) : Run (gOwnA i fl) ρ Q := ⟨_, by unfold gOwnA; rw [e]; simp only [RAL, p, EV.setOwn, hi, if_true], h⟩
theorem Run.rel (h : Run g (EV.rel i ρ) Q) : Run (gRel i g) ρ Q := h
def Rels (i : Nat) (Q : Out → Prop) : Out → Prop
  | .nx ρ => Q (.nx (EV.rel i ρ))
  | o => Q o
theorem Run.thenRel (h : Run g ρ (Rels i Q)) : Run (gThenRel i g) ρ Q := by
  obtain ⟨o, e, q⟩ := h
  cases o with
  | nx ρ' => exact ⟨_, by unfold gThenRel; rw [e], q⟩
  | rt d => exact ⟨_, by unfold gThenRel; rw [e], q⟩
  | bk d => exact ⟨_, by unfold gThenRel; rw [e], q⟩
  | ct d => exact ⟨_, by unfold gThenRel; rw [e], q⟩
  | rs d _ => exact ⟨_, by unfold gThenRel; rw [e], q⟩
  | rl d => exact ⟨_, by unfold gThenRel; rw [e], q⟩
theorem Run.ifP {iP : Decidable P} (e : Ev fc ρ (.bl (decide P))) (h1 : P → Run g1 ρ Q) (h2 : ¬ P → Run g2 ρ Q) : Run (gIf fc g1 g2) ρ Q := by
  by_cases h : P
  · obtain ⟨o, e1, q⟩ := h1 h
    exact ⟨o, by unfold gIf; rw [e]; simp only [RS, h, decide_true]; exact e1, q⟩
  · obtain ⟨o, e1, q⟩ := h2 h
    exact ⟨o, by unfold gIf; rw [e]; simp only [RS, h, decide_false]; exact e1, q⟩
theorem Run.ifAP {iP : Decidable P} (e : Ev fc (thaw ρ) (.bl (decide P))) (h1 : P → Run g1 ρ Q) (h2 : ¬ P → Run g2 ρ Q) : Run (gIfA fc g1 g2) ρ Q := by
  by_cases h : P
  · obtain ⟨o, e1, q⟩ := h1 h
    exact ⟨o, by unfold gIfA; rw [e]; simp only [RA, D.pure, if_true, h, decide_true]; exact e1, q⟩
  · obtain ⟨o, e1, q⟩ := h2 h
    exact ⟨o, by unfold gIfA; rw [e]; simp only [RA, D.pure, if_true, h, decide_false]; exact e1, q⟩
theorem Run.app {xs : List D} (ho : ρ[i]? = some (.own xs)) (e : Ev f ρ d) (hl : xs.length < 100000) (h : Q (.nx (ρ.set i (.own (xs ++ [d]))))) : Run (gAppO i (gApp i f)) ρ Q :=
  ⟨_, by unfold gAppO gApp; rw [ho]; simp only []; rw [e]; simp only [RS, appK, ho, hl, if_true], h⟩
theorem ixN_nn {n : Nat} {k : Int} (h0 : 0 ≤ k) (h : k < n) : ixN n k = some k.toNat := by
  unfold ixN
  simp only [h0, if_true]
  rw [if_pos (by omega)]
theorem Run.setIxA {xs : List D} {k : Int} (ho : ρ[i]? = some (.own xs)) (e : Ev f (thaw ρ) d) (p : d.pure = true) (ek : Ev fkx (thaw ρ) (.int k)) (h0 : 0 ≤ k) (hl : k < xs.length) (h : Q (.nx (ρ.set i (.own (xs.set k.toNat d))))) : Run (gSetIxA i fkx f) ρ Q :=
  ⟨_, by unfold gSetIxA; rw [e]; simp only [RA, p, if_true, setK, ho]; rw [ek]; simp only [ixN_nn h0 hl], h⟩
theorem Run.fld {ci k : Nat} {xs : List D} (ho : ρ[i]? = some (.ins ci xs)) (hk : xs.length = k) (e : Ev f ρ d) (h : Q (.nx (ρ.set i (.ins ci (xs ++ [d]))))) : Run (gFld i ci k f) ρ Q :=
  ⟨_, by unfold gFld; rw [e]; simp only [RS, fldK, ho, hk, and_self, if_true], h⟩
theorem Run.sset (e : Ev f ρ d) (h : Run g2 (ρ.set i (.v d)) Q) : Run (gSeq (gSet i f) g2) ρ Q := .seq (.set e h)
theorem Run.sown (e : EvL fl ρ ds) (hi : i < ρ.length) (h : Run g2 (ρ.set i (.own ds)) Q) : Run (gSeq (gOwn i fl) g2) ρ Q := .seq (.own e hi h)
theorem Run.sownA (e : EvL fl (thaw ρ) ds) (p : D.pures ds = true) (hi : i < ρ.length) (h : Run g2 (ρ.set i (.own ds)) Q) : Run (gSeq (gOwnA i fl) g2) ρ Q := .seq (.ownA e p hi h)
theorem Run.srel (h : Run (gSeq g1 g2) (EV.rel i ρ) Q) : Run (gSeq (gRel i g1) g2) ρ Q := h
theorem Run.sdrop (e : Ev f ρ d) (h : Run g2 ρ Q) : Run (gSeq (gDrop f) g2) ρ Q := .seq (.drop e h)
theorem Run.sapp {xs : List D} (ho : ρ[i]? = some (.own xs)) (e : Ev f ρ d) (hl : xs.length < 100000) (h : Run g2 (ρ.set i (.own (xs ++ [d]))) Q) : Run (gSeq (gAppO i (gApp i f)) g2) ρ Q := .seq (.app ho e hl h)
theorem Run.sfld {ci k : Nat} {xs : List D} (ho : ρ[i]? = some (.ins ci xs)) (hk : xs.length = k) (e : Ev f ρ d) (h : Run g2 (ρ.set i (.ins ci (xs ++ [d]))) Q) : Run (gSeq (gFld i ci k f) g2) ρ Q := .seq (.fld ho hk e h)
end
theorem item_yes {fg : FG} {fe : FE} {ρ ρ1 : Env} {d v : D} (eg : fg d (mask ρ) = some ρ1) (ev : Ev fe ρ1 v) : itemF fg vYes fe ρ d = some (some v) := by
  unfold itemF vYes
  rw [eg]
  simp only []
  rw [ev]
theorem item_if {fg : FG} {ft fe : FE} {ρ ρ1 : Env} {d v : D} {P : Prop} {iP : Decidable P} (eg : fg d (mask ρ) = some ρ1) (et : Ev ft ρ1 (.bl (decide P))) (ev : P → Ev fe ρ1 v) : itemF fg ft fe ρ d = some (if P then some v else none) := by
  unfold itemF
  rw [eg]
  simp only []
  rw [et]
  by_cases h : P
  · simp only [h, decide_true, if_true]
    rw [ev h]
  · simp only [h, decide_false, if_false]
/-! ### defs -/
def Ret (P : D → Prop) : Out → Prop
  | .rt d => P d
  | .nx _ => P .non
  | .rl xs => P (.lst xs)
  | _ => False
theorem sem_ret {n : Nat} {g : FS} {ds : List D} {P : D → Prop} (h : Run g (ds.map Sl.v ++ List.replicate (n - ds.length) Sl.no) (Ret P)) : ∃ d, semF n g ds = some (.ok d) ∧ P d := by
  obtain ⟨o, e, q⟩ := h
  unfold semF
  rw [e]
  cases o with
  | rt d => exact ⟨d, rfl, q⟩
  | nx ρ => exact ⟨_, rfl, q⟩
  | rl xs => exact ⟨_, rfl, q⟩
  | _ => exact q.elim
theorem rangeD_get {lo : Int} {n k : Nat} {d : D} (h : (rangeD lo n)[k]? = some d) : d = .int (lo + (k : Nat)) ∧ k < n := by
  unfold rangeD at h
  rw [List.getElem?_map] at h
  obtain ⟨x, e, rfl⟩ := Option.map_eq_some_iff.mp h
  have := (List.getElem?_eq_some_iff.mp e)
  obtain ⟨hl, hx⟩ := this
  rw [List.length_range] at hl
  rw [List.getElem_range] at hx
  subst hx
  exact ⟨rfl, hl⟩
theorem at_get {α : Type} [Inhabited α] {xs : List α} {i : Int} (h0 : 0 ≤ i) (h : i < xs.length) : xs[i.toNat]? = some (at_ xs i) := by
  unfold at_
  rw [List.getD_eq_getElem?_getD]
  have : i.toNat < xs.length := by omega
  rw [List.getElem?_eq_getElem this]
  rfl
theorem at_mem {α : Type} [Inhabited α] {xs : List α} {i : Int} (h0 : 0 ≤ i) (h : i < xs.length) : at_ xs i ∈ xs := List.mem_of_getElem? (at_get h0 h)
theorem Ev.ixM {fa fb : FE} {ρ : Env} {i : Int} {α : Type} [Inhabited α] {A : α → D} {xs : List α} (ha : Ev fa ρ (.lst (xs.map A))) (hb : Ev fb ρ (.int i)) (h0 : 0 ≤ i) (h : i < xs.length) : Ev (EV.v2 ixD fa fb) ρ (A (at_ xs i)) :=
  .ixL ha hb h0 (by rw [List.getElem?_map, at_get h0 h]; rfl)
theorem Ev.ixMT {fa fb : FE} {ρ : Env} {i : Int} {α : Type} [Inhabited α] {A : α → D} {xs : List α} (ha : Ev fa ρ (.tup (xs.map A))) (hb : Ev fb ρ (.int i)) (h0 : 0 ≤ i) (h : i < xs.length) : Ev (EV.v2 ixD fa fb) ρ (A (at_ xs i)) :=
  .ixT ha hb h0 (by rw [List.getElem?_map, at_get h0 h]; rfl)
theorem range0_get {n k : Nat} {d : D} (h : (rangeD 0 n)[k]? = some d) : d = .int (k : Nat) ∧ k < n := by
  obtain ⟨e, hl⟩ := rangeD_get h
  exact ⟨by rw [e, Int.zero_add], hl⟩
theorem tbl_get {tb : List D} (P : Int → Bool) (h : tb.all (fun d => match d with | .int m => P m | _ => false) = true) {i : Int} (hl : i.toNat < tb.length) : ∃ m, tb[i.toNat]? = some (.int m) ∧ P m = true := by
  have hm : tb[i.toNat] ∈ tb := List.getElem_mem hl
  have q := List.all_eq_true.mp h _ hm
  rw [List.getElem?_eq_getElem hl]
  generalize tb[i.toNat] = d at q
  cases d with
  | int m => exact ⟨m, rfl, q⟩
  | _ => cases q
end EV
end

section
set_option maxHeartbeats 4000000
/-! EV15: zip of two and three lists or tuples. -/
namespace EV
open PySem L2

def Itz2 (K : PySem.W.Frag) (k1 k2 : Bool) (a b : Addr) : It :=
  ⟨fun i H => ∃ (xs ys : List V) (x y : V), SqK K k1 H a xs ∧ SqK K k2 H b ys ∧ xs[i]? = some x ∧ ys[i]? = some y,
    fun i H v H' => ∃ T x y, v = .ref T ∧ H T = none ∧ H' = L2.upd H T (.tup [x, y]) ∧ (∀ xs, SqK K k1 H a xs → xs[i]? = some x) ∧ ∀ ys, SqK K k2 H b ys → ys[i]? = some y,
    fun i H => ∃ xs ys : List V, SqK K k1 H a xs ∧ SqK K k2 H b ys ∧ i ≤ xs.length ∧ i ≤ ys.length ∧ (i = xs.length ∨ i = ys.length)⟩
theorem turn_z2 {P : Program} {w : World} {K : PySem.W.Frag} {elts : List Expr} {kk : Nat} {tpos : Pos} {k1 k2 : Bool} {a b z TI TO i1 i2 : Addr} (D : ZipSep2 z TI TO i1 i2 [i1, a] [i2, b]) :
    Turn P w K (.Tuple elts kk tpos) (Itz2 K k1 k2 a b) [z, TI, TO, i1, i2] z (fun i h => IsZip h z TI TO .none ∧ IsTupOf2 h TI (.ref i1) (.ref i2) ∧ (∃ x y, IsTupOf2 h TO x y) ∧ stK k1 i1 a i h ∧ stK k2 i2 b i h) where
  mem := by simp
  obj := fun i h st c hc => by
    obtain ⟨hz, hTI, ⟨x, y, hTO⟩, h1, h2⟩ := st
    have e' : c = z ∨ c = TI ∨ c = TO ∨ c = i1 ∨ c = i2 := by simpa using hc
    rcases e' with q | q | q | q | q
    · rw [q]; exact ⟨_, hz, fun v q => nomatch q⟩
    · rw [q]; exact ⟨_, hTI, fun v q => nomatch q⟩
    · rw [q]; exact ⟨_, hTO, fun v q => nomatch q⟩
    · rw [q]; exact stK_live h1
    · rw [q]; exact stK_live h2
  keep := fun i h h' st k => by
    obtain ⟨hz, hTI, ⟨x, y, hTO⟩, h1, h2⟩ := st
    exact ⟨k z (by simp) _ hz, k TI (by simp) _ hTI, ⟨x, y, k TO (by simp) _ hTO⟩, stK_at h1 fun o q => k i1 (by simp) o q, stK_at h2 fun o q => k i2 (by simp) o q⟩
  item := by
    intro X hP hw hK hc i pins s σ H E I hf st hg
    subst hP hw hK
    obtain ⟨hz, hTI, ⟨x0, y0, hTO⟩, h1, h2⟩ := st
    obtain ⟨xs, ys, x, y, hqx, hqy, hx, hy⟩ := hg
    obtain ⟨its, rv, p⟩ := sqK_get I hqx
    obtain ⟨its2, rv2, p2⟩ := sqK_get I hqy
    obtain ⟨u, hu, ru⟩ := rv.get hx
    obtain ⟨u2, hu2, ru2⟩ := rv2.get hy
    have hzl : z < s.heap.objs.size := Heap.lt_size hz
    have l1 : i < its.toArray.size := by simpa using (List.getElem?_eq_some_iff.mp hu).1
    have l2 : i < its2.toArray.size := by simpa using (List.getElem?_eq_some_iff.mp hu2).1
    refine wpAny_pyNext_zipD2_item D (drawsK (A := X.A.in1) (I.ok.hd hc) i1 a (stK_ne h1 p) its.toArray k1) (drawsK (A := X.A.in1) (I.ok.hd hc) i2 b (stK_ne h2 p2) its2.toArray k2) hz hTI hTO ⟨h1, p⟩ ⟨h2, p2⟩ l1 l2 fun v1 v2 h' tk q1 q2 z' TO' h1' h2' hT hsz hk => ?_
    have ev : v1 = u := by
      have e1 : its.toArray[i]? = some u := by simpa using hu
      rw [e1] at q1
      exact (Option.some.inj q1).symm
    have ev2 : v2 = u2 := by
      have e1 : its2.toArray[i]? = some u2 := by simpa using hu2
      rw [e1] at q2
      exact (Option.some.inj q2).symm
    subst ev ev2
    refine ⟨_, rfl, wpAny_letOwnedTupleGo_zip (s := { s with heap := h', toks := tk }) z' fun h'' z'' sb => ?_⟩
    have hT2 : h''.get? s.heap.objs.size = some { cls := .type "tuple", data := .seq #[v1, v2] } := (sb.2 _ (Nat.ne_of_gt hzl)).trans hT
    have new : ObjOk X.prog X.w (L2.upd H s.heap.objs.size (.tup [x, y])) h'' s.heap.objs.size (.tup [x, y]) :=
      ⟨by show 2 ≤ sizeLine; decide, [v1, v2], .cons ru (.cons ru2 .nil), ⟨_, hT2, rfl, _, rfl⟩⟩
    have I1 : Inv X pins σ (L2.upd H s.heap.objs.size (.tup [x, y])) { s with heap := h'', toks := tk } :=
      I.turnedNew (ch := [z, TI, TO, i1, i2]) (fun c o hb q => (sb.2 c (fun q' => hb (by simp [q']))).trans (hk c o (fun q' => hb (by simp [q'])) (fun q' => hb (by simp [q'])) (fun q' => hb (by simp [q'])) (fun q' => hb (by simp [q'])) q)) hf (Nat.le_refl _) new
    refine ⟨.ref s.heap.objs.size, _, I1, rfl, ⟨_, x, y, rfl, I.hok.fresh (Nat.le_refl _), rfl, fun l hl => by rw [sqK_inj I hl hqx]; exact hx, fun l hl => by rw [sqK_inj I hl hqy]; exact hy⟩, ⟨z'', ?_, ⟨v1, v2, ?_⟩, ?_, ?_⟩, fun c hcm => ?_⟩
    · exact (sb.2 _ D.TIz).trans (hk _ _ D.TIz D.TITO D.TIi1 D.TIi2 hTI)
    · exact (sb.2 _ D.TOz).trans TO'
    · exact stK_at h1'.1 fun o q => (sb.2 _ (Ne.symm D.zi1)).trans q
    · exact stK_at h2'.1 fun o q => (sb.2 _ (Ne.symm D.zi2)).trans q
    · have hlt : c < s.heap.objs.size := by
        have e' : c = z ∨ c = TI ∨ c = TO ∨ c = i1 ∨ c = i2 := by simpa using hcm
        rcases e' with q | q | q | q | q
        · rw [q]; exact hzl
        · rw [q]; exact Heap.lt_size hTI
        · rw [q]; exact Heap.lt_size hTO
        · rw [q]; obtain ⟨_, e1, _⟩ := stK_live h1; exact Heap.lt_size e1
        · rw [q]; obtain ⟨_, e2, _⟩ := stK_live h2; exact Heap.lt_size e2
      rw [upd_ne (Nat.ne_of_lt hlt)]
      exact (hf c hcm).1
  done := by
    intro X hP hw hK hc i pins s σ H E I hf st hg
    subst hP hw hK
    obtain ⟨hz, hTI, ⟨x0, y0, hTO⟩, h1, h2⟩ := st
    obtain ⟨xs, ys, hqx, hqy, e1, e2, hend⟩ := hg
    obtain ⟨its, rv, p⟩ := sqK_get I hqx
    obtain ⟨its2, rv2, p2⟩ := sqK_get I hqy
    have l1 : its.toArray.size = xs.length := by simpa using rv.length.symm
    have l2 : its2.toArray.size = ys.length := by simpa using rv2.length.symm
    exact wpAny_pyNext_zipD2_end D (drawsK (A := X.A.in1) (I.ok.hd hc) i1 a (stK_ne h1 p) its.toArray k1) (drawsK (A := X.A.in1) (I.ok.hd hc) i2 b (stK_ne h2 p2) its2.toArray k2) hz hTI hTO ⟨h1, p⟩ ⟨h2, p2⟩ (by omega) (by omega) (by omega) fun h' tk hk => ⟨rfl, I.turnedL (ch := [z, TI, TO, i1, i2]) (fun c o hb q =>
      hk c o (fun q' => hb (by simp [q'])) (fun q' => hb (by simp [q'])) (fun q' => hb (by simp [q'])) (fun q' => hb (by simp [q'])) q) hf⟩
  self := fun A i s Q E st h => wpAny_pyIter_zip st.1 h

section
variable {X : Cx} {T : Tab} {W : WX} {e e2 e3 : Expr} {fa fb fc : FE} {p pos tpos : Pos} {elts : List Expr} {kk : Nat}
def iZ2 (K : PySem.W.Frag) (ta : TA) : TI := fun σ H R => ta σ H fun vs H1 => ∃ a b xs ys k1 k2, vs = [.ref a, .ref b] ∧ SqK K k1 H1 a xs ∧ SqK K k2 H1 b ys ∧ R (Itz2 K k1 k2 a b) H1
theorem nin2 {x a b : Addr} (h1 : x ≠ a) (h2 : x ≠ b) : x ∉ [a, b] := by
  simp only [List.mem_cons, List.not_mem_nil, or_false, not_or]
  exact ⟨h1, h2⟩
theorem sep2_of (n a b : Nat) (ha : a < n) (hb : b < n) : ZipSep2 (n + 4) (n + 2) (n + 3) n (n + 1) [n, a] [n + 1, b] := by
  constructor <;> first | exact Nat.ne_of_gt (by omega) | exact Nat.ne_of_lt (by omega) | exact List.mem_cons_self | exact nin2 (by first | exact Nat.ne_of_gt (by omega) | exact Nat.ne_of_lt (by omega)) (by first | exact Nat.ne_of_gt (by omega) | exact Nat.ne_of_lt (by omega))
theorem isK_lt {h : Heap} {b : Addr} {its : Array Value} : ∀ {k : Bool}, IsK k h b its → b < h.objs.size
  | true, ⟨u, e', _⟩ => Heap.lt_size e'
  | false, ⟨u, e', _⟩ => Heap.lt_size e'
theorem pi_z2 {ta : TA} (hg : Gl X "zip") (hm : X.mg "zip" = none) (ha : PA X [e, e2] ta)
    (hs : starEach [e, e2] X.env = (false, eval e X.env) :: starEach [e2] X.env := by rfl) (hpl : (backTo pos (starEach [e2] X.env)).any (·.1) = false := by rfl) :
    PI X (.Tuple elts kk tpos) (.Call (.Name "zip" p) [e, e2] [] pos) (iZ2 X.K ta) := by
  refine ⟨fun pins s σ H R I h => ?_⟩
  refine PyProof.Rows.Call_ (ld_blt I hg hm PyProof.Rows.boot_zip (PyProof.Rows.callWith_type1 (thn (ha.run pos pins s σ H _ I h) fun us s1 ⟨vs, H1, I1, r1, q1⟩ => ?_) hs hpl))
  obtain ⟨a, b, xs, ys, k1, k2, rfl, hqx, hqy, q⟩ := q1
  cases r1 with
  | cons r rr =>
    cases rr with
    | cons r' rr =>
      cases rr
      cases r
      cases r'
      obtain ⟨its, rv, p1⟩ := sqK_get I1 hqx
      obtain ⟨its2, rv2, p2⟩ := sqK_get I1 hqy
      have la := isK_lt p1
      have lb := isK_lt p2
      refine zip_begins2 (beginsK k1 a its.toArray) (beginsK k2 b its2.toArray) p1 p2 fun h' hz hTI hTO h1 h2 hsz hk => wpAny_pyIter_zip hz ?_
      have I2 : Inv X pins σ H1 { s1 with heap := h' } := I1.kept (t' := s1.toks) hk
      have D := sep2_of s1.heap.objs.size a b la lb
      refine ⟨s1.heap.objs.size + 4, [s1.heap.objs.size + 4, s1.heap.objs.size + 2, s1.heap.objs.size + 3, s1.heap.objs.size, s1.heap.objs.size + 1], _, _, H1, rfl, I2, turn_z2 D, ⟨hz, hTI, ⟨_, _, hTO⟩, itO_st h1, itO_st h2⟩, fun c hcm => ?_, q⟩
      have e' : c = s1.heap.objs.size + 4 ∨ c = s1.heap.objs.size + 2 ∨ c = s1.heap.objs.size + 3 ∨ c = s1.heap.objs.size ∨ c = s1.heap.objs.size + 1 := by simpa using hcm
      have hle : s1.heap.objs.size ≤ c := by
        rcases e' with z | z | z | z | z <;> rw [z] <;> omega
      exact I1.fpOk hle (I1.hok.fresh hle)
theorem sqK_of {H : Hp} {v : V} {d : D} {ds : List D} (h : Is T H v d) (e : seqD d = some ds) : ∃ a vs k, v = .ref a ∧ SqK T.K k H a vs ∧ Iss T H vs ds := by
  unfold seqD at e
  split at e <;> cases e
  · cases h with
    | lst h hs => exact ⟨_, _, false, rfl, SqL.of h, hs⟩
  · cases h with
    | tup h hs => exact ⟨_, _, true, rfl, h, hs⟩
  · cases h with
    | scr h l => exact ⟨_, _, false, rfl, h, Iss.ints _⟩
def zipW2 : List D → List D → List D
  | x :: xs, y :: ys => .tup [x, y] :: zipW2 xs ys
  | _, _ => []
theorem zipW2_length : ∀ xs ys : List D, (zipW2 xs ys).length = min xs.length ys.length
  | [], _ => by simp [zipW2]
  | _ :: _, [] => by simp [zipW2]
  | x :: xs, y :: ys => by simp only [zipW2, List.length_cons, zipW2_length xs ys]; omega
theorem zipW2_get : ∀ (xs ys : List D) (i : Nat) (x y : D), xs[i]? = some x → ys[i]? = some y → (zipW2 xs ys)[i]? = some (.tup [x, y])
  | [], _, _, _, _, h, _ => by simp at h
  | _ :: _, [], _, _, _, _, h => by simp at h
  | x :: xs, y :: ys, 0, _, _, h, h' => by simp at h h'; subst h h'; rfl
  | x :: xs, y :: ys, i + 1, a, b, h, h' => by
    simp only [zipW2, List.getElem?_cons_succ]
    exact zipW2_get xs ys i a b (by simpa using h) (by simpa using h')
theorem iw_z2 {K : PySem.W.Frag} (hK : K = T.K) {k1 k2 : Bool} {a b : Addr} {vs us : List V} {ds es : List D} {S1 : Hp} (h : SqK K k1 S1 a vs) (hs : Iss T S1 vs ds) (h' : SqK K k2 S1 b us) (hs' : Iss T S1 us es) : IW T (Itz2 K k1 k2 a b) S1 (zipW2 ds es) := by
  refine ⟨fun i S H s sh hi => ?_, fun S H s sh => ?_, fun i S H x H' s sh hi y => ?_⟩
  · rw [zipW2_length, ← hs.length, ← hs'.length] at hi
    exact ⟨vs, us, vs[i]'(by omega), us[i]'(by omega), sqK_same sh.same (sqK_same s h), sqK_same sh.same (sqK_same s h'), List.getElem?_eq_getElem (by omega), List.getElem?_eq_getElem (by omega)⟩
  · refine ⟨vs, us, sqK_same sh.same (sqK_same s h), sqK_same sh.same (sqK_same s h'), ?_⟩
    rw [zipW2_length, ← hs.length, ← hs'.length]
    omega
  · obtain ⟨Tn, x', y', rfl, hn, rfl, hx, hy⟩ := y
    obtain ⟨d, h1, h2⟩ := hs.get (hx vs (sqK_same sh.same (sqK_same s h)))
    obtain ⟨d', h1', h2'⟩ := hs'.get (hy us (sqK_same sh.same (sqK_same s h')))
    have kp := Kp.new (o := .tup [x', y']) sh hn
    exact ⟨.tup [d, d'], _, zipW2_get ds es i d d' h1 h1', kp, .tup (SqT.of upd_same) (.cons ((h2.mono s).mono kp.s) (.cons ((h2'.mono s).mono kp.s) .nil))⟩
def iZip2 (fa fb : FE) : FL := fun ρ => R1L (fa ρ) fun d => R1L (fb ρ) fun d2 => (seqD d).bind fun xs => (seqD d2).map fun ys => RL.ok (zipW2 xs ys)
theorem ei_zip2 (hm : X.mg "zip" = none) (ha : EE X T W e fa) (hb : EE X T W e2 fb) (hK : X.K = T.K := by rfl) (hg : Gl X "zip" := by rfl)
    (hs : starEach [e, e2] X.env = (false, eval e X.env) :: starEach [e2] X.env := by rfl) (hs4 : starEach [e2] X.env = (false, eval e2 X.env) :: starEach [] X.env := by rfl) (hpl : (backTo pos (starEach [e2] X.env)).any (·.1) = false := by rfl) :
    EI X T W (.Tuple elts kk tpos) (.Call (.Name "zip" p) [e, e2] [] pos) (iZip2 fa fb) := by
  refine PI.weak (pi_z2 hg hm (pa_cons ha (pa_cons hb pa_nil hs4) hs) hs hpl) fun σ H R q => ?_
  obtain ⟨ρ, S, r, sh, rep, e, fin⟩ := q
  show tF T W fa σ H _
  refine tF_goI sh rep e fin fun d v S1 H1 k i rep1 e1 fin1 => ?_
  show tF T W fb σ H1 _
  refine tF_goI k.sub rep1 e1 fin1 fun d2 v2 S2 H2 k2 i2 rep2 e2 fin2 => ?_
  obtain ⟨ds, e3, e4⟩ := Option.bind_eq_some_iff.mp e2
  obtain ⟨es, e5, rfl⟩ := Option.map_eq_some_iff.mp e4
  obtain ⟨a, vs, q1, rfl, h1, h2⟩ := sqK_of (i.mono k2.s) e3
  obtain ⟨b, us, q2, rfl, h3, h4⟩ := sqK_of i2 e5
  rw [← hK] at h1 h3
  exact ⟨a, b, vs, us, q1, q2, rfl, sqK_same k2.sub.same h1, sqK_same k2.sub.same h3, fin2 _ S2 H2 (Kp.refl k2.sub) (iw_z2 hK h1 h2 h3 h4)⟩
end
end EV
end

section
set_option maxHeartbeats 4000000
/-! EV16: own classes: isinstance, ==, in, properties. -/
namespace EV
open PySem L2

section
variable {X : Cx} {T : Tab} {W : WX} {k n ci : Nat} {f C : Addr} {fd : FuncData} {ps : List Str} {sp : Sp} {x m : Str} {p q pos apos : Pos} {e a b o : Expr} {sem : List D → Option R} {fa fb fo : FE} {perm : List Nat}
/-! ### isinstance(x, C) -/
/-! ### a in b, b an instance -/
/-! ### e.f, a property -/
end
end EV
end

section
set_option maxHeartbeats 4000000
/-! EV17: what is looked at of own classes in the module as it stands. -/
namespace EV
open PySem L2

end EV
end

section
set_option maxHeartbeats 4000000
/-! EV18: a plain value == an instance; tuple * int. -/
namespace EV
open PySem L2
open AutoSeq1 (wpAny_loadPart')

section
variable {prog : Program} {w : World} {A : Around} {E : Value → Shared → Prop} {s : Shared} {x C dx : Addr}
end
section
variable {prog : Program} {w : World} {A : Around} {E : Value → Shared → Prop} {s : Shared} {K : PySem.W.Frag} {x C L f : Addr} {h₀ : Heap} {m : Str → Option Value} {ox : Obj} {od : Option Obj}
end
section
variable {X : Cx} {T : Tab} {W : WX} {k n ci : Nat} {f C : Addr} {fd : FuncData} {ps : List Str} {sp : Sp} {p q pos : Pos} {e a b : Expr} {sem : List D → Option R} {fa fb : FE}
end
section
variable {X : Cx} {T : Tab} {W : WX} {k n ci : Nat} {f C : Addr} {fd : FuncData} {ps : List Str} {pos : Pos} {a b : Expr} {sem : List D → Option R} {fa fb : FE}
end
end EV
end

section
set_option maxHeartbeats 4000000
/-! EV19: own errors are made and raised. -/
namespace EV
open PySem L2 PyProof.Rows

theorem takesN {X : Cx} : L2N.Takes X W0 := fun u s' x => by
  obtain ⟨_, _, _, _, _, _, _, _, _, _, _, _, _, _, _, _, w⟩ := x
  exact False.elim w

/-! ### C(e) whose __init__ keeps one field -/
section
variable {X : Cx} {T : Tab} {W : WX} {st : Stmt} {g g1 g2 : FS} {e a b c : Expr} {es : List Expr} {f fa fb fc : FE} {pos pos' : Pos}
variable {S H : Hp} {σ : L2.St} {ρ : Env} {L : Nat → Option Addr} {Dn : Ends} {o : Out} {i ci k : Nat} {x : Str} {p : Pos}

end
end EV
end

section
set_option maxHeartbeats 4000000
/-! EV20: try .. except C as e: the suite, isinstance(e, ..), e.f. -/
namespace EV
open PySem L2 PyProof.Rows

/-! ### what is looked at of own errors in the module as it stands -/
/-! ### the frame at a suite's ends -/
section
variable {T T2 : Tab} {ρ : Env} {σ : L2.St} {S H S' H' : Hp} {L : Nat → Option Addr}
/-- the tables within the suite -/
abbrev Tab.sx (T : Tab) (a : Addr) (cls : Value) (d : Option Addr) : Tab := ⟨T.B, some (a, cls, d)⟩
end

/-! ### try: body, except C as e: suite -/
section
variable {X : Cx} {T : Tab} {W : WX} {g g1 g2 : FS} {e a b c : Expr} {es : List Expr} {f fa fb fc : FE} {pos pos' np : Pos} {body suite : List Stmt} {b₀ : Stmt}
variable {S H : Hp} {σ : L2.St} {ρ : Env} {L : Nat → Option Addr} {Dn : Ends} {o : Out} {i ci k : Nat} {x n y : Str} {p q : Pos}
theorem PCl.pa {es : List Expr} {cs : List V} {us : List Value} {yss : List (List Nat)} (h : PCl X es cs us yss) : PA X es (fun _ H Q => Q cs H) := by
  induction h with
  | nil => exact PA.weak pa_nil fun σ H Q q => q
  | @own _ _ C _ _ _ _ _ hg hd hm _ hs ih => exact PA.weak (pa_cons (pe_glob (v := .ref C) hg hm rfl hd) ih hs) fun σ H Q q => q
  | @ty _ _ t _ _ _ _ _ hg hd hn hm hv _ hs ih => exact PA.weak (pa_cons (pe_bltn (v := .ty t) hg hm hv rfl hn hd) ih hs) fun σ H Q q => q
/-! ### e.f -/
end
end EV
end

section
set_option maxHeartbeats 4000000
/-! EV21: while an exception is handled: defs, calls, for over range, ==. -/
namespace EV
open PySem L2 PyProof.Rows

section
variable {P : Program} {w : World} {K : PySem.W.Frag} {mg : Str → Option Value} {base : Heap} {x qual : Str} {params : Arguments} {body : List Stmt} {scope : Scope} {dvs : List V} {kws : List (Str × V)} {f : Addr} {fd : FuncData} {N ps : List Str} {k : Nat} {T : Tab} {g : FS}
end

section
variable {X : Cx} {T : Tab} {W : WX} {st : Stmt} {g g1 g2 : FS} {e a b c : Expr} {es : List Expr} {f fa fb fc : FE} {fs : FL} {pos pos' p : Pos} {body : List Stmt}
variable {S H : Hp} {σ : L2.St} {ρ : Env} {L : Nat → Option Addr} {Dn : Ends} {o : Out} {i ci k : Nat} {x : Str} {is : List Nat} {fg : FG}
theorem PIH.weak {tg e : Expr} {t u : TI} (h : L2H.PIH X tg e t) (w : ∀ σ H Q, u σ H Q → t σ H Q) : L2H.PIH X tg e u := ⟨fun pins s σ H Q I q => h.run pins s σ H Q I (w σ H Q q)⟩
end
end EV
end

section
set_option maxHeartbeats 4000000
/-! EV22: is of truth values, a list from its end. -/
namespace EV
open PySem L2 PyProof.Rows
section
variable {X : Cx} {T : Tab} {W : WX} {e a b c : Expr} {f fa fb fc : FE} {pos p1 p2 p3 : Pos}
end
/-! ### a not in b, b an instance -/
section
variable {X : Cx} {T : Tab} {W : WX} {k ci : Nat} {f : Addr} {fd : FuncData} {ps : List Str} {sp : Sp} {C : Addr} {sem : List D → Option R} {a b : Expr} {fa fb : FE} {pos : Pos}
end
end EV
end

section
set_option maxHeartbeats 4000000
/-! EV23: truth of plain data, while over a list of the frame's own, pop, reverse, a range told by own lists. -/
namespace EV
open PySem L2 PyProof.Rows
section
variable {X : Cx} {T : Tab} {W : WX} {st : Stmt} {g g1 g2 : FS} {e a b c : Expr} {es : List Expr} {f fa fb fc : FE} {fs : FL} {pos pos' p p1 p2 p3 : Pos} {body : List Stmt}
variable {S H : Hp} {σ : L2.St} {ρ : Env} {L : Nat → Option Addr} {Dn : Ends} {o : Out} {i j ci k : Nat} {x y : Str} {is : List Nat} {fg : FG}

/-! ### truth of plain data -/
theorem Iss.isEmpty {T : TabC} {H : Hp} {vs : List V} {ds : List D} (h : Iss T H vs ds) : vs.isEmpty = ds.isEmpty := by
  cases h <;> rfl
/-! ### while xs: -/
/-! ### y = xs.pop(), y = xs.pop(k) -/
end
end EV
namespace EV
open PySem L2 PyProof.Rows
section
variable {X : Cx} {T : Tab} {W : WX} {st : Stmt} {g g1 g2 : FS} {e a b c : Expr} {es : List Expr} {f fa fb fc : FE} {fs : FL} {pos pos' p p1 p2 p3 : Pos} {body : List Stmt}
variable {S H : Hp} {σ : L2.St} {ρ : Env} {L : Nat → Option Addr} {Dn : Ends} {o : Out} {i j ci k : Nat} {x y : Str} {is : List Nat} {fg : FG}
/-! ### y = xs.pop(k), k read over all of the frame -/
/-! ### for k in range(..), the bound read over all of the frame -/
end
end EV
end

section
set_option maxHeartbeats 4000000
/-! EV24: items of an own list, read in the arguments of a call. -/
namespace EV
open PySem L2 PyProof.Rows
section
variable {X : Cx} {T : Tab} {W : WX} {e a b : Expr} {es : List Expr} {f fa fb fk : FE} {fs fr : FL} {pos p : Pos} {x : Str} {i : Nat}
variable {S H : Hp} {σ : L2.St} {ρ : Env} {L : Nat → Option Addr} {r : R}
end
section
variable {X : Cx} {T : Tab} {W : WX} {k n : Nat} {f C : Addr} {fd : FuncData} {ps ks : List Str} {sp : Sp} {x m : Str} {p pos apos : Pos} {e o : Expr} {es : List Expr} {kws : List Keyword} {dvs : List V} {dds : List D} {perm : List Nat} {sem : List D → Option R} {fs fk : FL} {fo : FE}
end
section
variable {X : Cx} {T : Tab} {W : WX} {f fk : FE} {e c : Expr} {x : Str} {p1 p2 pos : Pos} {S H : Hp} {σ : L2.St} {ρ : Env} {L : Nat → Option Addr} {Dn : Ends} {o : Out}
end
end EV
end

section
set_option maxHeartbeats 4000000
/-! EV25: dicts whose keys are tuples of ints: in, not in, new ones, d[k] = v at a new key. -/
namespace EV
open PySem L2 PyProof.Rows
/-! ### the object -/
section
variable {X : Cx} {pins : List (Addr × Obj)} {σ : L2.St} {H : Hp} {s : Shared} {a b : Addr} {k : List Int} {ks : List (List Int)} {bs : List Addr} {vs : List V} {n : Nat}
/-- a dict that was only ever given new keys: its epoch is the number of them -/
def DictE {P : Program} {w : World} {K : Type} [DecidableEq K] (knd : HeapKind P w K) (h : Heap) (d : Addr) (xs : List (K × Addr × Value)) : Prop :=
  ∃ o es ep, h.get? d = some o ∧ o.ExactDict ∧ o.data = .dict es ep ∧ es.toList = xs.map (entryOfKey knd) ∧ (∀ x ∈ xs, knd.is h x.1 x.2.1) ∧ (xs.map (·.1)).Nodup ∧ ep = xs.length
theorem DictE.dd {P : Program} {w : World} {K : Type} [DecidableEq K] {knd : HeapKind P w K} {h : Heap} {d : Addr} {xs : List (K × Addr × Value)} (x : DictE knd h d xs) : h.DictOfH knd d xs :=
  let ⟨o, es, ep, h1, h2, h3, h4, h5, h6, _⟩ := x; ⟨o, es, ep, h1, h2, h3, h4, h5, h6⟩
section
variable {P : Program} {w : World} {K : Type} [DecidableEq K] {knd : HeapKind P w K} {A : Around} {E : Value → Shared → Prop} {s : Shared}
end
/-! ### in -/
/-! ### d[k] = v, a new key -/
/-! ### {} and {k: v} -/
end
/-! ### data -/
section
variable {X : Cx} {T : Tab} {W : WX} {st : Stmt} {g : FS} {e a b c : Expr} {f fa fb fk fv : FE} {pos p p1 p2 : Pos} {n i : Nat} {x : Str}
variable {S H S' H' : Hp} {σ : L2.St} {ρ : Env} {L : Nat → Option Addr} {Dn : Ends} {o : Out}
/-! ### a dict of the frame's own -/
theorem KAt.snoc {K : PySem.W.Frag} {H : Hp} {ks : List (List Int)} {bs : List Addr} {k : List Int} {b : Addr} (ht : tagT ks = true) (h : KAt K H ks bs) (hb : SqT K H b (k.map V.int)) : KAt K H (ks ++ [0 :: k]) (bs ++ [b]) := by
  have h := h.t ht
  refine .inl ⟨by rw [List.length_append, List.length_append, h.1]; rfl, fun i k1 b1 h1 h2 => ?_⟩
  by_cases hi : i < ks.length
  · rw [List.getElem?_append_left hi] at h1
    rw [List.getElem?_append_left (by rw [h.1]; exact hi)] at h2
    exact h.2 i k1 b1 h1 h2
  · rw [List.getElem?_append_right (by omega)] at h1
    rw [List.getElem?_append_right (by rw [h.1]; omega), h.1] at h2
    cases e : i - ks.length with
    | zero =>
      rw [e] at h1 h2
      cases h1
      cases h2
      exact ⟨k, rfl, hb⟩
    | succ m => rw [e] at h1; simp at h1
end
end EV
end

section
set_option maxHeartbeats 4000000
/-! EV26: xs.reverse(). -/
namespace EV
open PySem L2 PyProof.Rows
section
variable {X : Cx} {T : Tab} {W : WX} {st : Stmt} {g g1 g2 : FS} {e a b c : Expr} {es : List Expr} {f fa fb fc : FE} {fs : FL} {pos pos' p p1 p2 p3 : Pos} {body : List Stmt}
variable {S H : Hp} {σ : L2.St} {ρ : Env} {L : Nat → Option Addr} {Dn : Ends} {o : Out} {i j ci k : Nat} {x y : Str} {is : List Nat} {fg : FG}
end
end EV
namespace LW
open PySem L2 EV
end LW
end

section
set_option maxHeartbeats 4000000
/-! EV27: dicts whose keys are ints; while, the test read over all of the frame. -/
namespace EV
open PySem L2 PyProof.Rows
/-! ### int keys -/
section
variable {X : Cx} {T : Tab} {W : WX} {st : Stmt} {g : FS} {e a b c : Expr} {f fa fb fk fv fc : FE} {pos p p1 p2 : Pos} {n i : Nat} {x : Str} {body : List Stmt}
variable {S H S' H' : Hp} {σ : L2.St} {ρ : Env} {L : Nat → Option Addr} {Dn : Ends} {o : Out}
/-! ### while, the test over all of the frame -/
end
end EV
end

section
set_option maxHeartbeats 4000000
/-! EV28: sorted(a list of unlike ints). -/
namespace EV
open PySem L2 PyProof.Rows
end EV
end

section
set_option maxHeartbeats 4000000
/-! EV29: sorted(set(..)) of many numbers, few of them unlike. -/
namespace EV
open PySem L2
section
variable {X : Cx} {T : Tab} {W : WX} {a : Expr} {fa : FE} {p p2 q pos : Pos}
end
end EV
end

section
set_option maxHeartbeats 4000000
/-! EV30: len of an instance of an own class. -/
namespace EV
open PySem L2 PyProof.Rows
section
variable {X : Cx} {T : Tab} {W : WX} {k ci : Nat} {C f : Addr} {fd : FuncData} {ps : List Str} {sp : Sp} {sem : List D → Option R} {n : Nat} {perm : List Nat}
end
end EV
end

section
set_option maxHeartbeats 4000000
/-! EV31: a tuple times 0, 1 and more. -/
namespace EV
open PySem PySem.Spec L2 PyProof.Rows
section
variable {X : Cx}
end
section
variable {X : Cx} {T : Tab} {W : WX} {pos : Pos} {a b : Expr} {fa fb : FE}
end
end EV
end

section
set_option maxHeartbeats 4000000
/-! EV32: != of instances whose class has an __eq__ of its own and no __ne__; a & b, a | b of instances of one class. -/
namespace PySem
open PySem.W PyProof.Rows
section
variable {prog : Program} {w : World} {A : Around} {E : Value → Shared → Prop} {s : Shared} {K : PySem.W.Frag} {x C L f : Addr} {h₀ : Heap} {m : Str → Option Value} {ox : Obj} {od : Option Obj} {b tb : Value}
end
end PySem
namespace EV
open PySem L2
section
variable {X : Cx} {T : Tab} {W : WX} {k n ci : Nat} {f C : Addr} {fd : FuncData} {ps : List Str} {sp : Sp} {x m : Str} {p q pos apos : Pos} {e a b o : Expr} {sem : List D → Option R} {fa fb fo : FE} {perm : List Nat}
end
end EV
end

section
set_option maxHeartbeats 4000000
/-! EV33: raise C() of an own error without __init__; a try whose first clause (as e) always takes what is raised, whatever clauses come behind it. -/
namespace EV
open PySem L2 PyProof.Rows

section
variable {X : Cx} {T : Tab} {W : WX} {g g1 g2 : FS} {e a b c : Expr} {es : List Expr} {f fa fb fc : FE} {pos pos' np : Pos} {body suite : List Stmt} {b₀ : Stmt} {hds : List ExceptHandler}
variable {S H : Hp} {σ : L2.St} {ρ : Env} {L : Nat → Option Addr} {Dn : Ends} {o : Out} {i ci k : Nat} {x n y : Str} {p q : Pos} {C : Addr} {bmB : List Value} {B newId initId : String}
/-! ### try, the first clause takes all -/
end
end EV
end

section
set_option maxHeartbeats 4000000
/-! EV34: min(xs), max(xs) of one list of ints. -/
namespace EV
open PySem L2 PyProof.Rows
section
variable {T : Tab}
end
end EV
end

section
set_option maxHeartbeats 4000000
/-! EV35: xs.extend(e) of an own list; min(xs) of a list of tuples of ints. -/
namespace EV
open PySem L2 PyProof.Rows PySem.W
section
variable {X : Cx} {T : Tab} {W : WX} {e : Expr} {f : FE} {x : Str} {p1 p2 p3 pos : Pos} {S H : Hp} {σ : L2.St} {ρ : Env} {L : Nat → Option Addr} {Dn : Ends} {o : Out}
end
/-! ### min of a list of tuples of ints -/
end EV
end

section
set_option maxHeartbeats 4000000
/-! EV36: defaults of keyword-only parameters; xs.append(ys.pop(k)). -/
namespace EV
open PySem L2 PyProof.Rows
section
variable {K : PySem.W.Frag} {x qual : Str} {params : Arguments} {body : List Stmt} {scope : Scope} {f : Addr} {fd : FuncData} {ps ks : List Str} {n : Nat} {perm : List Nat} {kws : List (Str × V)}
end
section
variable {X : Cx} {T : Tab} {W : WX} {e : Expr} {f : FE} {pos p p1 p2 p3 p4 p5 p6 : Pos}
variable {S H : Hp} {σ : L2.St} {ρ : Env} {L : Nat → Option Addr} {Dn : Ends} {o : Out} {i j : Nat} {x y : Str}
/-! ### xs.append(ys.pop(k)), k read over all of the frame -/
end
end EV
end

section
set_option maxHeartbeats 4000000
/-! EV37: sorted(a list of tuples of ints). -/
namespace EV
open PySem L2 PyProof.Rows
open PySem.W (EachIs AllAlike dataLt)
end EV
end

section
set_option maxHeartbeats 4000000
/-! EV38: list comprehensions whose element may raise. -/
namespace L2N
open PySem PySem.Spec PyProof.Rows L2
section
variable {M : Model} {A : Around} {E : Value → Shared → Prop} {s : Shared} {Z : Obj → Prop} {base : Heap} {env : Env} {outer : List Env} {L C e : Addr}
end
section
variable {X : L2.Cx} {pins : List (Addr × Obj)} {σ : L2.St} {H : Hp} {s : Shared}
end
section
variable {X : L2.Cx}
section
variable {W : WX} {elt tg iter : Expr} {ifs : List Expr} {scope : Scope} {own : List (Str × Nat)} {pos spos py : Pos} {wi : TI} {g : TG} {tt : TT} {te : L2.St → TE} {i : Nat} {y : Str}
end
end
end L2N
namespace EV
open PySem L2 PyProof.Rows
section
variable {X : Cx} {T : Tab} {W : WX} {st : Stmt} {e a b c : Expr} {f fa fb fc : FE} {pos : Pos}
variable {S H : Hp} {σ : L2.St} {ρ : Env} {Dn : Ends} {o : Out} {i : Nat} {x : Str} {is js : List Nat} {fg : FG}
section
variable {elt tg iter : Expr} {ifs : List Expr} {scope : Scope} {own : List (Str × Nat)} {fi : FL} {ft fe : FE}
end
end
end EV
end

section
set_option maxHeartbeats 4000000
/-! EV39: {} as an expression. -/
namespace EV
open PySem L2
section
variable {X : Cx} {T : Tab} {W : WX}
end
end EV
end

section
set_option maxHeartbeats 4000000
/-! EV40: dicts whose keys are tuples of ints: d[k], len(d), for k in d. -/
namespace EV
open PySem L2 PyProof.Rows
section
variable {X : Cx} {T : Tab} {W : WX} {e a b o i tg : Expr} {f fa fb : FE} {pos p : Pos} {n : Nat} {td ty : TE} {x : Str}
end
end EV
end

section
set_option maxHeartbeats 4000000
/-! EV41: xs[k] = e, where e is a new list read with the own lists seen. -/
namespace EV
open PySem L2
section
variable {X : Cx} {T : Tab} {W : WX} {e c : Expr} {pos p1 p2 : Pos} {S H : Hp} {σ : L2.St} {ρ : Env} {L : Nat → Option Addr} {Dn : Ends} {P : VK} {o : Out} {x : Str} {k : D → Option Out} {fl : FL} {fk : FE}
end
end EV
end

section
set_option maxHeartbeats 4000000
/-! EV42: a < b < c. -/
namespace EV
open PySem L2
section
variable {X : Cx} {T : Tab} {W : WX} {a b c : Expr} {fa fb fc : FE} {pos : Pos} {r r' : R2} {o o' : D → D → Option D} {op op' : CmpOp}
end
end EV
end

section
set_option maxHeartbeats 4000000
/-! EV43: xs.insert(k, e), k not below 0. -/
namespace EV
open PySem L2
section
variable {X : Cx} {T : Tab} {W : WX} {a e : Expr} {f fk : FE} {pos p1 p2 p3 : Pos} {x : Str}
end
end EV
end

section
set_option maxHeartbeats 4000000
/-! EV44: d[k] = v, a new key, where key and value are read with the own lists and dicts seen. -/
namespace EV
open PySem L2
section
variable {X : Cx} {T : Tab} {W : WX} {c e : Expr} {f fk : FE} {pos p1 p2 : Pos} {x : Str} {n : Nat}
variable {S H : Hp} {σ : L2.St} {ρ : Env} {L : Nat → Option Addr} {Dn : Ends} {o : Out}
end
end EV
end

section
set_option maxHeartbeats 4000000
/-! EV45: a slice of a new list as a new list; a loop over what is found by an item of an own list; lists of instances compared by their own == (all equal). -/
namespace NeG
open PySem PySem.SeqAt
open AutoSeq1 (wpAny_loadPart')
open MeetsSeq MeetsSeq2 MeetsSeq3 SeqRoads2
section
variable {prog : Program} {w : World} {A : Around} {R : Result → Shared → Prop}
end
section
variable {prog : Program} {w : World} {A : Around} {E : Value → Shared → Prop} {s : Shared}
end
end NeG
namespace EV
open PySem L2 PyProof.Rows
section
variable {X : Cx} {n : Nat} {De : Eqv}
end
section
variable {X : Cx} {T : Tab} {W : WX} {k ci : Nat} {f : Addr} {fd : FuncData} {ps : List Str} {a b : Expr} {fa fb : FE} {pos : Pos} {sem : List D → Option R}
end
/-! ### a slice of a list as a new list -/
section
variable {X : Cx} {T : Tab} {W : WX} {a b e : Expr} {fa fb f : FE} {pos p2 : Pos} {tg : Expr}
end
section
variable {X : Cx} {T : Tab} {W : WX} {body : List Stmt} {is : List Nat} {fg : FG} {g : FS} {pos : Pos}
end
section
variable {X : Cx} {T : Tab} {W : WX} {a : Expr} {fa : FE} {pos p2 : Pos} {lo hi : Option Expr}
end
/-! ### xs.insert(k, e), where e is read without the own lists -/
section
variable {X : Cx} {T : Tab} {W : WX} {a e : Expr} {f fk : FE} {pos p1 p2 p3 : Pos} {x : Str}
end
end EV
end

section
set_option maxHeartbeats 4000000
/-! EV46: comprehensions with two clauses. -/
namespace EV
open PySem L2
def lcF2 (fg : FG) (ft : FE) (fi1 : FL) (fg1 : FG) (ft1 fe : FE) (vs1 : List Nat) (ρ : Env) : List D → Option (List D)
  | [] => some []
  | d :: ds => match fg d (mask ρ) with
    | none => none
    | some ρ1 => match ft ρ1 with
      | some (.ok (.bl true)) => (match fi1 ρ1 with
        | some (.ok es) => (match lcF fg1 ft1 fe (wipeE ρ1 vs1) es with
          | none => none
          | some r => match lcF2 fg ft fi1 fg1 ft1 fe vs1 ρ ds with
            | none => none
            | some rs => some (r ++ rs))
        | _ => none)
      | some (.ok (.bl false)) => lcF2 fg ft fi1 fg1 ft1 fe vs1 ρ ds
      | _ => none
def nLc2 (fi : FL) (fg : FG) (ft : FE) (fi1 : FL) (fg1 : FG) (ft1 fe : FE) (vs vs1 : List Nat) : FL := fun ρ => RLL (fi ρ) fun ds => match lcF2 fg ft fi1 fg1 ft1 fe vs1 (wipeE ρ vs) ds with
  | some rs => if rs.length ≤ 100000 then some (.ok rs) else none
  | none => none
section
variable {X : Cx} {T : Tab} {W : WX} {is is1 : List Nat} {fg fg1 : FG}
theorem upd_kp {S1 H1 S H : Hp} {Dl : Addr} {o : HO} (k : Kp S1 H1 S H) (hD : H1 Dl = none) (hS : S Dl = none) (hf : isFix o = false) : Kp S1 H1 S (upd H Dl o) := by
  refine ⟨k.s, fun q u hq => ?_, ⟨fun q u hq => ?_, fun q u hq f => ?_⟩, k.hid⟩
  · rw [upd_ne (ne_of_none hq hD)]; exact k.h q u hq
  · rw [upd_ne (ne_of_none hq hS)]; exact k.sub.same q u hq
  · by_cases hqD : q = Dl
    · subst hqD; rw [upd_same] at hq; cases hq; rw [hf] at f; cases f
    · rw [upd_ne hqD] at hq; exact k.sub.fix q u hq f
theorem some_ne {o : Option HO} {u : HO} (h : o = some u) : o ≠ none := by rw [h]; intro z; cases z
theorem w_lc2 {fi fi1 : FL} {ft ft1 fe : FE} {vs vs1 : List Nat} (hs : ∀ j ∈ is, j ∈ vs) (hs1 : ∀ j ∈ is1, j ∈ vs1) (σ : L2.St) (H : Hp) (Q : VK) (q : tN T W (nLc2 fi fg ft fi1 fg1 ft1 fe vs vs1) σ H Q) :
    tLc2 (tI T W fi) (tT T is fg) (tFT T W0 ft) (tI T W0 fi1) (tT T is1 fg1) (tFT T W0 ft1) (tF T W0 fe) vs vs1 σ H Q := by
  obtain ⟨ρ, S, r, sh, rep, e, fin⟩ := q
  refine tI_goN sh rep e fin fun ds J S1 H1 k1 iw rep1 e1 fin1 => ?_
  cases e2 : lcF2 fg ft fi1 fg1 ft1 fe vs1 (wipeE ρ vs) ds with
  | none => rw [e2] at e1; cases e1
  | some rs =>
  rw [e2] at e1
  dsimp only at e1
  split at e1 <;> cases e1
  rename_i hlen
  intro Dl hD
  let Pv : Nat → Hp → Prop := fun i H => ∃ S acc dacc rest, H Dl = some (.lst acc) ∧ S Dl = none ∧ Iss T S acc dacc ∧ Kp S1 H1 S H ∧ lcF2 fg ft fi1 fg1 ft1 fe vs1 (wipeE ρ vs) (ds.drop i) = some rest ∧ dacc ++ rest = rs
  have sD : S1 Dl = none := k1.sub.same.free hD
  refine ⟨fun i m H => m = ds.length - i ∧ i ≤ ds.length ∧ Pv i H, ⟨ds.length, by simp, Nat.zero_le _, S1, [], [], rs, upd_same, sD, .nil, Kp.hide k1.sub hD rfl, e2, rfl⟩, ?_⟩
  rintro i m H2 ⟨rfl, hi, S2, acc, dacc, rest, hL, hS, hacc, kp, er, ers⟩
  by_cases hlt : i < ds.length
  · refine .inr ⟨iw.go i S2 H2 kp.s kp.sub hlt, Pv (i + 1), fun H' p' => ⟨ds.length - (i + 1), by omega, rfl, hlt, p'⟩, fun x H3 y => ?_⟩
    obtain ⟨d, S3, hd, kp3, hx⟩ := iw.yld i S2 H2 x H3 kp.s kp.sub hlt y
    have hdr : ds.drop i = d :: ds.drop (i + 1) := by
      rw [List.drop_eq_getElem_cons hlt]
      congr 1
      rw [List.getElem?_eq_getElem hlt] at hd
      exact Option.some.inj hd
    rw [hdr, lcF2] at er
    split at er <;> try cases er
    rename_i ρ1 eg
    have k13 : Kp S1 H1 S3 H3 := kp.trans kp3
    have hL3 : H3 Dl = some (.lst acc) := kp3.h _ _ hL
    have hS3 : S3 Dl = none := kp3.hid Dl (some_ne hL) hS
    have repW : RepE T S3 (wipeE ρ vs) (wipe σ vs) := (rep1.wiped vs).mono (kp.s.trans kp3.s)
    refine ⟨mask (wipeE ρ vs), S3, fun _ => none, d, ρ1, repW.rep kp3.sub, hx, eg, fun σ2 L2' r2 s2 c2 => ⟨wipe_same (by rw [c2.1, wipe_length]) c2.2 hs, ?_⟩⟩
    split at er <;> try cases er
    · rename_i et
      split at er <;> try cases er
      rename_i es e5
      split at er <;> try cases er
      rename_i r0 e6
      split at er <;> cases er
      rename_i rest' e7
      refine ⟨ρ1, S3, _, kp3.sub, r2.repE, et, fun b S4 H4 kp4 ib => ?_⟩
      cases ib
      refine ⟨true, rfl, ρ1, S4, _, kp4.sub, r2.repE.mono kp4.s, e5, fun J1 S5 H5 kp5 iw5 => ?_⟩
      have k15 : Kp S1 H1 S5 H5 := (k13.trans kp4).trans kp5
      have hL5 : H5 Dl = some (.lst acc) := kp5.h _ _ (kp4.h _ _ hL3)
      have hS5 : S5 Dl = none := kp5.hid Dl (some_ne (kp4.h _ _ hL3)) (kp4.hid Dl (some_ne hL3) hS3)
      have hacc5 : Iss T S5 acc dacc := hacc.mono ((kp3.s.trans kp4.s).trans kp5.s)
      have rep5 : RepE T S5 ρ1 σ2 := (r2.repE.mono kp4.s).mono kp5.s
      let Pj : Nat → Hp → Prop := fun j H => ∃ S acc dacc rest, H Dl = some (.lst acc) ∧ S Dl = none ∧ Iss T S acc dacc ∧ Kp S1 H1 S H ∧ L2.Same S5 S ∧ lcF fg1 ft1 fe (wipeE ρ1 vs1) (es.drop j) = some rest ∧ dacc ++ (rest ++ rest') = rs
      refine ⟨fun j m H => m = es.length - j ∧ j ≤ es.length ∧ Pj j H, ⟨es.length, by simp, Nat.zero_le _, S5, acc, dacc, r0, hL5, hS5, hacc5, k15, L2.Same.refl _, e6, ers⟩, ?_⟩
      rintro j mm H6 ⟨rfl, hj, S6, acc6, dacc6, rest6, hL6, hS6, hacc6, kp6, s56, er6, ers6⟩
      by_cases hjt : j < es.length
      · refine .inr ⟨iw5.go j S6 H6 s56 kp6.sub hjt, Pj (j + 1), fun H' p' => ⟨es.length - (j + 1), by omega, rfl, hjt, p'⟩, fun x H7 y => ?_⟩
        obtain ⟨d7, S7, hd7, kp7, hx7⟩ := iw5.yld j S6 H6 x H7 s56 kp6.sub hjt y
        have hdr7 : es.drop j = d7 :: es.drop (j + 1) := by
          rw [List.drop_eq_getElem_cons hjt]
          congr 1
          rw [List.getElem?_eq_getElem hjt] at hd7
          exact Option.some.inj hd7
        rw [hdr7, lcF] at er6
        split at er6 <;> try cases er6
        rename_i r8 e8
        split at er6 <;> cases er6
        rename_i rest8 er8
        unfold itemF at e8
        split at e8 <;> try cases e8
        rename_i ρ2 eg2
        have k17 : Kp S1 H1 S7 H7 := kp6.trans kp7
        have hL7 : H7 Dl = some (.lst acc6) := kp7.h _ _ hL6
        have hS7 : S7 Dl = none := kp7.hid Dl (some_ne hL6) hS6
        have repW7 : RepE T S7 (wipeE ρ1 vs1) (wipe σ2 vs1) := (rep5.wiped vs1).mono (s56.trans kp7.s)
        refine ⟨mask (wipeE ρ1 vs1), S7, fun _ => none, d7, ρ2, repW7.rep kp7.sub, hx7, eg2, fun σ3 L3' r3 s3 c3 => ⟨wipe_same (by rw [c3.1, wipe_length]) c3.2 hs1, ?_⟩⟩
        split at e8 <;> try cases e8
        · rename_i et8
          split at e8 <;> cases e8
          rename_i v ev
          refine ⟨ρ2, S7, _, kp7.sub, r3.repE, et8, fun b S8 H8 kp8 ib => ?_⟩
          cases ib
          refine ⟨true, rfl, ρ2, S8, _, kp8.sub, r3.repE.mono kp8.s, ev, fun y S9 H9 kp9 iy => ?_⟩
          have k19 : Kp S1 H1 S9 H9 := (k17.trans kp8).trans kp9
          have hL9 : H9 Dl = some (.lst acc6) := kp9.h _ _ (kp8.h _ _ hL7)
          have hS9 : S9 Dl = none := kp9.hid Dl (some_ne (kp8.h _ _ hL7)) (kp8.hid Dl (some_ne hL7) hS7)
          have ersA : (dacc6 ++ [v]) ++ (rest8 ++ rest') = rs := by
            rw [← ers6]
            simp
          have hall : dacc6.length + 1 ≤ 100000 := by
            have := congrArg List.length ersA
            simp only [List.length_append, List.length_cons, List.length_nil] at this
            omega
          refine ⟨acc6, hL9, by rw [hacc6.length]; exact line_lt (by omega), S9, acc6 ++ [y], dacc6 ++ [v], rest8, upd_same, hS9, ?_, upd_kp k19 hD hS9 rfl, ((s56.trans kp7.s).trans kp8.s).trans kp9.s, er8, ersA⟩
          exact (hacc6.mono ((kp7.s.trans kp8.s).trans kp9.s)).append (.cons iy .nil)
        · rename_i et8
          refine ⟨ρ2, S7, _, kp7.sub, r3.repE, et8, fun b S8 H8 kp8 ib => ?_⟩
          cases ib
          refine ⟨false, rfl, ?_⟩
          exact ⟨S8, acc6, dacc6, rest8, kp8.h _ _ hL7, kp8.hid Dl (some_ne hL7) hS7, hacc6.mono (kp7.s.trans kp8.s), k17.trans kp8, (s56.trans kp7.s).trans kp8.s, er8, ers6⟩
      · have ej : j = es.length := by omega
        subst ej
        rw [List.drop_length, lcF] at er6
        cases er6
        exact .inl ⟨iw5.stop S6 H6 s56 kp6.sub, S6, acc6, dacc6, rest', hL6, hS6, hacc6, kp6, e7, by rw [List.nil_append] at ers6; exact ers6⟩
    · rename_i et
      refine ⟨ρ1, S3, _, kp3.sub, r2.repE, et, fun b S4 H4 kp4 ib => ?_⟩
      cases ib
      refine ⟨false, rfl, ?_⟩
      exact ⟨S4, acc, dacc, rest, kp4.h _ _ hL3, kp4.hid Dl (some_ne hL3) hS3, hacc.mono (kp3.s.trans kp4.s), k13.trans kp4, er, ers⟩
  · have ei : i = ds.length := by omega
    subst ei
    rw [List.drop_length, lcF2] at er
    cases er
    rw [List.append_nil] at ers
    subst ers
    exact .inl ⟨iw.stop S2 H2 kp.s kp.sub, fin1 Dl acc S2 H2 kp hD hS hL hacc⟩
section
variable {elt tg iter tg1 iter1 : Expr} {ifs ifs1 : List Expr} {scope : Scope} {own : List (Str × Nat)} {fi fi1 : FL} {ft ft1 fe : FE} {pos : Pos}
theorem ps_lcs2 {y : Str} {py spos : Pos} (own : List (Str × Nat)) (vs1 : List Nat) (i : Nat) (hc : X.calm = true) (hN : X.N.Nodup) (ok : BlkOk X.N X.env.scope scope own) (hv : ∀ i ∈ vs1, i ∈ own.map (·.2)) (hy : X.N[i]? = some y) (hyl : X.env.scope.names.lookup y = some .local)
    (hsw : swapsWith (.ListComp elt [⟨tg, iter, ifs, 0⟩, ⟨tg1, iter1, ifs1, 0⟩] scope pos) (some (.Name y py)) spos.line X.env = pure true) (hi : EI X T W tg iter fi)
    (hg : ∀ (s : Shared) (H : Hp) (C : Addr) (cl : List (Str × Addr)) (fp : List Addr), EG (X.blk s H scope (compEnvC scope cl C X.env) fp) T tg is fg) (ht : ∀ (s : Shared) (H : Hp) (C : Addr) (cl : List (Str × Addr)) (fp : List Addr), ETs (X.blk s H scope (compEnvC scope cl C X.env) fp) T ifs ft)
    (hi1 : ∀ (s : Shared) (H : Hp) (C : Addr) (cl : List (Str × Addr)) (fp : List Addr), EI (X.blk s H scope (compEnvC scope cl C X.env) fp) T W0 tg1 iter1 fi1)
    (hg1 : ∀ (s : Shared) (H : Hp) (C : Addr) (cl : List (Str × Addr)) (fp : List Addr), EG (X.blk s H scope (compEnvC scope cl C X.env) fp) T tg1 is1 fg1) (ht1 : ∀ (s : Shared) (H : Hp) (C : Addr) (cl : List (Str × Addr)) (fp : List Addr), ETs (X.blk s H scope (compEnvC scope cl C X.env) fp) T ifs1 ft1)
    (he : ∀ (s : Shared) (H : Hp) (C : Addr) (cl : List (Str × Addr)) (fp : List Addr), EE (X.blk s H scope (compEnvC scope cl C X.env) fp) T W0 elt fe) (hs : ∀ x, foldedSetIterable iter X.env x = pure x := by intro _; rfl) (hs1 : ∀ env x, foldedSetIterable iter1 env x = pure x := by intro _ _; rfl) :
    PS X (.Assign [.Name y py] (.ListComp elt [⟨tg, iter, ifs, 0⟩, ⟨tg1, iter1, ifs1, 0⟩] scope pos) spos) (tAsg (tLc2 (tI T W fi) (tT T is fg) (tFT T W0 ft) (tI T W0 fi1) (tT T is1 fg1) (tFT T W0 ft1) (tF T W0 fe) (own.map (·.2)) vs1) (gName i)) := ps_setLc2 hc hN hy hyl hsw hi ok hv hg ht hi1 hg1 ht1 he hs hs1
end
end
end EV
end

section
set_option maxHeartbeats 4000000
/-! EV47: (k, v) in d.items() for dicts whose keys are tuples of ints; while x: with x plain data. -/
namespace EV
open PySem L2 PyProof.Rows
section
variable {X : Cx} {T : Tab} {W : WX} {e tg : Expr} {f : FE} {td : TE} {apos cpos : Pos}
end
end EV
end

section
set_option maxHeartbeats 4000000
/-! EV48: d[k] = v, whether k is a key or not. -/
namespace EV
open PySem L2 PyProof.Rows
section
variable {P : Program} {w : World} {K : Type} [DecidableEq K] {knd : HeapKind P w K} {A : Around} {E : Value → Shared → Prop} {s : Shared}
end
section
variable {X : Cx} {pins : List (Addr × Obj)} {σ : L2.St} {H : Hp} {s : Shared} {a b : Addr} {k : List Int} {ks : List (List Int)} {bs : List Addr} {vs : List V} {n : Nat}
end
section
variable {X : Cx} {T : Tab} {W : WX} {c e : Expr} {f fk : FE} {pos p1 p2 : Pos} {x : Str} {n : Nat}
variable {S H : Hp} {σ : L2.St} {ρ : Env} {L : Nat → Option Addr} {Dn : Ends} {o : Out}
end
end EV
end

section
set_option maxHeartbeats 4000000
/-! EV49: if and for in a generator's body. -/
namespace PySem
open Sem (wp)
section
variable {M : Model} {A : Around} {R : GenEnd} {Y : Protocol} {n : Nat} {s₀ : Shared} {c : Code} {fs : List Frame} {s : Shared} {env : Env}
  {K : Flow → Sem Fin} {H : Value → Sem Fin} {gd : Bool → Bool} {lv : List Value → List Value}
end
section
variable {prog : Program} {w : World} {A : Around} {R : GenEnd} {Y : Protocol} {n : Nat} {s₀ : Shared} {fs : List Frame} {s : Shared} {env : Env}
end
end PySem
end

section
set_option maxHeartbeats 4000000
/-! EV50: the statements if and for of a generator's body over HandS.GenBody. -/
namespace EV
open PySem L2 PyProof.Rows GenW
section
variable {X : Cx}
end
end EV
end

section
set_option maxHeartbeats 4000000
/-! EV51: a generator's body as a partial function: what is out so far, and the frame. -/
namespace EV
open PySem L2
section
variable {X : Cx} {T : Tab} {W : WX} {st : Stmt} {rest body els : List Stmt} {g : FS} {gg g1 g2 : GFS} {e c : Expr} {f fc : FE} {pos yp : Pos} {fg : FG} {is : List Nat}
variable {S H : Hp} {σ : L2.St} {ρ : Env} {L : Nat → Option Addr} {Dn : GEnds} {yd : List D} {r : List D × Out}
theorem GS.weak {t u : TGn} (h : GS X st t) (w : ∀ Dn ys σ H, u Dn ys σ H → t Dn ys σ H) : GS X st u := ⟨fun A S ip R n ys s₀ c fs K J gd lv s σ H D g hn k hI ht => h.run A S ip R n ys s₀ c fs K J gd lv s σ H D g hn k hI (w D ys σ H ht)⟩
theorem GSs.weak {t u : TGn} (h : GSs X rest t) (w : ∀ Dn ys σ H, u Dn ys σ H → t Dn ys σ H) : GSs X rest u := ⟨fun A S ip R n ys s₀ c fs K J gd lv s σ H D g hn k hI ht => h.run A S ip R n ys s₀ c fs K J gd lv s σ H D g hn k hI (w D ys σ H ht)⟩
end
end EV
end

section
set_option maxHeartbeats 4000000
/-! EV52: try: body, except C: suite (no name), every error of the body is one of C's. -/
namespace EV
open PySem L2
section
variable {X : Cx} {T : Tab} {W : WX} {pos pos' np : Pos} {body suite : List Stmt} {b₀ : Stmt} {x : Str}
end
end EV
end

section
set_option maxHeartbeats 4000000
/-! EV53: a def f(a, .., *v): called by place, or with its one parameter by name. -/
namespace EV
open PySem L2 PyProof.Rows
section
variable {P : Program} {w : World} {K : PySem.W.Frag} {mg : Str → Option Value} {base : Heap} {x qual : Str} {params : Arguments} {body : List Stmt} {scope : Scope} {dvs : List V} {kws : List (Str × V)} {f : Addr} {fd : FuncData} {N ps : List Str} {k : Nat} {T : Tab} {g : FS} {p1 pv : Str}
end
section
variable {X : Cx} {T : Tab} {W : WX} {k : Nat} {f : Addr} {x p1 : Str} {p pos kpos : Pos} {e : Expr} {es : List Expr} {sem : List D → Option R} {fs : FL} {fe : FE}
end
end EV
end

section
set_option maxHeartbeats 4000000
/-! EV54: a & b, a | b of own instances, which may raise. -/
namespace EV
open PySem L2
section
variable {X : Cx} {T : Tab} {W : WX} {k : Nat} {f C : Addr} {fd : FuncData} {ps : List Str} {sp : Sp} {sem : List D → Option R} {a b : Expr} {fa fb : FE} {ta tb : TE} {pos : Pos} {ci : Nat}
end
end EV
end

section
set_option maxHeartbeats 4000000
/-! EV55: fields of items of an own list, read in what is set or appended. -/
namespace EV
open PySem L2 PyProof.Rows
section
variable {X : Cx} {T : Tab} {W : WX} {a b c e : Expr} {f fa fb fc : FE} {pos p p1 p2 p3 : Pos} {x fl : Str} {S H : Hp} {σ : L2.St} {ρ : Env} {L : Nat → Option Addr} {r : R}
end
section
variable {X : Cx} {T : Tab} {W : WX} {e : Expr} {f : FE} {pos p p1 p2 p3 : Pos} {x : Str}
end
end EV
end

section
set_option maxHeartbeats 4000000
/-! EV56: generators that sleep are not touched: what runs where each of them would be stuck if it were woken, runs, and leaves them as they are. -/
namespace EV
open PySem
open Sem (wp)
theorem Dim.ca {z a b : Array GenState} (D : Dim z a b) {i : Nat} {st : GenState} (_ : b[i]? = some st) : (∃ x, z[i]? = some x ∧ Susp x ∧ a[i]? = some x ∧ b[i]? = some (dull x)) ∨ ((∀ x, z[i]? = some x → ¬ Susp x) ∧ a[i]? = b[i]? ∧ ∀ y, b[i]? = some y → PlainG y) := D.cases i
theorem split_app {a b : List PySem.Frame} (ha : splitAtGen a = none) (hb : splitAtGen b = none) : splitAtGen (a ++ b) = none := by
  induction a with
  | nil => exact hb
  | cons f r ih =>
    cases f with
    | gen g k l c p => cases ha
    | ret k h g l c p kp =>
      have hr : splitAtGen r = none := by
        cases q : splitAtGen r with
        | none => rfl
        | some x => simp [splitAtGen, q] at ha
      show (splitAtGen (r ++ b)).map _ = none
      rw [ih hr]; rfl
theorem split_tail {f : PySem.Frame} {r : List PySem.Frame} (h : splitAtGen (f :: r) = none) : splitAtGen r = none := by
  cases f with
  | gen g k l c p => cases h
  | ret k hh g l c p kp =>
    cases q : splitAtGen r with
    | none => rfl
    | some x => simp [splitAtGen, q] at h
section
variable {M : Model}
theorem runs_uns0 {Γ : Ctx} {p : Pos} {w : String} {s s' : Shared} {e : End} (h : Runs M Γ p (.unsupported w) [] s e s') : False := by cases h
theorem runs_uns {Γ : Ctx} {p : Pos} {w : String} {fs : List PySem.Frame} {s s' : Shared} {e : End} (h : Runs M Γ p (.unsupported w) fs s e s') : False := by
  cases h with
  | segRet h _ => exact runs_uns0 h
  | segGen h _ => exact runs_uns0 h
  | segSuspOut _ h => exact runs_uns0 h
  | segSuspGen _ h _ _ => exact runs_uns0 h
abbrev withG (s : Shared) (a : Array GenState) : Shared := { s with gens := a }
theorem gens_le {Γ : Ctx} {p : Pos} {t : Sem PySem.Fin} {fs : List PySem.Frame} {s s' : Shared} {e : End} (h : Runs M Γ p t fs s e s') : s.gens.size ≤ s'.gens.size := GenW.runs_gsz h
theorem size_set (s : Shared) (g : Nat) (x : GenState) : (s.setGen g x).gens.size = s.gens.size := GenW.setGen_size s g x
/-- THE RULE -/
theorem runs_still {z : Array GenState} {Γ : Ctx} {p : Pos} {t : Sem PySem.Fin} {fs : List PySem.Frame} {s s' : Shared} {e : End} (h : Runs M Γ p t fs s e s') : splitAtGen fs = none → z.size ≤ s.gens.size → ∀ a, Dim z a s.gens →
    ∃ a', Dim z a' s'.gens ∧ PlainE e ∧ Runs M Γ p t fs (withG s a) e (withG s' a') := by
  induction h with
  | done => exact fun _ _ a D => ⟨a, D, trivial, .done⟩
  | raise => exact fun _ _ a D => ⟨a, D, trivial, .raise⟩
  | again hq _ ih => exact fun hf hz a D => let ⟨a', D', pe, r⟩ := ih rfl hz a D; ⟨a', D', pe, .again hq r⟩
  | rule _ ih => exact fun hf hz a D => let ⟨a', D', pe, r⟩ := ih rfl hz a D; ⟨a', D', pe, .rule r⟩
  | «at» _ ih => exact fun hf hz a D => let ⟨a', D', pe, r⟩ := ih rfl hz a D; ⟨a', D', pe, .at r⟩
  | load ho _ ih => exact fun hf hz a D => let ⟨a', D', pe, r⟩ := ih rfl hz a D; ⟨a', D', pe, .load ho r⟩
  | update ho _ ih => exact fun hf hz a D => let ⟨a', D', pe, r⟩ := ih rfl hz a D; ⟨a', D', pe, .update ho r⟩
  | loadIfAlive _ ih => exact fun hf hz a D => let ⟨a', D', pe, r⟩ := ih rfl hz a D; ⟨a', D', pe, .loadIfAlive r⟩
  | point _ ih => exact fun hf hz a D => let ⟨a', D', pe, r⟩ := ih rfl hz a D; ⟨a', D', pe, .point r⟩
  | alloc _ ih => exact fun hf hz a D => let ⟨a', D', pe, r⟩ := ih rfl hz a D; ⟨a', D', pe, .alloc r⟩
  | fresh _ ih => exact fun hf hz a D => let ⟨a', D', pe, r⟩ := ih rfl hz a D; ⟨a', D', pe, .fresh r⟩
  | ask _ ih => exact fun hf hz a D => let ⟨a', D', pe, r⟩ := ih rfl hz a D; ⟨a', D', pe, .ask r⟩
  | choose hn _ ih => exact fun hf hz a D => let ⟨a', D', pe, r⟩ := ih rfl hz a D; ⟨a', D', pe, .choose hn r⟩
  | os _ ih => exact fun hf hz a D => let ⟨a', D', pe, r⟩ := ih rfl hz a D; ⟨a', D', pe, .os r⟩
  | handled _ ih => exact fun hf hz a D => let ⟨a', D', pe, r⟩ := ih rfl hz a D; ⟨a', D', pe, .handled r⟩
  | stack _ ih => exact fun hf hz a D => let ⟨a', D', pe, r⟩ := ih rfl hz a D; ⟨a', D', pe, .stack r⟩
  | thread _ ih => exact fun hf hz a D => let ⟨a', D', pe, r⟩ := ih rfl hz a D; ⟨a', D', pe, .thread r⟩
  | genState hg _ ih =>
    exact fun hf hz a D =>
      let ⟨st', e1, e2⟩ := D.gen hg
      let ⟨a', D', pe, r⟩ := ih rfl hz a D
      ⟨a', D', pe, .genState (s := withG _ a) e1 (by rw [e2]; exact r)⟩
  | newGen _ ih =>
    intro hf hz a D
    obtain ⟨a', D', pe, r⟩ := ih rfl (by simp; omega) _ (D.push hz trivial)
    have e : a.size = _ := D.size
    rw [← e] at r
    exact ⟨a', D', pe, .newGen r⟩
  | call _ _ ih1 ih2 =>
    rename_i h1 _
    intro hf hz a D
    obtain ⟨a1, D1, _, r1⟩ := ih1 rfl hz a D
    obtain ⟨a2, D2, pe, r2⟩ := ih2 rfl (Nat.le_trans hz (gens_le h1)) a1 D1
    exact ⟨a2, D2, pe, .call r1 r2⟩
  | callSusp _ ih =>
    intro hf hz a D
    obtain ⟨a1, D1, pe, r1⟩ := ih rfl hz a D
    exact ⟨a1, D1, split_app pe rfl, .callSusp r1⟩
  | yield => exact fun _ _ a D => ⟨a, D, rfl, .yield⟩
  | resumeFresh hg h1 hq h2 ih1 ih2 =>
    intro hf hz a D
    rcases D.ca hg with ⟨x, _, sx, _, e2⟩ | ⟨hn, e1, _⟩
    · rw [e2] at hg
      obtain ⟨_, _, _, _, _, _, rfl⟩ := sx
      cases hg
    · obtain ⟨a1, D1, pe1, r1⟩ := ih1 rfl (by rw [size_set]; exact hz) _ (D.set (x := .running) hn trivial)
      have z1 := gens_le h1
      rw [size_set] at z1
      obtain ⟨a2, D2, pe2, r2⟩ := ih2 rfl (by rw [size_set]; omega) _ (D1.set hn pe1.gs)
      exact ⟨a2, D2, pe2, .resumeFresh (s := withG _ a) (e1.trans hg) r1 hq r2⟩
  | resumeSuspended hg h1 hq h2 ih1 ih2 =>
    intro hf hz a D
    rcases D.ca hg with ⟨x, _, sx, _, e2⟩ | ⟨hn, e1, hp⟩
    · rw [e2] at hg
      obtain ⟨_, _, _, _, _, _, rfl⟩ := sx
      cases hg
      exact (runs_uns h1).elim
    · have hfs := hp _ hg
      obtain ⟨a1, D1, pe1, r1⟩ := ih1 hfs (by rw [size_set]; exact hz) _ (D.set (x := .running) hn trivial)
      have z1 := gens_le h1
      rw [size_set] at z1
      obtain ⟨a2, D2, pe2, r2⟩ := ih2 rfl (by rw [size_set]; omega) _ (D1.set hn pe1.gs)
      exact ⟨a2, D2, pe2, .resumeSuspended (s := withG _ a) (e1.trans hg) r1 hq r2⟩
  | resumeJustStarted hg hv _ ih =>
    intro hf hz a D
    rcases D.ca hg with ⟨x, _, sx, _, e2⟩ | ⟨hn, e1, _⟩
    · rw [e2] at hg
      obtain ⟨_, _, _, _, _, _, rfl⟩ := sx
      cases hg
    · obtain ⟨a', D', pe, r⟩ := ih rfl hz a D
      exact ⟨a', D', pe, .resumeJustStarted (s := withG _ a) (e1.trans hg) hv r⟩
  | resumeThrowFresh hg _ ih =>
    intro hf hz a D
    rcases D.ca hg with ⟨x, _, sx, _, e2⟩ | ⟨hn, e1, _⟩
    · rw [e2] at hg
      obtain ⟨_, _, _, _, _, _, rfl⟩ := sx
      cases hg
    · obtain ⟨a', D', pe, r⟩ := ih rfl (by rw [size_set]; exact hz) _ (D.set (x := .finished) hn trivial)
      exact ⟨a', D', pe, .resumeThrowFresh (s := withG _ a) (e1.trans hg) r⟩
  | resumeRunning hg _ ih =>
    intro hf hz a D
    rcases D.ca hg with ⟨x, _, sx, _, e2⟩ | ⟨hn, e1, _⟩
    · rw [e2] at hg
      obtain ⟨_, _, _, _, _, _, rfl⟩ := sx
      cases hg
    · obtain ⟨a', D', pe, r⟩ := ih rfl hz a D
      exact ⟨a', D', pe, .resumeRunning (s := withG _ a) (e1.trans hg) r⟩
  | resumeFinished hg _ ih =>
    intro hf hz a D
    rcases D.ca hg with ⟨x, _, sx, _, e2⟩ | ⟨hn, e1, _⟩
    · rw [e2] at hg
      obtain ⟨_, _, _, _, _, _, rfl⟩ := sx
      cases hg
    · obtain ⟨a', D', pe, r⟩ := ih rfl hz a D
      exact ⟨a', D', pe, .resumeFinished (s := withG _ a) (e1.trans hg) r⟩
  | segRet h1 _ ih1 ih2 =>
    intro hf hz a D
    obtain ⟨a1, D1, _, r1⟩ := ih1 rfl hz a D
    obtain ⟨a2, D2, pe, r2⟩ := ih2 (split_tail hf) (Nat.le_trans hz (gens_le h1)) a1 D1
    exact ⟨a2, D2, pe, .segRet r1 r2⟩
  | segGen _ _ _ _ => exact fun hf => by cases hf
  | segSuspOut hs _ ih =>
    intro hf hz a D
    obtain ⟨a1, D1, pe, r1⟩ := ih rfl hz a D
    exact ⟨a1, D1, split_app pe hs, .segSuspOut hs r1⟩
  | segSuspGen hs _ _ _ _ _ => exact fun hf => by rw [hf] at hs; cases hs

theorem wp_still {α : Type} {z : Array GenState} {Γ : Ctx} (t : Sem α) : ∀ {Q : α → Pos → Shared → Prop} {E : Value → Pos → Shared → Prop} {p : Pos} {s : Shared}, z.size ≤ s.gens.size → ∀ a, Dim z a s.gens → wp M Γ t Q E p s →
    wp M Γ t (fun x p' s' => ∃ b, Dim z s'.gens b ∧ Q x p' (withG s' b)) (fun x p' s' => ∃ b, Dim z s'.gens b ∧ E x p' (withG s' b)) p (withG s a) := by
  induction t with
  | pure x => exact fun _ a D h => ⟨_, D, h⟩
  | raise x => exact fun _ a D h => ⟨_, D, h⟩
  | unsupported _ => exact fun _ a D h => h
  | finish _ => exact fun _ a D h => h
  | register _ _ => exact fun _ a D h => h
  | yield _ _ _ _ => exact fun _ a D h => h
  | fork _ _ => exact fun _ a D h => h
  | await _ _ _ _ _ => exact fun _ a D h => h
  | rule _ k ih => exact fun hz a D h => ih () hz a D h
  | «at» p' k ih => exact fun hz a D h => ih () hz a D h
  | load _ _ k ih => exact fun hz a D ⟨o, ho, h⟩ => ⟨o, ho, ih o hz a D h⟩
  | update c _ f k ih => exact fun {Q E p s} hz a D h => ⟨h.1, ih () (s := { s with heap := s.heap.update c f }) hz a D h.2⟩
  | loadIfAlive _ k ih => exact fun hz a D h => ih _ hz a D h
  | point _ k ih => exact fun hz a D h => ih () hz a D h
  | alloc o k ih => exact fun {Q E p s} hz a D h => ih _ (s := { s with heap := s.heap.push o }) hz a D h
  | fresh k ih => exact fun {Q E p s} hz a D h => ih _ (s := { s with toks := s.toks + 1 }) hz a D h
  | ask k ih => exact fun hz a D h => ih _ hz a D h
  | choose src m k ih => exact fun {Q E p s} hz a D h => ⟨h.1, ih _ (s := { s with drawn := s.drawn.bump src }) hz a D h.2⟩
  | os q _ k ih => exact fun {Q E p s} hz a D h => ih _ (s := { s with os := (Os.step s.os q).1 }) hz a D h
  | call c hd _ _ k ih =>
    intro Q E p s hz a D h
    obtain ⟨r, s', hr, h⟩ := h
    obtain ⟨a', D', _, r'⟩ := runs_still hr rfl hz a D
    exact ⟨r, _, r', ih r (Nat.le_trans hz (gens_le hr)) a' D' h⟩
  | handled own k ih => exact fun hz a D h => ih _ hz a D h
  | genState g k ih =>
    intro Q E p s hz a D h
    obtain ⟨st, hs, h⟩ := h
    obtain ⟨st', e1, e2⟩ := D.gen hs
    exact ⟨st', e1, by rw [e2]; exact ih _ hz a D h⟩
  | newGen c k ih =>
    intro Q E p s hz a D h
    have e : a.size = _ := D.size
    show wp M Γ (k a.size) _ _ p (withG s (a.push (.fresh c)))
    rw [e]
    exact ih _ (s := { s with gens := s.gens.push (.fresh c) }) (by simp; omega) _ (D.push hz trivial) h
  | resume g r l k ih =>
    intro Q E p s hz a D h
    rw [Sem.wp_resume] at h ⊢
    obtain ⟨res, s', hw, h⟩ := h
    have key : ∃ a', Dim z a' s'.gens ∧ z.size ≤ s'.gens.size ∧ Wakes M Γ p g r (withG s a) res (withG s' a') := by
      unfold Wakes at hw ⊢
      split at hw
      · exact hw.elim
      · rename_i c hg
        rcases D.ca hg with ⟨x, _, sx, _, e2⟩ | ⟨hn, e1, _⟩
        · rw [e2] at hg
          obtain ⟨_, _, _, _, _, _, rfl⟩ := sx
          cases hg
        · have hg' : (withG s a).gens[g]? = some (.fresh c) := e1.trans hg
          rw [hg']
          split at hw
          · obtain ⟨e₁, s₁, hr, hq, e3, e4⟩ := hw
            obtain ⟨a1, D1, pe1, r1⟩ := runs_still hr rfl (by rw [size_set]; exact hz) _ (D.set (x := .running) hn trivial)
            have z1 := gens_le hr
            rw [size_set] at z1
            subst e4
            exact ⟨_, D1.set hn pe1.gs, by rw [size_set]; omega, e₁, _, r1, hq, e3, rfl⟩
          · obtain ⟨e3, e4⟩ := hw
            subst e4
            exact ⟨a, D, hz, e3, rfl⟩
          · obtain ⟨e3, e4⟩ := hw
            subst e4
            exact ⟨_, D.set (x := .finished) hn trivial, by rw [size_set]; exact hz, e3, rfl⟩
      · rename_i k0 l0 c0 p0 fs0 cl hg
        rcases D.ca hg with ⟨x, _, sx, _, e2⟩ | ⟨hn, e1, hp⟩
        · rw [e2] at hg
          obtain ⟨_, _, _, _, _, _, rfl⟩ := sx
          cases hg
          obtain ⟨e₁, s₁, hr, _⟩ := hw
          exact (runs_uns hr).elim
        · have hg' : (withG s a).gens[g]? = some (.suspended k0 l0 c0 p0 fs0 cl) := e1.trans hg
          rw [hg']
          obtain ⟨e₁, s₁, hr, hq, e3, e4⟩ := hw
          obtain ⟨a1, D1, pe1, r1⟩ := runs_still hr (hp _ hg) (by rw [size_set]; exact hz) _ (D.set (x := .running) hn trivial)
          have z1 := gens_le hr
          rw [size_set] at z1
          subst e4
          exact ⟨_, D1.set hn pe1.gs, by rw [size_set]; omega, e₁, _, r1, hq, e3, rfl⟩
      · rename_i hg
        rcases D.ca hg with ⟨x, _, sx, _, e2⟩ | ⟨hn, e1, _⟩
        · rw [e2] at hg
          obtain ⟨_, _, _, _, _, _, rfl⟩ := sx
          cases hg
        · have hg' : (withG s a).gens[g]? = some .running := e1.trans hg
          rw [hg']
          obtain ⟨e3, e4⟩ := hw
          subst e4
          exact ⟨a, D, hz, e3, rfl⟩
      · rename_i hg
        rcases D.ca hg with ⟨x, _, sx, _, e2⟩ | ⟨hn, e1, _⟩
        · rw [e2] at hg
          obtain ⟨_, _, _, _, _, _, rfl⟩ := sx
          cases hg
        · have hg' : (withG s a).gens[g]? = some .finished := e1.trans hg
          rw [hg']
          obtain ⟨e3, e4⟩ := hw
          subst e4
          exact ⟨a, D, hz, e3, rfl⟩
    obtain ⟨a', D', z', w'⟩ := key
    exact ⟨res, _, w', ih res z' a' D' h⟩
  | stack k ih => exact fun hz a D h => ih _ hz a D h
  | thread k ih => exact fun hz a D h => ih _ hz a D h
/-- the same gens, sleepers dull -/
def dim (z : Array GenState) : Array GenState := z.map dull
theorem dim_dim (z : Array GenState) : Dim z z (dim z) where
  size := by simp [dim]
  old := fun i x h1 h2 => ⟨h1, by simp [dim, h1]⟩
  new := fun i h => by
    have e : (dim z)[i]? = z[i]? := by
      unfold dim
      rw [Array.getElem?_map]
      cases q : z[i]? with
      | none => rfl
      | some x =>
        have n := h x q
        cases x with
        | suspended k l c p fs cl => exact (n ⟨k, l, c, p, fs, cl, rfl⟩).elim
        | fresh c => rfl
        | running => rfl
        | finished => rfl
    refine ⟨e.symm, fun y hy => ?_⟩
    rw [e] at hy
    have n := h y hy
    cases y with
    | suspended k l c p fs cl => exact (n ⟨k, l, c, p, fs, cl, rfl⟩).elim
    | fresh c => trivial
    | running => trivial
    | finished => trivial
theorem dull_bare {x : GenState} (h : x.bare = true) : (dull x).bare = true := by cases x <;> exact h
theorem dim_bare {z : Array GenState} (h : PyProof.Rows.AllBare z) : PyProof.Rows.AllBare (dim z) := fun x hx => by
  obtain ⟨i, hi, e⟩ := Array.mem_iff_getElem.mp hx
  have hi' : i < z.size := by simpa [dim] using hi
  have e2 : x = dull z[i] := by rw [← e]; simp [dim]
  rw [e2]
  exact dull_bare (h _ (Array.getElem_mem hi'))
theorem Dim.kept {z a b : Array GenState} (D : Dim z a b) : Kept z a := fun i x h1 h2 => (D.old i x h1 h2).1
end
end EV
end

section
set_option maxHeartbeats 4000000
/-! EV57: one stretch of a generator's run, from a wake to the next sleep. -/
namespace EV
open PySem
open Sem (wp)
section
variable {M : Model} {A : Around} {F : End → Shared → Prop} {c : Code} {fs : List PySem.Frame} {s : Shared}
theorem sg_wrap {α : Type} {m : Sem α} {K : α → Sem PySem.Fin} {J : Value → Sem PySem.Fin} {gd : Bool → Bool} {lv : List Value → List Value}
    (h : wpAny M (A.over c fs) m (fun a s' => Sg M A F c (K a) fs s') (fun x s' => Sg M A F c (J x) fs s') s) : Sg M A F c (m.wrap K J gd lv) fs s := by
  rintro Γ p rfl hΓ
  exact runs_wrap_of_wp K J gd lv m (h (Γ.over fs) p (hΓ.over fs)) (fun a p' s' h' => h' Γ p' rfl hΓ) (fun x p' s' h' => h' Γ p' rfl hΓ)
theorem sg_bind {α : Type} {m : Sem α} {K : α → Sem PySem.Fin} (h : wpAny M (A.over c fs) m (fun a s' => Sg M A F c (K a) fs s') (fun x s' => Sg M A F c (.raise x) fs s') s) : Sg M A F c (m >>= K) fs s := by
  rw [Sem.bind_eq_wrap']
  exact sg_wrap h
theorem sg_bindw {α β : Type} {m : Sem α} {f : α → Sem β} {K : β → Sem PySem.Fin} {J : Value → Sem PySem.Fin} {gd : Bool → Bool} {lv : List Value → List Value}
    (h : wpAny M (A.over c fs) m (fun a s' => Sg M A F c ((f a).wrap K J gd lv) fs s') (fun x s' => Sg M A F c (J x) fs s') s) : Sg M A F c ((m >>= f).wrap K J gd lv) fs s := by
  rw [Sem.bind_eq_wrap' m f, Sem.wrap_wrap]
  exact sg_wrap h
theorem sg_at {p' : Pos} {k : Unit → Sem PySem.Fin} (h : Sg M A F c (k ()) fs s) : Sg M A F c (.at p' k) fs s := sg_wrap (m := standAt p') (K := k) (J := .raise) (gd := id) (lv := id) (wpAny_standAt h)
theorem sg_point {l : List Value} {k : Unit → Sem PySem.Fin} (h : Sg M A F c (k ()) fs s) : Sg M A F c (.point l k) fs s := sg_wrap (m := point) (K := k) (J := .raise) (gd := id) (lv := fun _ => l) (wpAny_point h)
theorem sg_call {c' : Code} {hh : Option Value} {g : Bool} {l : List Value} {k : Result → Sem PySem.Fin} (h : ∀ p, Sg M A F c' (M.den c') (.ret k hh g l c p [] :: fs) s) : Sg M A F c (.call c' hh g l k) fs s := by
  rintro Γ p rfl hΓ
  obtain ⟨e, s', hr, he⟩ := h p (Γ.goto c') p rfl (hΓ.goto c')
  exact ⟨e, s', runs_call_seg hr, he⟩
theorem sg_leaf {k : Result → Sem PySem.Fin} {hh : Option Value} {g : Bool} {l kp : List Value} {c₁ : Code} {p₁ : Pos} (r : Result) (h : Sg M A F c₁ (k r) fs s) : Sg M A F c (leafOf r) (.ret k hh g l c₁ p₁ kp :: fs) s := by
  rintro Γ p rfl hΓ
  obtain ⟨e, s', hr, he⟩ := h (Γ.goto c₁) p₁ rfl (hΓ.goto c₁)
  exact ⟨e, s', Runs.pop r hr, he⟩
theorem sg_again {c' : Code} (hq : c'.quiet = true) (h : Sg M A F c' (M.den c') fs s) : Sg M A F c (.pure (.again c')) fs s := by
  rintro Γ p rfl hΓ
  obtain ⟨e, s', hr, he⟩ := h (Γ.goto c') p rfl (hΓ.goto c')
  exact ⟨e, s', Runs.head (c₁ := c') (fun _ _ x => .again hq x) hr, he⟩
theorem sg_end (r : Result) (h : F (.ret r) s) : Sg M A F c (leafOf r) [] s := by
  rintro Γ p rfl _
  exact ⟨.ret r, s, Runs.leaf r, h⟩
theorem sg_yield {v : Value} {g : Bool} {l : List Value} {k : Resume → Sem PySem.Fin} (hs : splitAtGen fs = none) (h : ∀ p, F (.susp v g l k c p fs) s) : Sg M A F c (.yield v g l k) fs s := by
  rintro Γ p rfl _
  exact ⟨_, s, Runs.yield' fs hs, h p⟩
section
variable {env : PySem.Env} {K : Flow → Sem PySem.Fin} {J : Value → Sem PySem.Fin} {gd : Bool → Bool} {lv : List Value → List Value}
theorem sg_nil (h : Sg M A F c (K .next) fs s) : Sg M A F c ((execs [] env).wrap K J gd lv) fs s := h
theorem sg_cons {st : Stmt} {rest : List Stmt} (h : Sg M A F c ((exec st env).wrap (fun f => match f with | .next => (execs rest env).wrap K J gd lv | f => K f) J gd lv) fs s) : Sg M A F c ((execs (st :: rest) env).wrap K J gd lv) fs s := by
  rw [execs_cons_wrap]
  exact h
end
end
section
variable {P : Program} {w : World} {A : Around} {F : End → Shared → Prop} {fs : List PySem.Frame} {s : Shared} {env : PySem.Env}
theorem sg_func {body : List Stmt} (h : Sg (model P w) A F (.func body env) ((execs body env).wrap (fun f => .pure (.done (.ret (match f with | .ret v => v | _ => .none)))) (fun e => (leaving env e).wrap (fun _ => .raise e) .raise id id) id id) fs s) :
    Sg (model P w) A F (.func body env) ((model P w).den (.func body env)) fs s := by
  show Sg _ A F _ (.point [] fun _ => ((execs body env).onRaise (leaving env)) >>= _) fs s
  refine sg_point ?_
  rw [Sem.onRaise_eq_wrap, Sem.bind_eq_wrap' (Sem.wrap _ _ _ _ (execs body env)) _, Sem.wrap_wrap, Sem.wrap_congr (execs body env) (K' := fun f => .pure (.done (.ret (match f with | .ret v => v | _ => .none))))
    (H' := fun e => (leaving env e).wrap (fun _ => .raise e) .raise id id) _ _ (fun f => by cases f <;> rfl) (fun e => by rw [Sem.bind_eq_wrap, Sem.wrap_wrap]; rfl)]
  exact h
end
end EV
end

section
set_option maxHeartbeats 4000000
/-! EV58: what is gone never comes back. -/
namespace EV
open PySem
open Sem (wp)
theorem size_upd (h : Heap) (a : Addr) (f : Obj → Obj) : (h.update a f).objs.size = h.objs.size := by cases h; simp [Heap.update]
theorem Mono.update {h : Heap} {a : Addr} {f : Obj → Obj} (ha : (h.get? a).isSome) : Mono h (h.update a f) := by
  refine ⟨Nat.le_of_eq (size_upd h a f).symm, fun b _ e => ?_⟩
  have ne : a ≠ b := fun z => by rw [← z] at e; rw [e] at ha; cases ha
  rw [Heap.get?_update_other _ _ ne]; exact e
section
variable {M : Model}
theorem runs_mono {Γ : Ctx} {p : Pos} {t : Sem PySem.Fin} {fs : List PySem.Frame} {s s' : Shared} {e : End} (h : Runs M Γ p t fs s e s') : Mono s.heap s'.heap := by
  induction h with
  | update ho _ ih => exact (Mono.update ho).trans ih
  | alloc _ ih => exact Mono.push.trans ih
  | call _ _ ih1 ih2 => exact ih1.trans ih2
  | resumeFresh _ _ _ _ ih1 ih2 => exact ih1.trans ih2
  | resumeSuspended _ _ _ _ ih1 ih2 => exact ih1.trans ih2
  | segRet _ _ ih1 ih2 => exact ih1.trans ih2
  | segGen _ _ ih1 ih2 => exact ih1.trans ih2
  | segSuspGen _ _ _ _ ih1 ih2 => exact ih1.trans ih2
  | _ => first | exact Mono.refl _ | assumption
theorem wakes_mono {Γ : Ctx} {p : Pos} {g : Nat} {r : Resume} {s s' : Shared} {res : GenResult} (h : Wakes M Γ p g r s res s') : Mono s.heap s'.heap := by
  unfold Wakes at h
  split at h
  · exact h.elim
  · split at h
    · obtain ⟨e₁, s₁, hr, _, _, rfl⟩ := h
      have q : Mono (s.setGen g .running).heap s₁.heap := runs_mono hr
      exact q
    · rw [h.2]; exact Mono.refl _
    · rw [h.2]; exact Mono.refl _
  · obtain ⟨e₁, s₁, hr, _, _, rfl⟩ := h
    have q : Mono (s.setGen g .running).heap s₁.heap := runs_mono hr
    exact q
  · rw [h.2]; exact Mono.refl _
  · rw [h.2]; exact Mono.refl _
theorem wp_mn {α : Type} {Γ : Ctx} {h₀ : Heap} (t : Sem α) : ∀ {Q : α → Pos → Shared → Prop} {E : Value → Pos → Shared → Prop} {p : Pos} {s : Shared}, Mono h₀ s.heap → wp M Γ t Q E p s →
    wp M Γ t (fun x p' s' => Mono h₀ s'.heap ∧ Q x p' s') (fun x p' s' => Mono h₀ s'.heap ∧ E x p' s') p s := by
  induction t with
  | pure x => exact fun m h => ⟨m, h⟩
  | raise x => exact fun m h => ⟨m, h⟩
  | unsupported _ => exact fun m h => h
  | finish _ => exact fun m h => h
  | register _ _ => exact fun m h => h
  | yield _ _ _ _ => exact fun m h => h
  | fork _ _ => exact fun m h => h
  | await _ _ _ _ _ => exact fun m h => h
  | rule _ k ih => exact fun m h => ih () m h
  | «at» p' k ih => exact fun m h => ih () m h
  | load _ _ k ih => exact fun m ⟨o, ho, h⟩ => ⟨o, ho, ih o m h⟩
  | update c _ f k ih => exact fun {Q E p s} m h => ⟨h.1, ih () (s := { s with heap := s.heap.update c f }) (m.trans (Mono.update h.1)) h.2⟩
  | loadIfAlive _ k ih => exact fun m h => ih _ m h
  | point _ k ih => exact fun m h => ih () m h
  | alloc o k ih => exact fun {Q E p s} m h => ih _ (s := { s with heap := s.heap.push o }) (m.trans Mono.push) h
  | fresh k ih => exact fun {Q E p s} m h => ih _ (s := { s with toks := s.toks + 1 }) m h
  | ask k ih => exact fun m h => ih _ m h
  | choose src n k ih => exact fun {Q E p s} m h => ⟨h.1, ih _ (s := { s with drawn := s.drawn.bump src }) m h.2⟩
  | os q _ k ih => exact fun {Q E p s} m h => ih _ (s := { s with os := (Os.step s.os q).1 }) m h
  | call c hd _ _ k ih => exact fun m ⟨r, s', hr, h⟩ => ⟨r, s', hr, ih r (m.trans (runs_mono hr)) h⟩
  | handled own k ih => exact fun m h => ih _ m h
  | genState g k ih => exact fun m ⟨st, hs, h⟩ => ⟨st, hs, ih _ m h⟩
  | newGen c k ih => exact fun {Q E p s} m h => ih _ (s := { s with gens := s.gens.push (.fresh c) }) m h
  | resume g r l k ih =>
    intro Q E p s m h
    rw [Sem.wp_resume] at h ⊢
    obtain ⟨res, s', hw, h⟩ := h
    exact ⟨res, s', hw, ih res (m.trans (wakes_mono hw)) h⟩
  | stack k ih => exact fun m h => ih _ m h
  | thread k ih => exact fun m h => ih _ m h
theorem wpAny_mn {α : Type} {A : Around} {t : Sem α} {Q : α → Shared → Prop} {E : Value → Shared → Prop} {s : Shared} (h : wpAny M A t Q E s) :
    wpAny M A t (fun x s' => Mono s.heap s'.heap ∧ Q x s') (fun x s' => Mono s.heap s'.heap ∧ E x s') s := fun Γ p hΓ => wp_mn t (Mono.refl _) (h Γ p hΓ)
end
end EV
end

section
set_option maxHeartbeats 4000000
/-! EV59: a generator's body: its contexts, one for each stretch; what a stretch keeps. -/
namespace EV
open PySem L2 PyProof.Rows
theorem fam_owns {F : Fam} {s₀ : Shared} {H₀ : Hp} {E : XK} : PassesOwn (model (F.X s₀ H₀ E).prog (F.X s₀ H₀ E).w) (F.X s₀ H₀ E).A (F.X s₀ H₀ E).env (F.X s₀ H₀ E).xe :=
  passes_of (X := F.X s₀ H₀ E) (K := fun e s'' => L2N.CX F.P F.w F.outer H₀ s₀ E e s'' ∧ s''.heap.get? F.ga = some F.go) (E₁ := fun _ _ => False) rfl
section
variable {F : Fam} {q : Wk} {sl : Addr → Prop} {ip : List (Addr × Obj)} {σ : L2.St} {S H : Hp} {L : Nat → Option Addr} {s : Shared}
/-- it ends -/
theorem GE.ended (I : GE F q ip σ S H L s) : Turned F q.s q.Hc q.S H S s := by
  have os : s.os = q.s.os := I.inv.os
  refine ⟨os, I.inv.bare, I.un (fun b h => h) fun b o h => I.old h, I.inv.hok, ⟨I.stp.s, fun b o h => I.old h, I.sb, fun b h1 h2 => ?_⟩, I.gen⟩
  cases z : q.Hc b with
  | none => exact absurd z h1
  | some o => exact I.stp.hid b (by rw [(I.hc b o z).1]; intro w; cases w) h2 (I.hc b o z).2
end
end EV
end

section
set_option maxHeartbeats 4000000
/-! EV61: statements of a generator's body as partial functions: rules. -/
namespace EV
open PySem L2 PyProof.Rows
def ZE (F : Fam) (T : Tab) (e : Expr) (f : FE) : Prop := ∀ s H (E : XK), EE (F.X s H E) T (fun cls d _ H' => E cls d H') e f
def ZSS (F : Fam) (T : Tab) (st : Stmt) (g : FS) : Prop := ∀ s H (E : XK), SS (F.X s H E) T (fun cls d _ H' => E cls d H') st g
def zRs (yd : List D) (x : Xn) (ρ : Env) : Option (List D × Out) := if yd = [] then some (yd, .rs x ρ) else none
theorem zRs_some {yd : List D} {x : Xn} {ρ : Env} {r : List D × Out} (h : zRs yd x ρ = some r) : yd = [] ∧ r = ([], .rs x ρ) := by
  unfold zRs at h
  split at h
  · rename_i e
    cases h
    exact ⟨e, by rw [e]⟩
  · cases h
def zPl (g : FS) : GFS := fun yd ρ => match g ρ with
  | some (.nx ρ') => some (yd, .nx ρ')
  | some (.bk ρ') => some (yd, .bk ρ')
  | some (.ct ρ') => some (yd, .ct ρ')
  | some (.rt .non) => some (yd, .rt .non)
  | some (.rs x ρ') => zRs yd x ρ'
  | _ => none
def zNil : GFS := fun yd ρ => some (yd, .nx ρ)
def zSeq (a b : GFS) : GFS := fun yd ρ => match a yd ρ with
  | some (yd', .nx ρ') => b yd' ρ'
  | o => o
theorem app_self {α : Type} {a w : List α} (h : a = a ++ w) : w = [] := by
  have := congrArg List.length h
  rw [List.length_append] at this
  exact List.length_eq_zero_iff.mp (by omega)
section
variable {F : Fam} {T : Tab} {q q' : Wk} {sl : Addr → Prop} {ip : List (Addr × Obj)} {σ : L2.St} {ρ : EV.Env} {S H : Hp} {L : Nat → Option Addr} {s s' : Shared}
variable {c c' : Code} {fs : List PySem.Frame} {K : Flow → Sem PySem.Fin} {J : Value → Sem PySem.Fin} {gd : Bool → Bool} {lv : List Value → List Value} {o : Out} {zs zs' w : List D}
variable {st : Stmt} {rest body els : List Stmt} {g : FS} {gg g1 g2 : GFS} {e ce : Expr} {f fc : FE} {pos yp : Pos} {fg : FG} {is : List Nat}
abbrev zS (F : Fam) (st : Stmt) : Sem Flow := exec st F.env
abbrev zSs (F : Fam) (st : List Stmt) : Sem Flow := execs st F.env
theorem zPl_ext (g : FS) : Ext (zPl g) := fun yd ρ r h => by
  unfold zPl at h
  split at h <;> first | cases h | skip
  all_goals first | (obtain ⟨e, rfl⟩ := zRs_some h; exact ⟨[], by simp [e]⟩) | exact ⟨[], by simp⟩
theorem gz_pl (h : ZSS F T st g) : GZ F T (zS F st) (zPl g) := by
  refine ⟨zPl_ext g, fun q sl ip yd zs w c fs K J gd lv s ρ σ S H L r gc I rp e hw he k hx => ?_⟩
  refine sg_wrap ?_
  rw [gc.over]
  unfold zPl at e
  cases eg : g ρ with
  | none => rw [eg] at e; cases e
  | some o =>
    rw [eg] at e
    have run := fun (Dn : Ends) (fin : SEnd T (fun cls d _ H' => q.E cls d H') Dn S H L o) => wpAny_mn ((h (cutS F.lc q.s) (cutH F.lc q.H) q.E).run ip s σ H Dn I.inv ⟨ρ, S, L, o, rp, eg, fin⟩)
    have exc : ∀ (x : Value) (s' : Shared), Mono s.heap s'.heap ∧ (F.X (cutS F.lc q.s) (cutH F.lc q.H) q.E).xe x s' → Sg F.M F.A (Pq F T (w ++ zs) q) c (J x) fs s' := fun x s' hx => k.exc q _ x s' he I.fst hx.2
    cases o with
    | nx ρ1 =>
      cases e
      have w0 := app_self hw; subst w0
      refine wpAny_mono (run ⟨fun σ' H' => ∃ S' L', Rep T ρ1 σ' S' H' L' ∧ Stp S H L S' H' L', fun _ _ => False, fun _ _ => False, fun _ _ => False⟩ fun σ' S' H' L' r s => ⟨S', L', r, s⟩) (fun fl s' ⟨m, hs⟩ => ?_) exc
      cases fl with
      | next =>
        obtain ⟨σ', H', J', S', L', r', st'⟩ := hs
        exact (k.ok q ρ1 σ' S' H' L' s' he (fun _ => ⟨rfl, st'⟩) st'.s (I.step J' r'.sub st' m) r').1 rfl
      | brk => obtain ⟨_, _, _, z⟩ := hs; exact z.elim
      | cont => obtain ⟨_, _, _, z⟩ := hs; exact z.elim
      | ret u => obtain ⟨_, _, _, _, _, z⟩ := hs; exact z.elim
    | bk ρ1 =>
      cases e
      have w0 := app_self hw; subst w0
      refine wpAny_mono (run ⟨fun _ _ => False, fun _ _ => False, fun σ' H' => ∃ S' L', Rep T ρ1 σ' S' H' L' ∧ Stp S H L S' H' L', fun _ _ => False⟩ fun σ' S' H' L' r s => ⟨S', L', r, s⟩) (fun fl s' ⟨m, hs⟩ => ?_) exc
      cases fl with
      | brk =>
        obtain ⟨σ', H', J', S', L', r', st'⟩ := hs
        exact (k.ok q ρ1 σ' S' H' L' s' he (fun _ => ⟨rfl, st'⟩) st'.s (I.step J' r'.sub st' m) r').2.1 rfl
      | next => obtain ⟨_, _, _, z⟩ := hs; exact z.elim
      | cont => obtain ⟨_, _, _, z⟩ := hs; exact z.elim
      | ret u => obtain ⟨_, _, _, _, _, z⟩ := hs; exact z.elim
    | ct ρ1 =>
      cases e
      have w0 := app_self hw; subst w0
      refine wpAny_mono (run ⟨fun _ _ => False, fun _ _ => False, fun _ _ => False, fun σ' H' => ∃ S' L', Rep T ρ1 σ' S' H' L' ∧ Stp S H L S' H' L'⟩ fun σ' S' H' L' r s => ⟨S', L', r, s⟩) (fun fl s' ⟨m, hs⟩ => ?_) exc
      cases fl with
      | cont =>
        obtain ⟨σ', H', J', S', L', r', st'⟩ := hs
        exact (k.ok q ρ1 σ' S' H' L' s' he (fun _ => ⟨rfl, st'⟩) st'.s (I.step J' r'.sub st' m) r').2.2 rfl
      | next => obtain ⟨_, _, _, z⟩ := hs; exact z.elim
      | brk => obtain ⟨_, _, _, z⟩ := hs; exact z.elim
      | ret u => obtain ⟨_, _, _, _, _, z⟩ := hs; exact z.elim
    | rt d =>
      cases d with
      | non =>
        cases e
        have w0 := app_self hw; subst w0
        refine wpAny_mono (run ⟨fun _ _ => False, fun v H' => v = .non ∧ ∃ S' L', EV.Sub S' H' ∧ Stp S H L S' H' L', fun _ _ => False, fun _ _ => False⟩ fun v S' H' L' sb st i => ⟨by cases i; rfl, S', L', sb, st⟩) (fun fl s' ⟨m, hs⟩ => ?_) exc
        cases fl with
        | ret u =>
          obtain ⟨v, σ', H', J', rv, ev, S', L', sb, st'⟩ := hs
          subst ev
          have eu : u = Value.none := rv
          subst eu
          exact k.rt q ip σ' S' H' L' s' he (I.toGE.step J' sb st') rfl
        | next => obtain ⟨_, _, _, z⟩ := hs; exact z.elim
        | brk => obtain ⟨_, _, _, z⟩ := hs; exact z.elim
        | cont => obtain ⟨_, _, _, z⟩ := hs; exact z.elim
      | _ => cases e
    | rl ds => cases e
    | rs x ρ1 =>
      obtain ⟨ey, rfl⟩ := zRs_some e
      refine wpAny_mono (run ⟨fun _ _ => False, fun _ _ => False, fun _ _ => False, fun _ _ => False⟩ fun σ' S' H' L' cls d r s i => (hx x ρ1 rfl).2 σ' S' H' L' cls d r s i) (fun fl s' ⟨m, hs⟩ => ?_) exc
      cases fl with
      | next => obtain ⟨_, _, _, z⟩ := hs; exact z.elim
      | brk => obtain ⟨_, _, _, z⟩ := hs; exact z.elim
      | cont => obtain ⟨_, _, _, z⟩ := hs; exact z.elim
      | ret u => obtain ⟨_, _, _, _, _, z⟩ := hs; exact z.elim
theorem gz_nil : GZ F T (zSs F []) zNil := by
  refine ⟨fun yd ρ r h => by cases h; exact ⟨[], by simp⟩, fun q sl ip yd zs w c fs K J gd lv s ρ σ S H L r gc I rp e hw he k hx => ?_⟩
  cases e
  have w0 := app_self hw; subst w0
  exact sg_nil ((k.ok q ρ σ S H L s he (fun _ => ⟨rfl, Stp.refl⟩) (Same.refl S) I rp).1 rfl)
theorem zSeq_ext (h1 : Ext g1) (h2 : Ext g2) : Ext (zSeq g1 g2) := fun yd ρ r h => by
  unfold zSeq at h
  split at h
  · rename_i yd1 ρ1 q1
    obtain ⟨w1, e1⟩ := h1 _ _ _ q1
    obtain ⟨w2, e2⟩ := h2 _ _ _ h
    have e1 : yd1 = yd ++ w1 := e1
    exact ⟨w1 ++ w2, by rw [e2, e1, List.append_assoc]⟩
  · exact h1 _ _ _ h
theorem gz_seq (h1 : GZ F T (zS F st) g1) (h2 : GZ F T (zSs F rest) g2) : GZ F T (zSs F (st :: rest)) (zSeq g1 g2) := by
  refine ⟨zSeq_ext h1.ext h2.ext, fun q sl ip yd zs w c fs K J gd lv s ρ σ S H L r gc I rp e hw he k hx => ?_⟩
  refine sg_cons ?_
  unfold zSeq at e
  split at e
  · rename_i yd1 ρ1 q1
    obtain ⟨w1, e1⟩ := h1.ext _ _ _ q1
    obtain ⟨w2, e2⟩ := h2.ext _ _ _ e
    have e1 : yd1 = yd ++ w1 := e1
    have ew : w = w1 ++ w2 := by
      have : yd ++ w = yd ++ (w1 ++ w2) := by rw [← hw, e2, e1, List.append_assoc]
      exact List.append_cancel_left this
    subst ew
    rw [List.append_assoc] at he ⊢
    refine h1.run q sl ip yd (w2 ++ zs) w1 c fs _ J gd lv s ρ σ S H L _ gc I rp q1 e1 he ⟨fun q' ρ' σ' S' H' L' s' he' lnk ss I' rp' => ⟨fun eo => ?_, fun eo => (nomatch eo), fun eo => (nomatch eo)⟩, fun _ _ _ _ _ _ _ _ _ eo => (nomatch eo), k.exc⟩ fun x ρ' eo => (nomatch eo)
    cases eo
    refine h2.run q' sl ip yd1 zs w2 c fs K J gd lv s' _ σ' S' H' L' r gc I' rp' e e2 he' ⟨fun q2 ρ2 σ2 S2 H2 L2 s2 he2 lnk2 ss2 I2 rp2 => ?_, k.rt, k.exc⟩ fun x ρ2 eo => ?_
    · refine k.ok q2 ρ2 σ2 S2 H2 L2 s2 he2 (fun ew => ?_) (ss.trans ss2) I2 rp2
      obtain ⟨z1, z2⟩ := List.append_eq_nil_iff.mp ew
      obtain ⟨a1, a2⟩ := lnk z1
      obtain ⟨b1, b2⟩ := lnk2 z2
      exact ⟨b1.trans a1, a2.trans b2⟩
    · obtain ⟨z, fin⟩ := hx x ρ2 eo
      have zw : w1 = [] := by
        rw [z] at hw
        exact (List.append_eq_nil_iff.mp (List.append_eq_nil_iff.mp hw.symm).2).1
      obtain ⟨a1, a2⟩ := lnk zw
      subst a1
      exact ⟨z, fun σ3 S3 H3 L3 cls d r3 s3 i3 => fin σ3 S3 H3 L3 cls d r3 (a2.trans s3) i3⟩
  · rename_i hne
    refine h1.run q sl ip yd zs w c fs _ J gd lv s ρ σ S H L r gc I rp e hw he ⟨fun q' ρ' σ' S' H' L' s' he' lnk ss I' rp' => ⟨fun eo => ?_, fun eo => (k.ok q' ρ' σ' S' H' L' s' he' lnk ss I' rp').2.1 eo, fun eo => (k.ok q' ρ' σ' S' H' L' s' he' lnk ss I' rp').2.2 eo⟩, k.rt, k.exc⟩ hx
    obtain ⟨y, o⟩ := r
    have eo : o = .nx ρ' := eo
    subst eo
    exact (hne y ρ' e).elim
/-! ### if, yield -/
/-- behind an expression's step -/
theorem GK.later {S1 H1 : Hp} {L1 : Nat → Option Addr} (k : GK F T q S H L w sl ip c fs K J o zs) (st : Stp S H L S1 H1 L1) : GK F T q S1 H1 L1 w sl ip c fs K J o zs :=
  ⟨fun q' ρ' σ' S' H' L' s' he lnk ss I r => k.ok q' ρ' σ' S' H' L' s' he (fun e => ⟨(lnk e).1, st.trans (lnk e).2⟩) (st.s.trans ss) I r, k.rt, k.exc⟩
theorem Xok.later {S1 H1 : Hp} {L1 : Nat → Option Addr} {r : List D × Out} (h : Xok T q S H L r) (st : Stp S H L S1 H1 L1) : Xok T q S1 H1 L1 r := fun x ρ' e => ⟨(h x ρ' e).1, fun σ' S' H' L' cls d r s i => (h x ρ' e).2 σ' S' H' L' cls d r (st.trans s) i⟩
end
end EV
end

section
set_option maxHeartbeats 4000000
/-! EV62: loops of a generator's body. -/
namespace EV
open PySem L2 PyProof.Rows
section
variable {F : Fam} {T : Tab} {q q' : Wk} {sl : Addr → Prop} {ip : List (Addr × Obj)} {σ : L2.St} {ρ : EV.Env} {S H : Hp} {L : Nat → Option Addr} {s s' : Shared}
variable {c c' : Code} {fs : List PySem.Frame} {K : Flow → Sem PySem.Fin} {J : Value → Sem PySem.Fin} {gd : Bool → Bool} {lv : List Value → List Value} {o : Out} {zs zs' w : List D}
variable {st : Stmt} {rest body els : List Stmt} {g : FS} {gg g1 g2 : GFS} {e ce : Expr} {f fc : FE} {pos yp p : Pos} {fg : FG} {is : List Nat}
end
end EV
end

section
set_option maxHeartbeats 4000000
/-! EV63: while and for (over what is no generator) in a generator's body. -/
namespace EV
open PySem L2 PyProof.Rows
section
variable {F : Fam} {T : Tab} {q q' : Wk} {sl : Addr → Prop} {ip : List (Addr × Obj)} {σ : L2.St} {ρ : EV.Env} {S H : Hp} {L : Nat → Option Addr} {s s' : Shared}
variable {c c' : Code} {fs : List PySem.Frame} {K : Flow → Sem PySem.Fin} {J : Value → Sem PySem.Fin} {gd : Bool → Bool} {lv : List Value → List Value} {o : Out} {zs zs' w : List D}
variable {st : Stmt} {rest body els : List Stmt} {g : FS} {gg g1 g2 : GFS} {e ce tg iter : Expr} {f fc : FE} {pos yp p : Pos} {fg : FG} {is : List Nat} {fi : FL}
end
end EV
end

section
set_option maxHeartbeats 4000000
/-! EV64: a generator def: what a call of it gives. -/
namespace EV
open PySem L2 PyProof.Rows
/-- what a generator def hands out, as a function of data -/
def semG (n : Nat) (g : GFS) (ds : List D) : Option RL := match g [] (ds.map Sl.v ++ List.replicate (n - ds.length) Sl.no) with
  | some (ys, .nx _) => some (.ok ys)
  | some (ys, .rt .non) => some (.ok ys)
  | some ([], .rs x _) => some (.ex x)
  | _ => none
section
variable {P : Program} {w : World} {K : PySem.W.Frag} {mg : Str → Option Value} {base : Heap} {x qual : Str} {params : Arguments} {body : List Stmt} {scope : Scope} {dvs : List V} {kws : List (Str × V)} {f : Addr} {fd : FuncData} {N ps : List Str} {k : Nat} {T : Tab} {gg : GFS}
/-- THE RULE of a generator def -/
theorem gfn_ev (F : FunD K x qual params body scope dvs kws f fd) (Sc : GScope N ps scope)
    (hb : ∀ (cdv : Value) (A : Around) (outer : List PySem.Env) (lc : Nat) (ga : Addr) (g : Nat) (go : Obj) (rx : Bool), Room k (A.deeper (envOfC qual scope lc f cdv)) → GZ ⟨P, w, K, mg, base, N, qual, scope, f, cdv, A, outer, lc, ga, g, go, rx⟩ T (execs body (envOfC qual scope lc f cdv)) gg) :
    GnOk P w K mg base T (k + 1) f fd ps (semG N.length gg) := by
  obtain ⟨oc, od, dV, kV, doc, pm, an, cdv, ct, osl, rfl, lk, hcd, _, _⟩ := F.ex
  refine ⟨fun A outer s H S args us vs ds r hr e0 bt rv sb iy hl hs => ?_⟩
  have KX : K.In s.heap := e0.mod.kin.keeps fun b o e => (e0.bs b o e).1
  have lim : s.heap.NoLimit := e0.mod.nolimit.keeps fun b o e => (e0.bs b o e).1
  have hkd : ∀ y ∈ ps.zip us, scope.names.lookup y.1 = some .local ∨ (scope.names.lookup y.1 = some .cell ∧ ((cellsFrom (s.heap.objs.size + 1) scope.names []).lookup y.1).isSome = true) := fun ⟨n, v⟩ hy => by
    rcases Sc.par n (List.of_mem_zip hy).1 with z | z
    · exact .inl z
    · exact .inr ⟨z, PySem.W.cellsFrom_some _ _ _ (.inl z)⟩
  refine codeAny_call_generator hr.depth (KX _ _ lk) rfl Sc.co Sc.gen rfl (PySem.W.codeRec_of KX hcd) (bt _ _ _ _ ?_)
  refine wpAny_newFunctionEnv_cells Sc.kind hkd fun env he s1 y => ?_
  subst he
  refine ⟨lim.keeps y.toInCall.keep, ?_⟩
  obtain ⟨h1, tk, es1, hk1⟩ := y.done
  have os1 : s1.os = s.os := by rw [es1]
  have ge1 : s1.gens = s.gens := by rw [es1]
  have lt1 : s.heap.objs.size < s1.heap.objs.size := y.toInCall.ns.lt
  have kp1 : ∀ b o, s.heap.get? b = some o → s1.heap.get? b = some o := y.toInCall.keep
  -- all at once: the object by what is true of it
  suffices main : ∀ (go : Obj) (tk2 : Nat), GenO go s1.gens.size → (∀ v, go.data ≠ .cell v) → (∀ h : Heap, (h.push go).get? h.objs.size = some go) →
      Born P w K mg base T (k + 1) outer s S r (.ref s1.heap.objs.size) { s1 with gens := s1.gens.push (.fresh (.func body (envOfC qual scope s.heap.objs.size f cdv))), toks := tk2, heap := s1.heap.push go } from
    main _ _ ⟨_, _, rfl, rfl, rfl⟩ (fun v z => by cases z) fun h => Heap.get?_push_size _ rfl
  intro go tk2 hgo hnc hgp
  rw [ge1] at hgo
  have I0 := inv_startG (E := fun _ _ _ => False) Sc hr.hd e0 hl rv y
  have kpG : ∀ b o, s1.heap.get? b = some o → (s1.heap.push go).get? b = some o := fun b o e => Heap.get?_push_of_some _ e
  have hga : (s1.heap.push go).get? s1.heap.objs.size = some go := hgp _
  have keep : ∀ b o, s.heap.get? b = some o → (s1.heap.push go).get? b = some o := fun b o e => kpG b o (kp1 b o e)
  have bare' : AllBare (s1.gens.push (.fresh (.func body (envOfC qual scope s.heap.objs.size f cdv)))) := by
    rw [ge1]
    intro z hz
    rcases Array.mem_push.mp hz with h | h
    · exact e0.bare z h
    · rw [h]; rfl
  have sz1 : s.heap.objs.size ≤ (s1.heap.push go).objs.size := by rw [size_psh]; omega
  have hsl : s.heap.objs.size ≤ s1.heap.objs.size := Nat.le_of_lt lt1
  refine ⟨N, qual, scope, f, cdv, s1.heap.objs.size, go, _, Pv ⟨P, w, K, mg, base, N, qual, scope, f, cdv, A, outer, s.heap.objs.size, s1.heap.objs.size, s.gens.size, go, isEx r⟩ (fun _ => False) [] (fun _ => none), rfl, hgo, by rw [ge1], hga, fun b hb => ?_, .inr (.inr (.inl ⟨_, List.mem_cons_self, rfl⟩)), os1, keep, ?_⟩
  · rcases hb with z | ⟨x, z⟩ | ⟨p, hp, z⟩ | z | ⟨_, z⟩
    · subst z
      obtain ⟨o, es, ep, ho, _⟩ := y.toInCall.ns
      exact ⟨Nat.le_refl _, o, kpG _ _ ho⟩
    · have h1 := I0.ok.cab x b rfl z
      obtain ⟨v, o, ho, _⟩ := I0.cell x b z
      exact ⟨h1, o, kpG _ _ ho⟩
    · have hp := List.mem_singleton.mp hp
      subst hp
      have z : s1.heap.objs.size = b := z
      subst z
      exact ⟨hsl, go, hga⟩
    · exact z.elim
    · cases z
  intro A' s2 Hc Sc' E hrw hfr wk hXG
  have e0' : Env0 P w K mg base A' outer s H := ⟨hfr, e0.mod, e0.bs, e0.bsz, e0.funs, e0.frf, e0.hok, e0.bare⟩
  have I1 := inv_startG (E := fun _ _ _ => False) Sc hrw.hd e0' hl rv y
  have ok := I1.ok
  have flt : ∀ b ∈ frs outer, b < s.heap.objs.size := fun b hb => by
    obtain ⟨_, o, e, _⟩ := e0.funs.mem hb
    exact Heap.lt_size e
  have hbase : base.objs.size ≤ s.heap.objs.size := e0.bsz
  have ffs : (s1.heap.push go).FunFrames base outer := e0.funs.of_keeps fun b o e _ => ⟨o, keep b o e, rfl⟩
  have J : Inv (Fam.X ⟨P, w, K, mg, base, N, qual, scope, f, cdv, A', outer, s.heap.objs.size, s1.heap.objs.size, s.gens.size, go, isEx r⟩ (cutS s.heap.objs.size { s1 with gens := s1.gens.push (.fresh (.func body (envOfC qual scope s.heap.objs.size f cdv))), toks := tk2, heap := s1.heap.push go }) (cutH s.heap.objs.size H) E) [] (L2.start N vs) H
      { s1 with gens := s1.gens.push (.fresh (.func body (envOfC qual scope s.heap.objs.size f cdv))), toks := tk2, heap := s1.heap.push go } := by
    refine ⟨⟨ok.mod, ok.kind, ok.glob, ok.blt, cutA_le, ok.inj, ok.has, fun x c _ h => ?_, ok.hd, ok.frames, ok.stk, fun b hb => (by cases hb), fun b o e => ?_, ?_, fun _ _ _ hb => (by cases hb), fun b hb => (by cases hb), ff_cut ffs flt, fun b hb => ?_⟩, rfl, bare', ?_, ?_, fun x c h => ?_, I1.free, I1.freeC, fun p hp => ?_, e0.hok.kept keep, I1.len⟩
    · exact Nat.le_trans (show (cutS s.heap.objs.size _).heap.objs.size ≤ s.heap.objs.size from cutA_le) (I1.ok.cab x c rfl h)
    · have l : b < s.heap.objs.size := Nat.lt_of_lt_of_le (Heap.lt_size e) hbase
      exact ⟨(cutA_get l).trans (keep b o (e0.bs b o e).1), by show cutH _ H b = none; rw [cutH_lt l]; exact (e0.bs b o e).2⟩
    · show base.objs.size ≤ (cutA s.heap.objs.size (s1.heap.push go)).objs.size
      rw [cutA_size sz1]; exact hbase
    · show cutH _ H b = none
      rw [cutH_lt (flt b hb)]; exact e0.frf b hb
    · refine ⟨fun b o e _ _ _ => (cutA_lt e).2, fun b o e _ _ _ => ⟨o.slots, (cutA_lt e).2⟩, fun b o e n _ => ?_, fun b o e _ => ⟨o, (cutA_lt e).2⟩, fun b xs e => (cutH_some e).2, fun b o u e => (cutH_some e).2, fun b ps e => ⟨#[], by rw [(cutH_some e).2]; simp⟩⟩
      have n : cutH s.heap.objs.size H b = none := n
      rw [cutH_lt (cutA_lt e).1] at n
      exact n
    · obtain ⟨m, ⟨o, es, ep, ho, r⟩, hv⟩ := I1.loc
      refine ⟨m, ⟨o, es, ep, kpG _ _ ho, r⟩, fun i x v h1 h2 h3 => ?_⟩
      obtain ⟨u, rv, lk⟩ := hv i x v h1 h2 h3
      refine ⟨u, rv, ?_⟩
      rcases lk with lk | ⟨k, c, e, ⟨o, ho, hd⟩⟩
      · exact .inl lk
      · exact .inr ⟨k, c, e, o, kpG _ _ ho, hd⟩
    · obtain ⟨v, o, ho, hd⟩ := I1.cell x c h
      exact ⟨v, o, kpG _ _ ho, hd⟩
    · have hp := List.mem_singleton.mp hp
      subst hp
      refine ⟨hga, e0.hok.fresh hsl, Nat.ne_of_gt lt1, fun hm => ?_, hnc⟩
      exact absurd (Nat.lt_of_lt_of_le (flt _ hm) hsl) (Nat.lt_irrefl _)
  have en : Env0 P w K mg base A' outer { s1 with gens := s1.gens.push (.fresh (.func body (envOfC qual scope s.heap.objs.size f cdv))), toks := tk2, heap := s1.heap.push go } H :=
    ⟨hfr, e0.mod, fun b o e => ⟨keep b o (e0.bs b o e).1, (e0.bs b o e).2⟩, Nat.le_trans hbase sz1, ffs, e0.frf, e0.hok.kept keep, bare'⟩
  have G0 : GI ⟨P, w, K, mg, base, N, qual, scope, f, cdv, A', outer, s.heap.objs.size, s1.heap.objs.size, s.gens.size, go, isEx r⟩ ⟨{ s1 with gens := s1.gens.push (.fresh (.func body (envOfC qual scope s.heap.objs.size f cdv))), toks := tk2, heap := s1.heap.push go }, H, S, fun _ => none, H, E⟩ (fun _ => False) [] (L2.start N vs) S H (fun _ => none)
      { s1 with gens := s1.gens.push (.fresh (.func body (envOfC qual scope s.heap.objs.size f cdv))), toks := tk2, heap := s1.heap.push go } := by
    refine ⟨⟨J, sb, Stp.refl, fun b o e => ⟨e, fun i z => (by cases z)⟩, fun b h1 h2 => absurd h2 h1, sb, en, sz1, fun i b z => (by cases z), .inl rfl⟩, fun b h => h.elim, Mono.refl _, fun p hp => ?_⟩
    have hp := List.mem_singleton.mp hp
    subst hp
    exact hsl
  have rp0 : Rep T (ds.map Sl.v ++ List.replicate (N.length - ds.length) Sl.no) (L2.start N vs) S H (fun _ => none) := rep_start sb iy
  have pe : plus (Own (fun _ => False) (fun _ => none)) H Hc = Hc := funext fun b => plus_not fun h => by
    rcases h with h | ⟨_, h⟩
    · exact h
    · cases h
  obtain ⟨G1, rp1⟩ := G0.woken (E' := E) ⟨fun i b z => (by cases z), fun i b z => (by cases z)⟩ rp0 wk (.inl pe)
  refine sg_func ?_
  have gz := hb cdv A' outer s.heap.objs.size s1.heap.objs.size s.gens.size go (isEx r) (hrw.deeper _)
  have leaf : isEx r = false → ∀ (q' : Wk) (S' H' : Hp) (s' : Shared), Turned ⟨P, w, K, mg, base, N, qual, scope, f, cdv, A', outer, s.heap.objs.size, s1.heap.objs.size, s.gens.size, go, isEx r⟩ q'.s q'.Hc q'.S H' S' s' →
      Sg (model P w) A' (Pq ⟨P, w, K, mg, base, N, qual, scope, f, cdv, A', outer, s.heap.objs.size, s1.heap.objs.size, s.gens.size, go, isEx r⟩ T [] q') (.func body (envOfC qual scope s.heap.objs.size f cdv)) (leafOf (.ok (.ret .none))) [] s' := fun hx q' S' H' s' t =>
    sg_end _ (.inl ⟨hx, _, rfl, .inl rfl, H', S', t⟩)
  have key : ∀ g : List D × Out, gg [] (ds.map Sl.v ++ List.replicate (N.length - ds.length) Sl.no) = some g → g.1 = outs r → ((∃ ρ, g.2 = .nx ρ) ∨ g.2 = .rt .non → isEx r = false) → (∀ ρ, g.2 ≠ .bk ρ) → (∀ ρ, g.2 ≠ .ct ρ) → Xok T ⟨s2, plus (Own (fun _ => False) (fun _ => none)) H Hc, Sc', fun _ => none, Hc, E⟩ Sc' (plus (Own (fun _ => False) (fun _ => none)) H Hc) (fun _ => none) g →
      Sg (model P w) A' (Ph ⟨P, w, K, mg, base, N, qual, scope, f, cdv, A', outer, s.heap.objs.size, s1.heap.objs.size, s.gens.size, go, isEx r⟩ T (outs r) s2 Hc Sc' E) (.func body (envOfC qual scope s.heap.objs.size f cdv)) ((execs body (envOfC qual scope s.heap.objs.size f cdv)).wrap (fun f => .pure (.done (.ret (match f with | .ret v => v | _ => .none)))) (fun e => (leaving (envOfC qual scope s.heap.objs.size f cdv) e).wrap (fun _ => .raise e) .raise id id) id id) [] s2 := by
    intro g hg hw hnx hbk hct hx
    have gz := hb cdv A' outer s.heap.objs.size s1.heap.objs.size s.gens.size go (isEx r) (hrw.deeper _)
    have hE : Eok ⟨s2, plus (Own (fun _ => False) (fun _ => none)) H Hc, Sc', fun _ => none, Hc, E⟩ (outs r ++ []) := by
      cases r with
      | ok ys => exact .inl hXG
      | ex x => exact .inr rfl
    have R := gz.run ⟨s2, plus (Own (fun _ => False) (fun _ => none)) H Hc, Sc', fun _ => none, Hc, E⟩ (fun _ => False) [] [] [] (outs r) (.func body (envOfC qual scope s.heap.objs.size f cdv)) [] (fun f => .pure (.done (.ret (match f with | .ret v => v | _ => .none))))
      (fun e => (leaving (envOfC qual scope s.heap.objs.size f cdv) e).wrap (fun _ => .raise e) .raise id id) id id s2 _ _ Sc' _ (fun _ => none) g ⟨GenW.over_func, rfl, rfl, rfl⟩ G1 rp1 hg (by rw [hw]; rfl) hE ⟨fun q' ρ' σ' S' H' L' s' he lnk ss I' rp' => ⟨fun eo => leaf (hnx (.inl ⟨_, eo⟩)) q' S' H' s' I'.toGE.ended, fun eo => (hbk ρ' eo).elim, fun eo => (hct ρ' eo).elim⟩, fun q' ip' σ' S' H' L' s' he I' eo => leaf (hnx (.inr eo)) q' S' H' s' I'.ended, fun q' zs' x s' he hf hxe => ?_⟩ hx
    · rw [List.append_nil] at R
      exact R
    · refine sg_wrap ?_
      rw [GenW.over_func]
      have hxe' : wpAny (model P w) (A'.deeper (envOfC qual scope s.heap.objs.size f cdv)) (leaving (envOfC qual scope s.heap.objs.size f cdv) x) (fun _ s'' => L2N.CX P w outer (cutH s.heap.objs.size q'.H) (cutS s.heap.objs.size q'.s) q'.E x s'' ∧ s''.heap.get? s1.heap.objs.size = some go) (fun _ _ => False) s' := hxe
      refine wpAny_mono hxe' (fun _ s'' ⟨hc, hgo'⟩ => ?_) fun _ _ z => z.elim
      have noE : (∀ c d h, ¬ q'.E c d h) → False := fun z => by
        obtain ⟨_, _, _, _, _, _, _, _, _, _, _, _, h⟩ := hc
        exact z _ _ _ h
      rcases he with z | z
      · exact (noE z).elim
      · subst z
        rcases hf with z | z
        · refine sg_end (.error x) (.inr ⟨x, rfl, ?_, hgo'⟩)
          rw [← z]
          exact hc
        · exact (noE z).elim
  unfold semG at hs
  split at hs
  · rename_i ys ρ hg
    cases hs
    exact key _ hg rfl (fun _ => rfl) (fun _ z => by cases z) (fun _ z => by cases z) (fun x ρ' z => by cases z)
  · rename_i ys hg
    cases hs
    exact key _ hg rfl (fun _ => rfl) (fun _ z => by cases z) (fun _ z => by cases z) (fun x ρ' z => by cases z)
  · rename_i x ρ hg
    cases hs
    refine key _ hg rfl (fun z => by rcases z with ⟨_, z⟩ | z <;> cases z) (fun _ z => by cases z) (fun _ z => by cases z) (fun x' ρ' z => ?_)
    cases z
    refine ⟨rfl, fun σ' S' H' L' cls d r st i => ?_⟩
    have hp : plus (Own (fun _ => False) (fun _ => none)) H Hc = Hc := pe
    rw [hp] at st
    exact hXG S' H' cls d (st.kp0 r.sub) i
  · cases hs
end
end EV
end

section
set_option maxHeartbeats 4000000
/-! EV65: who takes from a generator: next. -/
namespace EV
open PySem L2 PyProof.Rows
open Sem (wp)
theorem wpAny_still' {M : Model} {α : Type} {A : Around} {t : Sem α} {Q : α → Shared → Prop} {E : Value → Shared → Prop} {s : Shared} (h : wpAny M A t Q E (withG s (dim s.gens))) :
    wpAny M A t (fun x s' => ∃ b, Dim s.gens s'.gens b ∧ s.gens.size ≤ b.size ∧ Q x (withG s' b)) (fun x s' => ∃ b, Dim s.gens s'.gens b ∧ s.gens.size ≤ b.size ∧ E x (withG s' b)) s := fun Γ p hΓ => by
  have h1 := GenW.wp_gsz M Γ s.gens.size t _ _ p (withG s (dim s.gens)) (by simp [dim]) (h Γ p hΓ)
  exact wp_still t (s := withG s (dim s.gens)) (by simp [dim]) s.gens (dim_dim s.gens) h1
/-- what is wanted of an exception does not look at sleepers -/
def XeG (X : Cx) : Prop := ∀ (e : Value) (s : Shared) (z b : Array GenState), AllBare z → Dim z s.gens b → z.size ≤ b.size → X.xe e (withG s b) → X.xe e s
theorem Inv.withG {X : Cx} {pins : List (Addr × Obj)} {σ : L2.St} {H : Hp} {s : Shared} {a : Array GenState} (I : Inv X pins σ H s) (h : AllBare a) : Inv X pins σ H (EV.withG s a) :=
  ⟨I.ok, I.os, h, I.base, I.loc, I.cell, I.free, I.freeC, I.pin, I.hok, I.len⟩
theorem Inv.ofG {X : Cx} {pins : List (Addr × Obj)} {σ : L2.St} {H : Hp} {s : Shared} {a : Array GenState} (I : Inv X pins σ H (EV.withG s a)) (h : AllBare s.gens) : Inv X pins σ H s :=
  ⟨I.ok, I.os, h, I.base, I.loc, I.cell, I.free, I.freeC, I.pin, I.hok, I.len⟩
theorem cx_unG {P : Program} {w : World} {outer : List PySem.Env} {H : Hp} {s₀ s : Shared} {E : XK} {e : Value} {z b : Array GenState} (hz : AllBare z) (D : Dim z s.gens b) (h : L2N.CX P w outer H s₀ E e (withG s b)) : L2N.CX P w outer H s₀ E e s := by
  obtain ⟨a, B, H', cls, d, h2, fl, h3, h4, h5, h6, h7, h8⟩ := h
  exact ⟨a, B, H', cls, d, h2, fl, h3, h4, h5, h6, D.bare hz h7, h8⟩
theorem wp_unG {α : Type} {M : Model} {A : Around} {t : Sem α} {Q : α → Shared → Prop} {E : Value → Shared → Prop} {s : Shared} {z b : Array GenState} (hQ : ∀ x s' b', Dim z s'.gens b' → Q x (withG s' b') → Q x s') (hE : ∀ x s' b', Dim z s'.gens b' → E x (withG s' b') → E x s')
    (D : Dim z s.gens b) (hs : z.size ≤ b.size) (h : wpAny M A t Q E (withG s b)) : wpAny M A t Q E s := fun Γ p hΓ =>
  Sem.wp_mono M Γ t (fun x p' s' ⟨b', D', h2⟩ => hQ x s' b' D' h2) (fun x p' s' ⟨b', D', h2⟩ => hE x s' b' D' h2) p s (wp_still t (s := withG s b) hs s.gens D (h Γ p hΓ))
/-- the contexts of defs -/
theorem xeG_cx {P : Program} {w : World} {K : PySem.W.Frag} {mg : Str → Option Value} {base : Heap} {N : List Str} {qual : Str} {scope : Scope} {f : Addr} {cd : Value} {A : Around} {outer : List PySem.Env} {s : Shared} {H : Hp} {E : XK} :
    XeG (cxOf (L2N.CX P w) P w K mg base N qual scope f cd A outer s H E) := fun e s' z b hz D hs h =>
  wp_unG (Q := fun _ s'' => L2N.CX P w outer H s E e s'') (E := fun e' s'' => L2N.CX P w outer H s E e' s'') (fun _ _ _ D' h2 => cx_unG hz D' h2) (fun _ _ _ D' h2 => cx_unG hz D' h2) D hs h
theorem wpAny_resumeZ {M : Model} {α : Type} {A : Around} {Φ : End → Shared → Prop} {s : Shared} {g : Nat} {gs : GenState} {l : List Value} {k : GenResult → Sem α} {Q : α → Shared → Prop} {E : Value → Shared → Prop} (hg : s.gens[g]? = some gs) (hgo : GoZ M A Φ gs (s.setGen g .running))
    (h : ∀ e s₁, Φ e s₁ → e.quiet = true ∧ wpAny M A (k e.result) Q E (s₁.setGen g e.genState)) : wpAny M A (.resume g (.send .none) l k) Q E s := by
  intro Γ p hΓ
  rw [Sem.wp_resume]
  have wk : ∀ c, (Γ.wake c p).Woken A := fun c => hΓ.wake c p
  cases gs with
  | fresh c =>
    obtain ⟨e₁, s₁, hr, he⟩ := hgo (Γ.wake c p) p rfl (wk c)
    obtain ⟨hq, hw⟩ := h e₁ s₁ he
    exact ⟨_, _, by unfold Wakes; rw [hg]; exact ⟨e₁, s₁, hr, hq, rfl, rfl⟩, hw Γ p hΓ⟩
  | suspended k₀ l₀ c₀ p₀ fs₀ cl =>
    obtain ⟨e₁, s₁, hr, he⟩ := hgo (Γ.wake c₀ p) p₀ rfl (wk c₀)
    obtain ⟨hq, hw⟩ := h e₁ s₁ he
    exact ⟨_, _, by unfold Wakes; rw [hg]; exact ⟨e₁, s₁, hr, hq, rfl, rfl⟩, hw Γ p hΓ⟩
  | running => exact hgo.elim
  | finished => exact hgo.elim
/-- what next gives, by the stretch's end -/
def NextQ (M : Model) (a : Addr) (g : Nat) (Q : Option Value → Shared → Prop) (E : Value → Shared → Prop) (e : End) (s₁ : Shared) : Prop := match e with
  | .ret (.ok r) => (r = .ret .none ∨ r = .next) ∧ ∀ h', (∀ b o, s₁.heap.get? b = some o → h'.get? b = some o) → Q none { s₁.setGen g .finished with heap := h' }
  | .ret (.error x) => s₁.heap.IsGen a g ∧ NotStop M x s₁.heap ∧ E x (s₁.setGen g .finished)
  | .susp v g' l k c p fs => e.quiet = true ∧ Q (some v) (s₁.setGen g e.genState)
theorem next_z {P : Program} {w : World} {A : Around} {Φ : End → Shared → Prop} {Q : Option Value → Shared → Prop} {E : Value → Shared → Prop} {s : Shared} {a : Addr} {g : Nat} {gs : GenState} (hh : A.handled = none) (hl : s.heap.NoLimit) (hroom : A.depth < recursionLimit) (hg : s.heap.IsGen a g) (hgs : s.gens[g]? = some gs)
    (hgo : GoZ (model P w) A.in1 Φ gs (s.setGen g .running)) (h : ∀ e s₁, Φ e s₁ → NextQ (model P w) a g Q E e s₁) : wpAny (model P w) A (pyNext (.ref a)) Q E s := by
  unfold pyNext
  refine wpAny_bind (wpAny_attempt (wpAny_callSpecial?_slot (name := Str.ofString "__next__") hg.typeIs slot_gen_next (wpAny_call_entry slot_gen_next hg.typeIs entry_gen_next (show wpAny _ A.in1 (Builtin.Generator.genWake (.ref a) (.send .none)) _ _ s from ?_) (args_gen_next _))))
  unfold Builtin.Generator.genWake; refine wpAny_bind (wpAny_holding (wpAny_genNumber hg (wpAny_bind (wpAny_genState hgs ?_))))
  cases gs with
  | running => exact hgo.elim
  | finished => exact hgo.elim
  | _ =>
    refine wpAny_bind (wpAny_roomToWake hl hroom (show wpAny _ A.in1 (.resume g (.send .none) [] _) _ _ s from wpAny_resumeZ hgs hgo fun e s₁ he => ?_))
    have he := h e s₁ he
    rcases e with (x | r) | ⟨v, g', l, k, c, p, fs⟩
    · obtain ⟨⟨o, nm, qn, ho, _⟩, ns, hq⟩ := he
      have ns' := fun (A' : Around) Q' E' => ns A' Q' E' (s₁.setGen g .finished) rfl
      refine ⟨rfl, (show wpAny _ A.in1 (Builtin.Generator.genLeft (.ref a) x) _ _ _ from ?_)⟩
      unfold Builtin.Generator.genLeft; unfold Builtin.Generator.madeByALambda
      refine wpAny_bind (wpAny_bind (wpAny_load (o := o) ho (wpAny_pure (wpAny_bind (ns' _ _ _ ?_)))))
      rw [Bool.and_false, if_neg (by decide)]; unfold Builtin.Generator.genEscaped
      first
        | refine wpAny_bind (ns' _ _ _ ?_)
        | refine wpAny_bind (wpAny_pure (wpAny_bind (ns' _ _ _ ?_)))
      rw [if_pos (by decide)]
      have out : wpAny (model P w) A (isInstance x (.type "StopIteration") >>= fun y => if y = true then pure none else throw x) Q E (s₁.setGen g .finished) := wpAny_bind (ns' _ _ _ (by rw [if_neg (by decide)]; exact wpAny_throw hq))
      first
        | exact wpAny_throw out
        | exact wpAny_bind (wpAny_throw out)
    · obtain ⟨hr, hq⟩ := he
      refine ⟨rfl, ?_⟩
      have hres : End.result (.ret (.ok r)) = .returned .none := by rcases hr with rfl | rfl <;> rfl
      simp only [hres]
      refine (show wpAny _ A.in1 (newExc (.type "StopIteration") [] >>= _) _ _ _ from wpAny_bind ?_)
      have nohand : A.in1.handled = none := hh
      simp only [newExc, newTuple]; refine wpAny_bind (wpAny_newObj_type (wpAny_bind (m := firstArgMember _ _) (wpAny_of_eq (a := Value.none) (by simp only [firstArgMember]; rfl) (wpAny_newObj_type ?_ (by size_fits)))) (by size_fits))
      simp only [raiseNew]; refine wpAny_bind (wpAny_bind (wpAny_handled ?_))
      rw [nohand]
      exact wpAny_throw (wpAny_bind (wpAny_isInstance (b := true) ⟨_, Heap.get?_push_size _ rfl, rfl⟩ isSubtype_stop (wpAny_pure (hq _ fun b o hb => Heap.get?_push_of_some _ (Heap.get?_push_of_some _ hb)))))
    · exact ⟨he.1, wpAny_pure ⟨v, rfl, wpAny_pure he.2⟩⟩
end EV
end

section
set_option maxHeartbeats 4000000
/-! EV66: a call of a generator def. -/
namespace EV
open PySem L2 PyProof.Rows
abbrev TZ := L2.St → Hp → (RL → Hp → Hp → Prop) → Prop
def PGn (X : Cx) (T : Tab) (k : Nat) (e : Expr) (t : TZ) : Prop := ∀ (pins : List (Addr × Obj)) (s : Shared) (σ : L2.St) (H : Hp) (R : RL → Hp → Hp → Prop), Inv X pins σ H s → t σ H R →
  wpAny (model X.prog X.w) X.A (eval e X.env) (fun u s' => ∃ sc r S H', Inv X pins σ H' sc ∧ Born X.prog X.w X.K X.mg X.base T k X.stack sc S r u s' ∧ Mono sc.heap s'.heap ∧ EV.Sub S H' ∧ R r S H') X.xe s
def tZ (T : Tab) (W : WX) (f : FL) : TZ := fun σ H R => ∃ ρ S r, EV.Sub S H ∧ RepE T S ρ σ ∧ f ρ = some r ∧ ZEnd T W S H σ R r
def EGn (X : Cx) (T : Tab) (W : WX) (k : Nat) (e : Expr) (f : FL) : Prop := PGn X T k e (tZ T W f)
/-- what a call of a generator def hands out -/
def zCallP (n m : Nat) (perm : List Nat) (sem : List D → Option RL) (dds : List D) (fs fk : FL) : FL := fun ρ => RLL (fs ρ) fun ds => RLL (fk ρ) fun es => if ds.length = n ∧ es.length = m then sem (pick perm (ds ++ es ++ dds)) else none
section
variable {X : Cx} {T : Tab} {W : WX} {k n : Nat} {f : Addr} {fd : FuncData} {ps ks : List Str} {x : Str} {p pos : Pos} {e : Expr} {es : List Expr} {kws : List Keyword} {dvs : List V} {dds : List D} {perm : List Nat} {sem : List D → Option RL} {fs fk : FL}
theorem tA_goZ {S H : Hp} {σ : L2.St} {ρ : Env} {R : RL → Hp → Hp → Prop} {P : List V → Hp → Prop} {f : FL} {k : List D → Option RL} {r : RL} (sh : EV.Sub S H) (rep : RepE T S ρ σ) (h : RLL (f ρ) k = some r) (fin : ZEnd T W S H σ R r)
    (go : ∀ ds vs S' H', Kp S H S' H' → Iss T S' vs ds → RepE T S' ρ σ → k ds = some r → ZEnd T W S' H' σ R r → P vs H') : tA T W f σ H P := by
  cases e : f ρ with
  | none => rw [e] at h; cases h
  | some q =>
    rw [e] at h
    refine ⟨ρ, S, q, sh, rep, e, ?_⟩
    cases q with
    | ok ds => exact fun vs S' H' k' i => go ds vs S' H' k' i (rep.mono k'.s) h (fin.mono k')
    | ex x =>
      cases h
      exact fin.1
def tGn (T : Tab) (n m np : Nat) (perm : List Nat) (sem : List D → Option RL) (dvs : List V) (t tk : TA) : TZ := fun σ H R => t σ H fun vs H1 => tk σ H1 fun zs H2 => vs.length = n ∧ zs.length = m ∧ ∃ S ds r, EV.Sub S H2 ∧ Iss T S (pick perm (vs ++ zs ++ dvs)) ds ∧ ds.length = np ∧ sem ds = some r ∧ R r S H2
theorem run_gn {np : Nat} {pins : List (Addr × Obj)} {σ : L2.St} {H S : Hp} {s : Shared} {R : RL → Hp → Hp → Prop} {us ws : List Value} {vs zs : List V} {ds : List D} {r : RL} (F : GnOk X.prog X.w X.K X.mg X.base T k f fd ps sem) (hnp : ps.length = np) (hr : Room k X.A) (hb : ArgB X.K fd ps n ks dvs perm)
    (I : Inv X pins σ H s) (ru : Vals vs us) (rz : Vals zs ws) (l1 : vs.length = n) (l2 : zs.length = ks.length) (sb : EV.Sub S H) (iy : Iss T S (pick perm (vs ++ zs ++ dvs)) ds) (hl : ds.length = np) (hs : sem ds = some r) (h : R r S H) :
    wpAny (model X.prog X.w) X.A (call (.ref f) us (ks.zip ws)) (fun u s' => ∃ sc r S H', Inv X pins σ H' sc ∧ Born X.prog X.w X.K X.mg X.base T k X.stack sc S r u s' ∧ Mono sc.heap s'.heap ∧ EV.Sub S H' ∧ R r S H') X.xe s := by
  obtain ⟨dv, rd, to⟩ := hb.to
  have r2 := Vals.pick ((ru.append rz).append rd) perm
  refine wpAny_mono (wpAny_mn (wpAny_call (Q := fun u s' => Born X.prog X.w X.K X.mg X.base T k X.stack s S r u s') (E := fun _ _ => False) (codeAny_mono (F.run X.A X.stack s H S ⟨us, ks.zip ws⟩ _ _ ds r hr I.env0 (to s us ws I.kIn (ru.length.symm.trans l1) (rz.length.symm.trans l2)) r2 sb iy (by rw [iy.length, hl, hnp]) hs) fun r' s' hq => ?_))) (fun u s' ⟨m, hB⟩ => ⟨s, r, S, H, I, hB, m, sb, h⟩) fun _ _ z => z.2.elim
  cases r' with
  | error e => exact hq
  | ok fl =>
    cases fl with
    | ret u => exact hq
    | next => exact hq
    | brk => exact hq
    | cont => exact hq
theorem pgn_callP {np : Nat} {t tkw : TA} (F : GnOk X.prog X.w X.K X.mg X.base T k f fd ps sem) (hnp : ps.length = np) (hr : Room k X.A) (hm : X.mg x = some (.ref f)) (hk : PySem.W.keepIn X.K (.ref f) = true) (hb : ArgB X.K fd ps n ks dvs perm)
    (ha : PA X (e :: es) t) (hkw : PK X kws tkw) (hg : Gl X x := by rfl) (hall : (backToKw pos (keywordEach kws X.env)).all (·.1.isSome) = true := by rfl) (hks : (backToKw pos (keywordEach kws X.env)).filterMap (·.1) = ks := by rfl)
    (hdb : (x == ("__debug__" : Str)) = false := by decide) (he : starEach (e :: es) X.env = (false, eval e X.env) :: starEach es X.env := by rfl)
    (hpl : ((backTo pos (starEach (e :: es) X.env)).any (·.1) || (backToKw pos (keywordEach kws X.env)).any (·.1.isNone)) = false := by rfl) : PGn X T k (.Call (.Name x p) (e :: es) kws pos) (tGn T n ks.length np perm sem dvs t tkw) := fun pins s σ H R I h => by
  refine wpAny_Call_Name_kw (ld_glob I hg hm ?_ hdb)
  refine PySem.W.callWith_KW (h₀ := X.base) I.ok.mod.kin hk hall (thn (ha.run pos pins s σ H _ I h) fun us s1 ⟨vs, H1, I1, r, q⟩ => ?_) hpl he
  refine thn (hkw.run pos pins s1 σ H1 _ I1 q) fun ws s2 ⟨zs, H2, I2, rz, l1, l2, S, ds, r0, sb, iy, hl, hs, q2⟩ => ⟨I2.kIn, ?_⟩
  rw [hks]
  exact run_gn F hnp hr hb I2 r rz l1 l2 sb iy hl hs q2
theorem pgn_callP0 {np : Nat} {tkw : TA} (F : GnOk X.prog X.w X.K X.mg X.base T k f fd ps sem) (hnp : ps.length = np) (hr : Room k X.A) (hm : X.mg x = some (.ref f)) (hk : PySem.W.keepIn X.K (.ref f) = true) (hb : ArgB X.K fd ps 0 ks dvs perm)
    (hkw : PK X kws tkw) (hg : Gl X x := by rfl) (hall : (backToKw pos (keywordEach kws X.env)).all (·.1.isSome) = true := by rfl) (hks : (backToKw pos (keywordEach kws X.env)).filterMap (·.1) = ks := by rfl)
    (hdb : (x == ("__debug__" : Str)) = false := by decide) (hpl : ((backTo pos (starEach [] X.env)).any (·.1) || (backToKw pos (keywordEach kws X.env)).any (·.1.isNone)) = false := by rfl) :
    PGn X T k (.Call (.Name x p) [] kws pos) (tGn T 0 ks.length np perm sem dvs tNil tkw) := fun pins s σ H R I h => by
  refine wpAny_Call_Name_kw (ld_glob I hg hm ?_ hdb)
  refine PySem.W.callWith_KW0 (h₀ := X.base) I.ok.mod.kin hk hall (thn (hkw.run pos pins s σ H _ I h) fun ws s2 ⟨zs, H2, I2, rz, l1, l2, S, ds, r0, sb, iy, hl, hs, q2⟩ => ⟨I2.kIn, ?_⟩) hpl
  rw [hks]
  exact run_gn F hnp hr hb I2 .nil rz rfl l2 sb iy hl hs q2
theorem PGn.weak {t u : TZ} (h : PGn X T k e t) (w : ∀ σ H R, u σ H R → t σ H R) : PGn X T k e u := fun pins s σ H R I q => h pins s σ H R I (w σ H R q)
theorem pick_lnZ {α : Type} : ∀ (l : List Nat) (xs : List α), (∀ j ∈ l, j < xs.length) → (pick l xs).length = l.length
  | [], _, _ => rfl
  | j :: r, xs, h => by
    unfold pick
    rw [List.filterMap_cons, List.getElem?_eq_getElem (h j List.mem_cons_self)]
    show (pick r xs).length + 1 = _
    rw [pick_lnZ r xs fun j hj => h j (List.mem_cons_of_mem _ hj)]
    rfl
theorem wPZ {np m : Nat} (hp : perm.length = np) (hdd : ∀ S, Iss T S dvs dds) (σ : L2.St) (H : Hp) (R : RL → Hp → Hp → Prop) (hmx : ∀ j ∈ perm, j < n + m + dvs.length) (q : tZ T W (zCallP n m perm sem dds fs fk) σ H R) : tGn T n m np perm sem dvs (tA T W fs) (tA T W fk) σ H R := by
  obtain ⟨ρ, S, r, sh, rep, e, fin⟩ := q
  refine tA_goZ sh rep e fin fun ds vs S1 H1 k1 i1 rep1 e1 fin1 => ?_
  refine tA_goZ k1.sub rep1 e1 fin1 fun es zs S2 H2 k2 i2 rep2 e2 fin2 => ?_
  split at e2 <;> try cases e2
  rename_i hl
  have i12 := (((i1.mono k2.s).append i2).append (hdd S2)).pick perm
  refine ⟨i1.length.trans hl.1, i2.length.trans hl.2, S2, _, r, k2.sub, i12, ?_, e2, fin2.at k2.sub⟩
  rw [pick_lnZ perm _ fun j hj => ?_, hp]
  rw [List.length_append, List.length_append, hl.1, hl.2, ← (hdd S2).length]
  exact hmx j hj
theorem gn_callP {np mk : Nat} (F : GnOk X.prog X.w X.K X.mg X.base T k f fd ps sem) (hnp : ps.length = np) (hr : Room k X.A) (hm : X.mg x = some (.ref f)) (hk : PySem.W.keepIn X.K (.ref f) = true) (hb : ArgB X.K fd ps n ks dvs perm)
    (hp : perm.length = np) (hmx : ∀ j ∈ perm, j < n + ks.length + dvs.length) (hdd : ∀ S, Iss T S dvs dds) (ha : EA X T W (e :: es) fs) (hkw : EK X T W kws fk) (hg : Gl X x := by rfl) (hall : (backToKw pos (keywordEach kws X.env)).all (·.1.isSome) = true := by rfl) (hks : (backToKw pos (keywordEach kws X.env)).filterMap (·.1) = ks := by rfl)
    (hdb : (x == ("__debug__" : Str)) = false := by decide) (he : starEach (e :: es) X.env = (false, eval e X.env) :: starEach es X.env := by rfl)
    (hpl : ((backTo pos (starEach (e :: es) X.env)).any (·.1) || (backToKw pos (keywordEach kws X.env)).any (·.1.isNone)) = false := by rfl) (hkl : ks.length = mk := by rfl) :
    EGn X T W k (.Call (.Name x p) (e :: es) kws pos) (zCallP n mk perm sem dds fs fk) := by
  subst hkl
  exact PGn.weak (pgn_callP F hnp hr hm hk hb ha hkw hg hall hks hdb he hpl) fun σ H R q => wPZ hp hdd σ H R hmx q
theorem gn_callP0 {np mk : Nat} (F : GnOk X.prog X.w X.K X.mg X.base T k f fd ps sem) (hnp : ps.length = np) (hr : Room k X.A) (hm : X.mg x = some (.ref f)) (hk : PySem.W.keepIn X.K (.ref f) = true) (hb : ArgB X.K fd ps 0 ks dvs perm)
    (hp : perm.length = np) (hmx : ∀ j ∈ perm, j < 0 + ks.length + dvs.length) (hdd : ∀ S, Iss T S dvs dds) (hkw : EK X T W kws fk) (hg : Gl X x := by rfl) (hall : (backToKw pos (keywordEach kws X.env)).all (·.1.isSome) = true := by rfl) (hks : (backToKw pos (keywordEach kws X.env)).filterMap (·.1) = ks := by rfl)
    (hdb : (x == ("__debug__" : Str)) = false := by decide) (hpl : ((backTo pos (starEach [] X.env)).any (·.1) || (backToKw pos (keywordEach kws X.env)).any (·.1.isNone)) = false := by rfl) (hkl : ks.length = mk := by rfl) :
    EGn X T W k (.Call (.Name x p) [] kws pos) (zCallP 0 mk perm sem dds aNil fk) := by
  subst hkl
  exact PGn.weak (pgn_callP0 F hnp hr hm hk hb hkw hg hall hks hdb hpl) fun σ H R q => by
    have z := wPZ (n := 0) hp hdd σ H R hmx q
    obtain ⟨ρ, S, r, sh, rep, e, fin⟩ := z
    cases e
    exact fin [] S H (Kp.refl sh) .nil
end
end EV
end

section
set_option maxHeartbeats 4000000
/-! EV67: taking from a generator; what a body does while it sleeps. -/
namespace EV
open PySem L2 PyProof.Rows
section
variable {X : Cx} {A : Around} {T : Tab} {W : WX} {d : GId} {pins : List (Addr × Obj)} {σ : L2.St} {ρ : Env} {H S : Hp} {L : Nat → Option Addr} {s s' : Shared} {zs : List D} {E : XK} {EC : Hp → Hp → Prop}
theorem gset_bare {s : Shared} {g : Nat} {x : GenState} (h : AllBare s.gens) (hx : x.bare = true) : AllBare (s.setGen g x).gens := allBare_setGen h hx
theorem turned_inv {H' S' : Hp} {s₀ : Shared} (I : Inv X pins σ H s) (ab : Abv X pins d.lc) (t : Turned (fC X A d) s₀ H S H' S' s') (e : s₀.heap = s.heap) (eo : s₀.os = s.os) : Inv X pins σ H' s' := by
  have un := t.un
  rw [e] at un
  refine I.call' (t.os.trans eo) un t.hok t.bare fun b hb => ?_
  obtain ⟨h1, _⟩ := List.mem_range'_1.mp hb
  exact ⟨.inr (Nat.le_trans ab.s0 h1), Nat.ne_of_gt (Nat.lt_of_lt_of_le ab.loc h1), fun x c e => Nat.ne_of_lt (Nat.lt_of_lt_of_le (ab.cell x c e) h1), fun p hp => Nat.ne_of_lt (Nat.lt_of_lt_of_le (ab.pin p hp) h1)⟩
/-- next -/
theorem takeA {bg : Bool} {Ap : Around} (hin : Ap.handled = none) (hfr : A.frames = some X.stack) (hA : A = Ap.in1) (hroom : Ap.depth < recursionLimit) (ho : GenO d.go d.g) (I : Inv X pins σ H s) (sb : EV.Sub S H) (ab : Abv X pins d.lc) (N : Nap X A T d zs bg E EC s H S) (hec : EC S H) {Ex : Value → Shared → Prop}
    (hex : ∀ x s₁, L2N.CX X.prog X.w X.stack (cutH d.lc H) (cutS d.lc (s.setGen d.g .running)) E x s₁ → NotStop (model X.prog X.w) x s₁.heap ∧ Ex x (s₁.setGen d.g .finished)) :
    wpAny (model X.prog X.w) Ap (pyNext (.ref d.a)) (fun r s' => (zs = [] ∧ d.rx = false ∧ r = none ∧ ∃ H' S', Inv X pins σ H' s' ∧ Kp S H S' H') ∨
      ∃ x zs' v u H' S', zs = x :: zs' ∧ r = some u ∧ RelV v u ∧ Is T S' v x ∧ Inv X pins σ H' s' ∧ Kp S H S' H' ∧ Nap X A T d zs' true noXg (fun _ _ => True) s' H' S') Ex s := by
  obtain ⟨gs, pv, S₀, s₀, _, hgs, hgo, ss, hpv, pva, hge, go⟩ := N
  have hgl : d.g < s.gens.size := (Array.getElem?_eq_some_iff.mp hgs).1
  have wk : WakeOk (fC X A d) pv S₀ s₀ (s.setGen d.g .running) H S := by
    have e0 := I.env0
    refine ⟨⟨hfr, e0.mod, e0.bs, e0.bsz, e0.funs, e0.frf, e0.hok, gset_bare I.bare rfl⟩, sb, ss, fun b hb => (hpv b hb).2.1, fun b hb => (hpv b hb).2.2.2.1, fun i x hi h1 h2 => ?_⟩
    have h3 := hge i x hi h1 h2
    show (s.gens.setIfInBounds d.g .running)[i]? = some x
    rw [get_set, if_neg (Ne.symm hi)]
    exact h3
  have hgo' := go _ H S wk hec
  subst hA
  refine GenW.wpAny_gsz (n := d.g + 1) hgl (next_z hin I.nolimit hroom (ho.at hgo) hgs hgo' fun e s₁ he => ?_)
  cases zs with
  | nil =>
    rcases he with ⟨hrx, r, rfl, hr, H', S', t⟩ | ⟨x, rfl, hc, hg1⟩
    · refine ⟨hr, fun h' hk _ => .inl ⟨rfl, hrx, rfl, H', S', ?_, t.kp⟩⟩
      have J := turned_inv I ab t rfl rfl
      have J' := EV.Inv.withG (a := (s₁.setGen d.g .finished).gens) J (gset_bare t.bare rfl)
      have J'' : Inv X pins σ H' { withG s₁ (s₁.setGen d.g .finished).gens with heap := h', toks := s₁.toks } := Inv.kept (h' := h') (t' := s₁.toks) J' hk
      exact J''
    · obtain ⟨h1, h2⟩ := hex x s₁ hc
      exact ⟨ho.at hg1, h1, fun _ => h2⟩
  | cons x zs' =>
    obtain ⟨u, g', l, k, c, p, fs, H', S', pv', v, rfl, hq, t, rv, iv, hpv', pva', kont⟩ := he
    refine ⟨hq, fun hsz => .inr ⟨x, zs', v, u, H', S', rfl, rfl, rv, iv, ?_, t.kp, ?_⟩⟩
    · exact EV.Inv.withG (a := (s₁.setGen d.g _).gens) (turned_inv I ab t rfl rfl) (gset_bare t.bare (by exact hq))
    · have hs1 : d.g < s₁.gens.size := by
        have q : (s₁.setGen d.g (End.susp u g' l k c p fs).genState).gens.size = s₁.gens.size := GenW.setGen_size _ _ _
        have hsz' : d.g + 1 ≤ (s₁.setGen d.g (End.susp u g' l k c p fs).genState).gens.size := hsz
        omega
      refine ⟨(End.susp u g' l k c p fs).genState, pv', S', s₁, fun _ => ⟨_, _, _, _, _, _, rfl⟩, setGen_at hs1, t.gen, Same.refl _, fun b hb => ?_, pva', fun i y hi h1 _ => ?_, fun s2 Hc Sc w _ => kont s2 Hc Sc w⟩
      · obtain ⟨a1, a2, a3, a4⟩ := hpv' b hb
        exact ⟨a1, rfl, a2, a3, a4⟩
      · show (s₁.gens.setIfInBounds d.g _)[i]? = some y
        rw [get_set, if_neg (Ne.symm hi)]
        exact h1
/-- behind the body: they are let go -/
theorem PvOk.after {lc : Nat} {pv : Addr → Prop} {σ' : L2.St} {ρ' : Env} {S' H' : Hp} {L' : Nat → Option Addr} (h : PvOk X pins lc pv s H S) (sb : EV.Sub S H) (r0 : Rep T ρ σ S H L) (J : Inv X pins σ' H' s') (r : Rep T ρ' σ' S' H' L') (st : Stp S (frz pv s H) L S' H' L') :
    Inv X pins σ' (minus pv H') s' ∧ Rep T ρ' σ' S' (minus pv H') L' ∧ Stp S H L S' (minus pv H') L' ∧ (∀ b, pv b → s'.heap.get? b = s.heap.get? b ∧ minus pv H' b = none ∧ S' b = none) := by
  have nL : ∀ i b, L i = some b → ¬ pv b := fun i b e => by
    have : ∃ o, H b = some o := by
      rcases r0.dom i b e with ⟨ds, q⟩ | ⟨c, ds, q⟩ | ⟨ks, ds, q⟩
      · obtain ⟨a, vs, h1, _, h3, _⟩ := r0.own i ds q
        rw [e] at h1; cases h1; exact ⟨_, h3⟩
      · obtain ⟨a, dx, vs, h1, _, h3, _⟩ := r0.ins i c ds q
        rw [e] at h1; cases h1; exact ⟨_, h3⟩
      · obtain ⟨a, bs, vs, h1, _, h3, _⟩ := r0.od i ks ds q
        rw [e] at h1; cases h1; exact ⟨_, h3⟩
    obtain ⟨o, e⟩ := this
    exact h.np e
  have key : ∀ b, pv b → ∃ o, s.heap.get? b = some o ∧ H' b = some (rawO b o) ∧ S' b = none := fun b hb => by
    obtain ⟨_, ⟨o, e⟩, _, e4⟩ := h.p b hb
    have f := frz_of (H := H) hb e
    exact ⟨o, e, st.fr b _ f fun i z => nL i b z hb, st.hid b (by rw [f]; intro z; cases z) e4 fun i z => nL i b z hb⟩
  have nL' : ∀ i b, L' i = some b → ¬ pv b := fun i b e hb => by
    rcases st.own i b e with ⟨j, hj⟩ | ⟨h0, _⟩
    · exact nL j b hj hb
    · obtain ⟨_, ⟨o, e1⟩, _⟩ := h.p b hb
      rw [frz_of hb e1] at h0; cases h0
  have tup : ∀ b o, H' b = some o → ((∃ x, o = .own x) ∨ ∃ xs, o = .tup xs) → minus pv H' b = some o := fun b o e hh => by
    refine (minus_not fun z => ?_).trans e
    obtain ⟨o', _, e2, _⟩ := key b z
    rw [e] at e2; cases e2
    rcases hh with ⟨_, hh⟩ | ⟨_, hh⟩ <;> cases hh
  have still : ∀ b o, H b = some o → ¬ pv b := fun b o e => h.np e
  refine ⟨⟨J.ok, J.os, J.bare, ⟨J.base.keep, J.base.slot, fun b o e n hx => ?_, J.base.there, fun b xs e => tup b _ (J.base.tups b xs e) (.inr ⟨xs, rfl⟩), fun b o u e => ?_, fun b ps e => ?_⟩, J.loc, J.cell, ?_, fun x c e => ?_, fun p hp => ?_, fun b o e => ?_, J.len⟩, ?_, ?_, fun b hb => ?_⟩
  · rw [minus_not (h.ne (Nat.lt_of_lt_of_le (Heap.lt_size e) h.ab.s0))]; exact J.base.free b o e n hx
  · have e1 := J.base.frzs b o u e
    refine (minus_not fun z => ?_).trans e1
    obtain ⟨o', _, e2, _⟩ := key b z
    rw [e1] at e2; cases e2
  · obtain ⟨more, e1⟩ := J.base.tbls b ps e
    refine ⟨more, (minus_not fun z => ?_).trans e1⟩
    obtain ⟨o', _, e2, _⟩ := key b z
    rw [e1] at e2; cases e2
  · rw [minus_not (h.ne h.ab.loc)]; exact J.free
  · rw [minus_not (h.ne (h.ab.cell x c e))]; exact J.freeC x c e
  · obtain ⟨h1, h2, h3⟩ := J.pin p hp
    exact ⟨h1, by rw [minus_not (h.ne (h.ab.pin p hp))]; exact h2, h3⟩
  · obtain ⟨_, e⟩ := minus_some e
    exact (J.hok b o e).stay (fun c u _ y => y) (fun c y => tup c _ y (.inl ⟨_, rfl⟩)) fun c xs y => tup c _ y (.inr ⟨xs, rfl⟩)
  · refine ⟨⟨fun b o e => ?_, fun b o e f => r.sub.fix b o (minus_some e).2 f⟩, r.len, r.v, fun i ds e => ?_, fun i c ds e => ?_, r.inj, r.dom, r.x, fun i ks ds e => ?_⟩
    · rw [minus_not fun z => by obtain ⟨_, _, _, e3⟩ := key b z; rw [e] at e3; cases e3]
      exact r.sub.same b o e
    · obtain ⟨a, vs, h1, h2, h3, h4⟩ := r.own i ds e
      exact ⟨a, vs, h1, h2, (minus_not (nL' i a h1)).trans h3, h4⟩
    · obtain ⟨a, dx, vs, h1, h2, h3, h4⟩ := r.ins i c ds e
      exact ⟨a, dx, vs, h1, h2, (minus_not (nL' i a h1)).trans h3, h4⟩
    · obtain ⟨a, bs, vs, h1, h2, h3, h4⟩ := r.od i ks ds e
      exact ⟨a, bs, vs, h1, h2, (minus_not (nL' i a h1)).trans h3, h4⟩
  · refine ⟨st.s, fun b o e n => (minus_not (still b o e)).trans (st.fr b o (h.same e) n), fun b h1 h2 n => ?_, fun i b e => ?_, fun b xs e => ?_, fun b C dx fs e => ?_, fun b ks bs vs e => ?_⟩
    · cases z : H b with
      | none => exact absurd z h1
      | some o => exact st.hid b (by rw [h.same z]; intro w; cases w) h2 n
    · rcases st.own i b e with hj | ⟨h0, h1⟩
      · exact .inl hj
      · refine .inr ⟨?_, ?_⟩
        · rw [frz_not (nL' i b e)] at h0; exact h0
        · rw [minus_not (nL' i b e)]; exact h1
    · obtain ⟨ys, e1⟩ := st.lk b xs (h.same e)
      exact ⟨ys, (minus_not (still b _ e)).trans e1⟩
    · obtain ⟨fs', e1⟩ := st.ik b C dx fs (h.same e)
      exact ⟨fs', (minus_not (still b _ e)).trans e1⟩
    · obtain ⟨ks', bs', vs', e1⟩ := st.dk b ks bs vs (h.same e)
      exact ⟨ks', bs', vs', (minus_not (still b _ e)).trans e1⟩
  · obtain ⟨o, e1, e2, e3⟩ := key b hb
    exact ⟨(of_rawO (by have := J.hok b _ e2; exact this)).trans e1.symm, minus_of hb, e3⟩
end
end EV
end

section
set_option maxHeartbeats 4000000
/-! EV68: for over a call of a generator def. -/
namespace EV
open PySem L2 PyProof.Rows
/-- behind a call of a generator def: the generator sleeps -/
theorem born_nap {X : Cx} {T : Tab} {k : Nat} {pins : List (Addr × Obj)} {σ : L2.St} {H S : Hp} {s s' : Shared} {r : RL} {u : Value} (I : Inv X pins σ H s) (sb : EV.Sub S H) (B : Born X.prog X.w X.K X.mg X.base T k X.stack s S r u s') {A : Around} (hr : Room k A) (hfr : A.frames = some X.stack) (E : XK) :
    ∃ d : GId, u = .ref d.a ∧ GenO d.go d.g ∧ d.rx = isEx r ∧ d.lc = s.heap.objs.size ∧ d.g = s.gens.size ∧ Kept s.gens s'.gens ∧ Inv X pins σ H s' ∧ Abv X pins d.lc ∧ s'.heap.get? d.a = some d.go ∧ (∀ b, b < d.lc → ∀ o, s.heap.get? b = some o → s'.heap.get? b = some o) ∧ s'.os = s.os ∧ Nap X A T d (outs r) false E (fun Sc Hc => XG T r Sc Hc E) s' H S := by
  obtain ⟨N, qual, scope, f, cd, a, go, c, pv, eu, hgo, hge, hga, hpv, pva, hos, kp, pr⟩ := B.ex
  have bare' : AllBare s'.gens := by
    rw [hge]
    intro z hz
    rcases Array.mem_push.mp hz with h | h
    · exact I.bare z h
    · rw [h]; rfl
  have I' : Inv X pins σ H s' := I.call' (ch := []) hos (Un.kept kp) (I.hok.kept kp) bare' fun _ z => by cases z
  refine ⟨⟨N, qual, scope, f, cd, s.heap.objs.size, a, s.gens.size, go, isEx r⟩, eu, hgo, rfl, rfl, rfl, ?_, I', Abv.of I, hga, fun b _ o e => kp b o e, hos, .fresh c, pv, S, s', (fun z => (by cases z)), ?_, hga, Same.refl S, fun b hb => ?_, pva, fun i x _ h _ => h, fun s2 Hc Sc w ec => pr A s2 Hc Sc E hr hfr w ec⟩
  · intro i x h1 _
    have l := (Array.getElem?_eq_some_iff.mp h1).1
    rw [hge, Array.getElem?_push, if_neg (by omega)]
    exact h1
  · show s'.gens[s.gens.size]? = _
    rw [hge]
    exact Array.getElem?_push_size ..
  · obtain ⟨h1, h2⟩ := hpv b hb
    have hn := I.hok.fresh h1
    refine ⟨h1, rfl, h2, hn, ?_⟩
    cases z : S b with
    | none => rfl
    | some o => rw [sb.same b o z] at hn; cases hn
/-- the exception that a generator begins with is the consumer's -/
theorem born_exc {X : Cx} {W : WX} {pins : List (Addr × Obj)} {σ : L2.St} {H : Hp} {sc s1 s₁ : Shared} {E : XK} {lc g : Nat} {y : Value} (I : Inv X pins σ H sc) (hlc : lc = sc.heap.objs.size) (m : Mono sc.heap s1.heap) (os : s1.os = sc.os) (hold : ∀ b o, sc.heap.get? b = some o → s1.heap.get? b = some o)
    (hc : L2N.CX X.prog X.w X.stack (cutH lc H) (cutS lc (s1.setGen g .running)) E y s₁) (tk : L2N.Takes X W) (hE : ∀ cls d H', E cls d H' → PySem.W.subIn X.K cls (.type "StopIteration") = some false ∧ W cls d σ H') :
    NotStop (model X.prog X.w) y s₁.heap ∧ X.xe y (s₁.setGen g .finished) := by
  obtain ⟨a, B, H', cls, d, rfl, fl, h3, ub, h5, h6, h7, h8⟩ := hc
  have eh : cutH lc H = H := funext fun b => by
    by_cases hb : b < lc
    · exact cutH_lt hb
    · unfold cutH
      rw [if_neg hb, I.hok.fresh (by rw [← hlc]; exact Nat.le_of_not_lt hb)]
  have eg : ∀ b o, sc.heap.get? b = some o → (cutS lc (s1.setGen g .running)).heap.get? b = some o := fun b o e => by
    have l : b < lc := by rw [hlc]; exact Heap.lt_size e
    exact (cutA_get l).trans (hold b o e)
  rw [eh] at ub
  have ub' : UB (frs X.stack) H H' sc.heap B s₁.heap := ⟨fun b o e => ub.keep b o (eg b o e), fun b o e => ub.slot b o (eg b o e), fun b o e => ub.free b o (eg b o e), fun b o e => ub.there b o (eg b o e), ub.tups, ub.frzs, ub.tbls⟩
  have h6' : s₁.os = sc.os := h6.trans os
  refine ⟨?_, tk _ _ (L2N.XE.of_call I (fun cls d H' h => (hE cls d H' h).2) ⟨a, B, H', cls, d, rfl, fl, h3, ub', h5, h6', allBare_setGen h7 rfl, h8⟩)⟩
  obtain ⟨oe, vs, he, hz, hd⟩ := fl.there
  have kin : X.K.In s₁.heap := by
    refine I.ok.mod.kin.keeps fun b o eb => fl.1 b o (ub'.keep b o (I.bs b o eb).1 (I.bs b o eb).2 fun hm => ?_)
    rcases List.mem_cons.mp (I.stkSub b hm) with z | z
    · have h1 : b < X.base.objs.size := Heap.lt_size eb
      rw [z] at h1
      exact Nat.lt_irrefl _ (Nat.lt_of_lt_of_le h1 (Nat.le_trans I.ok.bsz I.ok.above))
    · exact I.ok.nofr eb z
  have lk := PySem.W.looks_subIn (M := model X.prog X.w) kin (hE cls d H' h8).1
  intro A Q E' s2 hs hq
  simp only [isInstance]
  refine wpAny_bind (wpAny_typeOf_ref (o := oe) (by rw [hs]; exact he) ?_)
  rw [hz.1]
  exact lk A Q E' s2 (fun b o z => by rw [hs]; exact z) hq
/-- an exception's class that ends no iterator -/
def NoStopC (K : PySem.W.Frag) (T : TabC) (cs : List Nat) : Prop := ∀ c ∈ cs, PySem.W.subIn K (.ref (T.cls c)) (.type "StopIteration") = some false
def gForG (cs : List Nat) (fi : FL) (fg : FG) (b : FS) : FS := fun ρ => match fi ρ with
  | some (.ok ds) => loopF fg b ds ρ
  | some (.ex x) => if cs.contains x.c then some (.rs x ρ) else none
  | none => none
section
variable {X : Cx} {T : Tab} {W : WX} {k : Nat} {x : Str} {p pos : Pos} {iter : Expr} {body : List Stmt} {fi : FL} {fg : FG} {g : FS} {is cs : List Nat}
theorem ss_forG (cs : List Nat) (xg : XeG X) (hp : PassesOwn (model X.prog X.w) X.A X.env X.xe) (hc : X.calm = true) (tk : L2N.Takes X W) (hns : NoStopC X.K T cs) (hr : Room (k + 1) X.A) (hi : EGn X T W k iter fi) (hg : EG X T (.Name x p) is fg) (hb : SSs X T W body g) (hs : ∀ x, foldedSetIterable iter X.env x = pure x := by intro _; rfl) :
    SS X T W (.For (.Name x p) iter body [] pos) (gForG cs fi fg g) := by
  refine ⟨fun pins s σ H D0 I h => ?_⟩
  obtain ⟨ρ, S, L, o, rp, e, fin⟩ := h
  unfold gForG at e
  have main : ∀ r : RL, fi ρ = some r → (match (some r : Option RL) with
      | some (.ok ds) => loopF fg g ds ρ
      | some (.ex x) => if cs.contains x.c then some (.rs x ρ) else none
      | none => none) = some o → wpAny (model X.prog X.w) X.A (exec (.For (.Name x p) iter body [] pos) X.env) (SP X pins D0) X.xe s := by
    intro r er e
    have zend : ZEnd T W S H σ (fun r' S' H' => r' = r ∧ Kp S H S' H') r := by
      cases r with
      | ok ds => exact fun S' H' kp => ⟨rfl, kp⟩
      | ex x =>
        have e : (if cs.contains x.c then some (Out.rs x ρ) else none) = some o := e
        split at e <;> cases e
        exact ⟨fun S' H' cls d kp i => fin σ S' H' L cls d (rp.kp kp) kp.stp i, fun S' H' kp => ⟨rfl, kp⟩⟩
    refine wpAny_For (thn (hi pins s σ H _ I ⟨ρ, S, r, rp.sub, rp.repE, er, zend⟩) fun u s1 ⟨sc, r', S1, H1, I1, B, m1, sb1, er', kp1⟩ => ?_) hs
    subst er'
    -- the exceptions that it may begin with
    let E0 : XK := match r' with
      | .ok _ => noXg
      | .ex y => fun cls d H' => ∃ S', Kp S1 H1 S' H' ∧ XIs T S' y cls d
    obtain ⟨d, eu, hgo, hrx, hlc, hgn, _, I2, ab, hga, hold, hos1, N⟩ := born_nap I1 sb1 B hr.in1 (show X.A.in1.frames = some X.stack from I1.ok.frames) E0
    subst eu
    have hin : X.A.in1.handled = none := I1.ok.hd hc
    refine PySem.wpAny_pyIter_gen (hgo.at hga) ?_
    -- the loop
    have lift : ∀ {α : Type} {t : Sem α} {Q : α → Shared → Prop} {Q' : α → Shared → Prop} {s0 : Shared}, AllBare s0.gens → wpAny (model X.prog X.w) X.A t Q X.xe (withG s0 (dim s0.gens)) → (∀ y s' b, Dim s0.gens s'.gens b → Kept s0.gens s'.gens → (AllBare b → AllBare s'.gens) → Q y (withG s' b) → Q' y s') → wpAny (model X.prog X.w) X.A t Q' X.xe s0 := fun {α t Q Q' s0} hb h hq =>
      wpAny_mono (wpAny_still' h) (fun y s' ⟨b, Dm, _, q⟩ => hq y s' b Dm Dm.kept (fun hb' => Dm.bare hb hb') q) fun y s' ⟨b, Dm, hz, q⟩ => xg y s' s0.gens b hb Dm hz q
    refine codeAny_forLoop_any (fun n s' => ∃ (zs : List D) (bg : Bool) (E : XK) (EC : Hp → Hp → Prop) (ρ : Env) (σ : L2.St) (S H : Hp) (L : Nat → Option Addr), n = zs.length ∧ Inv X pins σ H s' ∧ Rep T ρ σ S H L ∧ Nap X X.A.in1 T d zs bg E EC s' H S ∧ EC S H ∧
      ((d.rx = false ∧ (∀ c d h, ¬ E c d h) ∧ loopF fg g zs ρ = some o ∧ SEnd T W D0 S H L o) ∨ (d.rx = true ∧ ∀ y s₁, L2N.CX X.prog X.w X.stack (cutH d.lc H) (cutS d.lc (s'.setGen d.g .running)) E y s₁ → NotStop (model X.prog X.w) y s₁.heap ∧ X.xe y (s₁.setGen d.g .finished)) ∧ zs = [])) ?_ _ ⟨outs r', false, E0, _, ρ, σ, S1, H1, L, rfl, I2, rp.kp kp1, N, ?_, ?_⟩
    rotate_left
    · show XG T r' S1 H1 E0
      cases r' with
      | ok ys => exact fun _ _ _ z => z
      | ex y => exact fun S' H' cls dd kp i => ⟨S', kp, i⟩
    · cases r' with
      | ok ys => exact .inl ⟨hrx, fun _ _ _ z => z, e, fin.mono kp1.stp⟩
      | ex y =>
        refine .inr ⟨⟨hrx, fun y' s₁ hcx => ?_⟩, rfl⟩
        have e2 : (if cs.contains y.c then some (Out.rs y ρ) else none) = some o := e
        have hcs : cs.contains y.c = true := by
          cases z : cs.contains y.c with
          | true => rfl
          | false => rw [z] at e2; cases e2
        rw [if_pos hcs] at e2
        cases e2
        exact born_exc I1 hlc m1 hos1 (fun b o e => hold b (by rw [hlc]; exact Heap.lt_size e) o e) hcx tk (fun cls dd H' ⟨S', kp, i⟩ => ⟨by rw [i.1]; exact hns y.c (List.contains_iff_mem.mp hcs), fin σ S' H' L cls dd (rp.kp (kp1.trans kp)) (kp1.trans kp).stp i⟩)
    rintro n s3 ⟨zs, bg, E, EC, ρ, σ, S, H, L, rfl, I, rp, N, hec, hcase⟩
    refine wpAny_passesOwn hp (thn (takeA (Ap := X.A) hin (show X.A.in1.frames = some X.stack from I.ok.frames) rfl (by have := hr.dp; omega) hgo I rp.sub ab N hec (Ex := X.xe) fun y s₁ hcx => ?_) fun r4 s4 h4 => ?_)
    · rcases hcase with ⟨_, hE, _⟩ | ⟨⟨_, hx⟩, _⟩
      · obtain ⟨_, _, _, _, _, _, _, _, _, _, _, _, q⟩ := hcx
        exact (hE _ _ _ q).elim
      · exact hx y s₁ hcx
    rcases h4 with ⟨ez, hrx', er4, H', S', J, kp⟩ | ⟨y, zs', v, u, H4, S4, ez, er4, rv, iv, I4, kp4, N4⟩
    · subst ez; subst er4
      rcases hcase with ⟨_, _, el, fn⟩ | ⟨⟨hrx2, _⟩, _⟩
      · cases el
        exact wpAny_execs_nil ⟨σ, H', J, fn σ S' H' L (rp.kp kp) kp.stp⟩
      · rw [hrx'] at hrx2; cases hrx2
    subst ez; subst er4
    obtain ⟨hrx', el, fn⟩ : d.rx = false ∧ loopF fg g (y :: zs') ρ = some o ∧ SEnd T W D0 S H L o := by
      rcases hcase with ⟨z1, _, z2, z3⟩ | ⟨_, hz⟩
      · exact ⟨z1, z2, z3⟩
      · cases hz
    have rp4 := rp.kp kp4
    have fn4 := fn.mono kp4.stp
    obtain ⟨gs, pv, S₀, s₀, hsu, hgs, hga4, ss, hpv, pva, hge, go⟩ := N4
    have pk : PvOk X pins d.lc pv s4 H4 S4 := ⟨ab, fun b hb => by obtain ⟨a1, _, a3, a4, a5⟩ := hpv b hb; exact ⟨a1, a3, a4, a5⟩⟩
    have kpf := pk.kp rp4.sub
    have rpf := rp4.kp kpf
    refine wpAny_passesOwn hp (show wpAny _ _ (letOwnedTupleGo (.Name x p) (.ref d.a) u) _ _ _ from ?_)
    refine wpAny_pure ?_
    rw [loopF] at el
    cases eg : fg y ρ with
    | none => rw [eg] at el; cases el
    | some ρ1 =>
      rw [eg] at el
      refine wpAny_passesOwn hp (lift I4.bare (hg.run pins _ σ (frz pv s4 H4) v u (fun σ' H' => H' = frz pv s4 H4 ∧ ∃ L', Rep T ρ1 σ' S4 (frz pv s4 H4) L' ∧ Stp S4 (frz pv s4 H4) L S4 (frz pv s4 H4) L') (EV.Inv.withG (pk.inv I4) (dim_bare I4.bare)) rv ⟨ρ, S4, L, y, ρ1, rpf, iv, eg, fun σ' L' r' s' _ => ⟨rfl, L', r', s'⟩⟩) fun _ s6 b6 D6 kg6 br6 h6 => ?_)
      obtain ⟨σ6, H6, I6, eh, L6, rp6, st6⟩ := h6
      subst eh
      have I6' : Inv X pins σ6 (frz pv s4 H4) s6 := EV.Inv.ofG I6 (br6 I6.bare)
      have stA : Stp S4 H4 L S4 (frz pv s4 H4) L6 := kpf.stp.trans st6
      have el : (match g ρ1 with
        | some (.nx ρ') => loopF fg g zs' ρ'
        | some (.ct ρ') => loopF fg g zs' ρ'
        | some (.bk ρ') => some (.nx ρ')
        | o => o) = some o := el
      cases ob : g ρ1 with
      | none => rw [ob] at el; cases el
      | some o1 =>
        rw [ob] at el
        have el : (match (some o1 : Option Out) with
          | some (.nx ρ') => loopF fg g zs' ρ'
          | some (.ct ρ') => loopF fg g zs' ρ'
          | some (.bk ρ') => some (.nx ρ')
          | o => o) = some o := el
        let Dn : Ends := { nx := fun σ' H' => ∃ ρ2 S' L', o1 = .nx ρ2 ∧ Rep T ρ2 σ' S' H' L' ∧ Stp S4 (frz pv s4 H4) L6 S' H' L', rt := fun v' H' => D0.rt v' H' ∧ ((∃ dd, o1 = .rt dd) ∨ ∃ ds, o1 = .rl ds), bk := fun σ' H' => ∃ ρ2 S' L', o1 = .bk ρ2 ∧ Rep T ρ2 σ' S' H' L' ∧ Stp S4 (frz pv s4 H4) L6 S' H' L', ct := fun σ' H' => ∃ ρ2 S' L', o1 = .ct ρ2 ∧ Rep T ρ2 σ' S' H' L' ∧ Stp S4 (frz pv s4 H4) L6 S' H' L' }
        have sd : SEnd T W Dn S4 (frz pv s4 H4) L6 o1 := by
          cases o1 with
          | nx ρ2 => exact fun σ' S' H' L' r s => ⟨ρ2, S', L', rfl, r, s⟩
          | bk ρ2 => exact fun σ' S' H' L' r s => ⟨ρ2, S', L', rfl, r, s⟩
          | ct ρ2 => exact fun σ' S' H' L' r s => ⟨ρ2, S', L', rfl, r, s⟩
          | rt dd => cases el; exact fun v' S' H' L' sb st i => ⟨fn4 v' S' H' L' sb (stA.trans st) i, .inl ⟨dd, rfl⟩⟩
          | rl ds => cases el; exact fun a vs S' H' L' sb st hy h1 h2 i => ⟨fn4 a vs S' H' L' sb (stA.trans st) (stA.young hy) h1 h2 i, .inr ⟨ds, rfl⟩⟩
          | rs x' ρ2 => cases el; exact fun σ' S' H' L' cls dd r s i => fn4 σ' S' H' L' cls dd r (stA.trans s) i
        refine wpAny_passesOwn hp (lift I6'.bare (hb.run pins _ σ6 (frz pv s4 H4) Dn (EV.Inv.withG I6' (dim_bare I6'.bare)) ⟨ρ1, S4, L6, o1, rp6, ob, sd⟩) fun f s7 b7 D7 kg7 br7 h7 => ?_)
        -- one more turn
        have again : ∀ {σ7 : L2.St} {H7 S7 : Hp} {L7 : Nat → Option Addr} {ρ2 : Env}, Inv X pins σ7 H7 (withG s7 b7) → Rep T ρ2 σ7 S7 H7 L7 → Stp S4 (frz pv s4 H4) L6 S7 H7 L7 → loopF fg g zs' ρ2 = some o → ∃ m, m < (y :: zs').length ∧ ∃ (zs : List D) (bg : Bool) (E : XK) (EC : Hp → Hp → Prop) (ρ : Env) (σ : L2.St) (S H : Hp) (L : Nat → Option Addr), m = zs.length ∧ Inv X pins σ H s7 ∧ Rep T ρ σ S H L ∧ Nap X X.A.in1 T d zs bg E EC s7 H S ∧ EC S H ∧
            ((d.rx = false ∧ (∀ c d h, ¬ E c d h) ∧ loopF fg g zs ρ = some o ∧ SEnd T W D0 S H L o) ∨ (d.rx = true ∧ ∀ y s₁, L2N.CX X.prog X.w X.stack (cutH d.lc H) (cutS d.lc (s7.setGen d.g .running)) E y s₁ → NotStop (model X.prog X.w) y s₁.heap ∧ X.xe y (s₁.setGen d.g .finished)) ∧ zs = []) := fun {σ7 H7 S7 L7 ρ2} I7 r7 st7 el7 => by
          have I7' : Inv X pins σ7 H7 s7 := EV.Inv.ofG I7 (br7 I7.bare)
          obtain ⟨J, rJ, stJ, raw⟩ := pk.after rp4.sub rp4 I7' r7 (st6.trans st7)
          have kg : Kept s4.gens s7.gens := kg6.trans kg7
          refine ⟨zs'.length, Nat.lt_succ_self _, zs', true, noXg, fun _ _ => True, ρ2, σ7, S7, minus pv H7, L7, rfl, J, rJ, ⟨gs, pv, S₀, s₀, fun _ => hsu rfl, kg _ _ hgs (hsu rfl), ?_, ss.trans stJ.s, fun b hb => ?_, pva, fun i z hi h1 h2 => kg i z (hge i z hi h1 h2) h2, go⟩, trivial, .inl ⟨hrx', fun _ _ _ z => z, el7, fn4.mono stJ⟩⟩
          · exact (raw d.a pva).1.trans hga4
          · obtain ⟨a1, a2, a3, a4, a5⟩ := hpv b hb
            obtain ⟨r1, r2, r3⟩ := raw b hb
            exact ⟨a1, r1.trans a2, by rw [r1]; exact a3, r2, r3⟩
        cases f with
        | next =>
          obtain ⟨σ7, H7, I7, ρ2, S7, L7, eo, r7, st7⟩ := h7
          subst eo
          exact again I7 r7 st7 el
        | cont =>
          obtain ⟨σ7, H7, I7, ρ2, S7, L7, eo, r7, st7⟩ := h7
          subst eo
          exact again I7 r7 st7 el
        | brk =>
          obtain ⟨σ7, H7, I7, ρ2, S7, L7, eo, r7, st7⟩ := h7
          subst eo
          cases el
          exact ⟨σ7, H7, EV.Inv.ofG I7 (br7 I7.bare), fn4 σ7 S7 H7 L7 r7 (stA.trans st7)⟩
        | ret u7 =>
          obtain ⟨v7, σ7, H7, I7, rv7, q7, _⟩ := h7
          exact ⟨v7, σ7, H7, EV.Inv.ofG I7 (br7 I7.bare), rv7, q7⟩
  cases er : fi ρ with
  | none => rw [er] at e; cases e
  | some r => rw [er] at e; exact main r er e
end
end EV
end

section
set_option maxHeartbeats 4000000
/-! EV69: list(g(..)). -/
namespace EV
open PySem L2 PyProof.Rows
section
variable {X : Cx} {A : Around} {T : Tab} {W : WX} {d : GId} {pins : List (Addr × Obj)} {σ : L2.St} {ρ : Env} {H S : Hp} {L : Nat → Option Addr} {s s' : Shared} {zs : List D} {E : XK} {EC : Hp → Hp → Prop}
end
end EV
end

section
set_option maxHeartbeats 4000000
/-! EV70: yield from a list or a tuple. -/
namespace EV
open PySem L2 PyProof.Rows
section
variable {prog : Program} {w : World} {A : Around} {E : Value → Shared → Prop} {s : Shared} {it l : Addr} {i : Nat} {items : Array Value}
theorem sp_item {x : Value} {Q : Option Value → Shared → Prop} (ho : s.heap.get? it = some (GNX.itObj l i)) (hl : s.heap.IsList l items) (hx : items[i]? = some x)
    (hQ : ∀ h', h'.get? it = some (GNX.itObj l (i + 1)) → Heap.SameBut it s.heap h' → Q (some x) { s with heap := h' }) : wpAny (model prog w) A (callSpecial? (.ref it) "__next__") Q E s :=
  wpAny_callSpecial?_slot (name := Str.ofString "__next__") (DSub.iter_of ho).typeIs slot_listiter_next (wpAny_call_entry slot_listiter_next (DSub.iter_of ho).typeIs entry_listiter_next
    (GNX.next_item ho hl hx fun h' e sb => hQ h' e sb) (args_listiter_next _))
theorem sp_end {Q : Option Value → Shared → Prop} (hh : A.handled = none) (hit : s.heap.get? it = some (GNX.itObj l i)) (hl : s.heap.IsList l items) (hx : items[i]? = none)
    (hE : ∀ e h', StopX e h' → Heap.ExtBut it s.heap h' → Mono s.heap h' → E e { s with heap := h' }) : wpAny (model prog w) A (callSpecial? (.ref it) "__next__") Q E s := by
  obtain ⟨ol, hol, _, nl, hdl⟩ := hl
  refine wpAny_callSpecial?_slot (name := Str.ofString "__next__") (DSub.iter_of hit).typeIs slot_listiter_next (wpAny_call_entry slot_listiter_next (DSub.iter_of hit).typeIs entry_listiter_next ?_ (args_listiter_next _))
  show wpAny _ _ (field (.ref it) 0 >>= _) _ _ s
  refine wpAny_bind (wpAny_field hit rfl (x := .ref l) rfl ?_)
  show wpAny _ _ (if (Value.ref l == Value.none) = true then _ else _) _ _ s
  rw [if_neg (show ¬ ((Value.ref l == Value.none) = true) from Bool.false_ne_true)]
  show wpAny _ _ (field (.ref it) 1 >>= _) _ _ s
  refine wpAny_bind (wpAny_field hit rfl (x := .int i 0) rfl ?_)
  show wpAny _ _ (seqItems? (.ref l) >>= _) _ _ s
  refine wpAny_bind (wpAny_seqItems hol hdl ?_)
  simp only [Int.toNat_natCast, hx]
  refine wpAny_bind (wpAny_rule (wpAny_bind (wpAny_setField hit rfl (by simp) ?_)))
  show wpAny _ _ (newExc (.type "StopIteration") [] >>= _) _ _ _
  refine wpAny_bind ?_
  simp only [newExc, newTuple]
  refine wpAny_bind (wpAny_newObj_type ?_ (by size_fits))
  refine wpAny_bind (m := firstArgMember _ _) (wpAny_of_eq (a := Value.none) (by first | rfl | (simp only [firstArgMember]; rfl)) ?_)
  refine wpAny_newObj_type ?_ (by size_fits)
  simp only [raiseNew]
  refine wpAny_bind (wpAny_handled ?_)
  first | rw [show A.in1.handled = none from hh] | rw [hh]
  refine wpAny_bind (wpAny_pure (wpAny_throw ?_))
  refine hE _ _ ⟨_, _, _, rfl, Heap.get?_push_size _ rfl, rfl, rfl, ?_⟩ (((Heap.SameBut.update ..).extBut.push _).push _) (((Mono.update (by rw [hit]; rfl)).trans Mono.push).trans Mono.push)
  first
    | rfl
    | (rw [Array.getElem?_append_left (by decide)]; rfl)
    | kernel_rfl
end
abbrev yfC (it : Addr) : Code := .builtin "proto.yield_from" ⟨[.ref it, .bool false, .none], []⟩
theorem yf_den {P : Program} {w : World} {it : Addr} : (model P w).den (yfC it) = Builtin.«proto.yield_from» ⟨[.ref it, .bool false, .none], []⟩ := by
  show (match entryFor table "proto.yield_from" with | some b => b ⟨[.ref it, .bool false, .none], []⟩ | none => unsupported ((withoutEnding? "proto.yield_from" "#data").getD "proto.yield_from")) = _
  rw [entry_yf]
theorem close_lst : typeLookup (.type "list_iterator") "close" = pure none := by rw [typeLookup_type, builtinLookup_eq_fast]; kernel_rfl
def zFrom (f : FE) : GFS := fun yd ρ => if noIns ρ = true then (match f ρ with
  | some (.ok (.lst ds)) => some (yd ++ ds, .nx ρ)
  | some (.ex x) => zRs yd x ρ
  | _ => none) else none
theorem zFrom_ext (f : FE) : Ext (zFrom f) := fun yd ρ r h => by
  unfold zFrom at h
  split at h
  · split at h
    · rename_i ds _
      cases h
      exact ⟨ds, rfl⟩
    · obtain ⟨e, rfl⟩ := zRs_some h
      exact ⟨[], by simp [e]⟩
    · cases h
  · cases h
section
variable {F : Fam} {T : Tab} {sl : Addr → Prop} {ip : List (Addr × Obj)} {ρ : EV.Env} {S2 : Hp} {fs : List PySem.Frame} {it l : Addr} {zs ds : List D} {xs : List V}
/-- the turns of «yield from» -/
theorem yf_loop (hl : S2 l = some (.lst xs)) (his : Iss T S2 xs ds) (hlc : F.lc ≤ it) (hfp : ∀ (q : Wk) (H' : Hp), F.lc ≤ q.s.heap.objs.size → H' it = none → FpOk (F.X (cutS F.lc q.s) (cutH F.lc q.H) q.E) ip H' it) (hsp : splitAtGen fs = none) (hgd : fs.any PySem.Frame.guarded = false)
    (hho : (F.A.over (yfC it) fs).handled = none) (hni : noIns ρ = true) :
    ∀ (m i : Nat) (q : Wk) (σ : L2.St) (S H : Hp) (L : Nat → Option Addr) (s : Shared), i + m = ds.length → Same S2 S → GI F q sl ip σ S H L s → Rep T ρ σ S H L → Eok q (ds.drop i ++ zs) → s.heap.get? it = some (GNX.itObj l i) → H it = none →
      (∀ (q' : Wk) (σ' : L2.St) (S' H' : Hp) (L' : Nat → Option Addr) (s' : Shared), Eok q' zs → (ds.drop i = [] → q' = q ∧ Stp S H L S' H' L') → Same S S' → GI F q' sl ip σ' S' H' L' s' → Rep T ρ σ' S' H' L' → Sg F.M F.A (Pq F T zs q') (yfC it) (.pure (.done (.ret .none))) fs s') →
      Sg F.M F.A (Pq F T (ds.drop i ++ zs) q) (yfC it) (F.M.den (yfC it)) fs s := by
  have den : F.M.den (yfC it) = Builtin.«proto.yield_from» ⟨[.ref it, .bool false, .none], []⟩ := yf_den
  have lst : ∀ {q : Wk} {σ : L2.St} {S H : Hp} {L : Nat → Option Addr} {s : Shared}, Same S2 S → GI F q sl ip σ S H L s → ∃ its : List Value, Vals xs its ∧ s.heap.IsList l its.toArray := fun ss I => by
    obtain ⟨_, its, n, hv, e⟩ := I.inv.hok l _ (I.sb.same l _ (ss l _ hl))
    exact ⟨its, hv, _, e, rfl, n, rfl⟩
  have turned : ∀ {q : Wk} {σ : L2.St} {S H : Hp} {L : Nat → Option Addr} {s : Shared} {h' : Heap}, GI F q sl ip σ S H L s → Rep T ρ σ S H L → H it = none → (∀ b o, b ≠ it → s.heap.get? b = some o → h'.get? b = some o) → Mono s.heap h' → GI F q sl ip σ S H L { s with heap := h' } := fun {q σ S H L s h'} I rp hn hk m => by
    obtain ⟨f1, f2, f3, f4, f5, f6⟩ := hfp q H I.sz hn
    exact I.step (I.inv.turned (t' := s.toks) (it := it) hk hn f2 f4 f5 f6) rp.sub Stp.refl m
  intro m
  induction m with
  | zero =>
    intro i q σ S H L s hi ss I rp he hit hn k
    have ei : i = ds.length := by omega
    subst ei
    rw [List.drop_length] at he k ⊢
    obtain ⟨its, hv, hli⟩ := lst ss I
    have nx : its.toArray[ds.length]? = none := by
      have e1 := hv.length
      have e2 := his.length
      have : its[ds.length]? = none := List.getElem?_eq_none_iff.mpr (by omega)
      simpa using this
    rw [den]
    unfold Builtin.«proto.yield_from»
    try dsimp only
    refine sg_bind (wpAny_pure ?_)
    try dsimp only
    refine sg_bind (wpAny_attempt (wpAny_holding ?_))
    rw [if_neg Bool.false_ne_true, if_pos (show (Value.none == Value.none) = true from rfl)]
    refine wpAny_bind (wpAny_rule (wpAny_bind ?_))
    refine sp_end hho hit hli nx fun e h' hS hk mn => ?_
    obtain ⟨a, o, vs, rfl, hoa, hcls, hdat, h5⟩ := hS
    try dsimp only
    refine sg_bind (wpAny_endsTurn hoa hcls ?_)
    try dsimp only
    rw [if_pos rfl]
    first
      | refine sg_bind (wpAny_rule ?_)
      | (rw [if_neg Bool.false_ne_true]; refine sg_bind (wpAny_rule ?_))
      | (rw [if_neg Bool.false_ne_true]; refine sg_bind (wpAny_pure ?_); refine sg_bind (wpAny_rule ?_))
    refine sg_bind (wpAny_field hoa hdat h5 ?_)
    exact k q σ S H L _ he (fun _ => ⟨rfl, Stp.refl⟩) (Same.refl S) (turned I rp hn (fun b o hb e => hk b o hb e) mn) rp
  | succ m ih =>
    intro i q σ S H L s hi ss I rp he hit hn k
    have hlt : i < ds.length := by omega
    have hdr : ds.drop i = ds[i] :: ds.drop (i + 1) := List.drop_eq_getElem_cons hlt
    have xl : xs.length = ds.length := his.length
    obtain ⟨its, hv, hli⟩ := lst ss I
    obtain ⟨x, hx, hxd⟩ := Iss.get' (his.mono ss) (List.getElem?_eq_getElem hlt)
    obtain ⟨u, hu, ru⟩ := hv.get hx
    rw [den]
    unfold Builtin.«proto.yield_from»
    try dsimp only
    refine sg_bind (wpAny_pure ?_)
    try dsimp only
    refine sg_bind (wpAny_attempt (wpAny_holding ?_))
    rw [if_neg Bool.false_ne_true, if_pos (show (Value.none == Value.none) = true from rfl)]
    refine wpAny_bind (wpAny_rule (wpAny_bind ?_))
    refine sp_item hit hli (x := u) (by simpa using hu) fun h' hit' sb => ?_
    have mn : Mono s.heap h' := ⟨Nat.le_of_eq sb.1.symm, fun b _ e => by
      by_cases z : b = it
      · rw [z, hit] at e; cases e
      · rw [sb.2 b z]; exact e⟩
    have I' := turned I rp hn (fun b o hb e => (sb.2 b hb).trans e) mn
    refine wpAny_pure ?_
    try dsimp only
    refine sg_bind (wpAny_typeOf (T := "list_iterator") ⟨_, hit', rfl⟩ ?_)
    try dsimp only
    first
      | (refine sg_bind (wpAny_of_eq close_lst ?_); refine sg_bind (wpAny_pure ?_))
      | refine sg_bind (wpAny_bind (wpAny_of_eq close_lst (wpAny_pure ?_)))
      | refine sg_bind (wpAny_of_eq close_lst ?_)
    try dsimp only
    refine sg_bind (wpAny_sleptOver hit' rfl (by decide) ?_)
    have kn := Kin.of rp hni
    -- the iterator is pinned while it sleeps
    have Ip : GI F q sl (ip ++ [(it, GNX.itObj l (i + 1))]) σ S H L { s with heap := h' } := by
      have J := I'.inv.pinned (fp := [it]) (fun b hb => by rw [List.mem_singleton.mp hb]; exact hfp q H I.sz hn) (fun b hb => by rw [List.mem_singleton.mp hb]; exact ⟨_, hit', fun v z => by cases z⟩)
      have ep : pinsAt [it] h' = [(it, GNX.itObj l (i + 1))] := by
        unfold pinsAt
        rw [List.filterMap_cons, hit']
        rfl
      rw [show ({ s with heap := h' } : Shared).heap = h' from rfl, ep] at J
      refine ⟨⟨J, I'.sb, I'.stp, I'.hc, I'.ho, I'.sub, I'.env, I'.sz, I'.lq, I'.fst⟩, I'.sleep, I'.mono, fun p hp => ?_⟩
      rcases List.mem_cons.mp hp with z | z
      · exact I'.young p (by rw [z]; exact List.mem_cons_self)
      · rcases List.mem_append.mp z with z | z
        · exact I'.young p (List.mem_cons_of_mem _ z)
        · rw [List.mem_singleton.mp z]; exact hlc
    have back : ∀ {q7 : Wk} {σ7 : L2.St} {S7 H7 : Hp} {L7 : Nat → Option Addr} {s7 : Shared}, GI F q7 sl (ip ++ [(it, GNX.itObj l (i + 1))]) σ7 S7 H7 L7 s7 → GI F q7 sl ip σ7 S7 H7 L7 s7 ∧ s7.heap.get? it = some (GNX.itObj l (i + 1)) ∧ H7 it = none := fun {q7 σ7 S7 H7 L7 s7} G => by
      obtain ⟨p1, p2, _⟩ := G.inv.pin (it, GNX.itObj l (i + 1)) (List.mem_append_right _ (List.mem_append_right _ (List.mem_singleton.mpr rfl)))
      exact ⟨⟨⟨G.inv.unpinned, G.sb, G.stp, G.hc, G.ho, G.sub, G.env, G.sz, G.lq, G.fst⟩, G.sleep, G.mono, I'.young⟩, p1, p2⟩
    refine sg_yield hsp fun p => ?_
    rw [hdr]
    refine ⟨u, _, _, _, _, p, fs, _, S, Pv F sl (ip ++ [(it, GNX.itObj l (i + 1))]) L, x, rfl, ?_, Ip.asleep kn, ru, hxd, fun b hb => ?_, .inr (.inr (.inl ⟨_, List.mem_cons_self, rfl⟩)), fun s3 Hc Sc wk => ?_⟩
    · show (!(_ || fs.any PySem.Frame.guarded)) = true
      rw [hgd]; rfl
    · obtain ⟨h1, h2, h3, _⟩ := Ip.pv kn hb
      exact ⟨h1, h2, minus_of hb, h3⟩
    · obtain ⟨I2, r2⟩ := Ip.woken (E' := noXg) kn rp wk (.inr fun _ _ _ z => z)
      obtain ⟨I3, hit3, hn3⟩ := back I2
      show Sg _ _ _ _ (Builtin.Generator.sleptOver (.ref it) false >>= fun _ => _) fs s3
      refine sg_bind (wpAny_sleptOver hit3 rfl (by decide) ?_)
      try dsimp only
      refine sg_bind (wpAny_pure ?_)
      refine sg_again (plainId_quiet plain_yf _) (ih (i + 1) _ _ _ _ _ s3 (by omega) (ss.trans wk.same) I3 r2 (.inl fun _ _ _ z => z) hit3 hn3 fun q' σ' S' H' L' s' he' lnk ss' I4 r4 => ?_)
      exact k q' σ' S' H' L' s' he' (fun z => by rw [hdr] at z; cases z) (wk.same.trans ss') I4 r4
end
section
variable {F : Fam} {T : Tab} {e : Expr} {f : FE} {yp pos : Pos}
theorem gz_yfrom (hf : ZE F T e f) (hi : interactive F.env = false := by rfl) : GZ F T (zS F (.Expr (.YieldFrom e yp) pos)) (zFrom f) := by
  refine ⟨zFrom_ext f, fun q sl ip yd zs w c fs K J gd lv s ρ σ S H L r gc I rp ee hw he k hx => ?_⟩
  unfold zFrom at ee
  split at ee
  · rename_i hni
    show Sg _ _ _ _ ((exec (.Expr (.YieldFrom e yp) pos) F.env).wrap K J gd lv) fs s
    rw [exec_Expr F.env _ pos hi rfl]
    show Sg F.M F.A (Pq F T (w ++ zs) q) c (.at pos fun _ => ((eval e F.env >>= fun v => (standAt yp >>= fun _ => yieldFrom F.env v)) >>= fun x => dropValue (.YieldFrom e yp) pos x).wrap K J gd lv) fs s
    refine sg_at ?_
    rw [Sem.bind_eq_wrap' (eval e F.env >>= _) _, Sem.wrap_wrap]
    have exc : ∀ (x : Value) s', (F.X (cutS F.lc q.s) (cutH F.lc q.H) q.E).xe x s' → Sg F.M F.A (Pq F T (w ++ zs) q) c (J x) fs s' := fun x s' hx' => k.exc q _ x s' he I.fst hx'
    split at ee
    · rename_i ds ed
      cases ee
      have ew : w = ds := (List.append_cancel_left hw).symm
      subst ew
      refine sg_bindw ?_
      rw [gc.over]
      refine wpAny_mono (wpAny_mn ((hf (cutS F.lc q.s) (cutH F.lc q.H) q.E).run ip s σ H (fun v H' => ∃ S', Kp S H S' H' ∧ Is T S' v (.lst w)) I.inv ⟨ρ, S, _, rp.sub, rp.repE, ed, fun v S' H' kp i => ⟨S', kp, i⟩⟩)) (fun v s1 ⟨m1, x, H', J', rv, S', kp, i⟩ => ?_) fun x s' hx' => exc x s' hx'.2
      have r' := rp.kp kp
      have I' := I.step J' r'.sub kp.stp m1
      cases i with
      | lst hl his =>
        rename_i l xs
        obtain rfl : v = Value.ref l := rv
        obtain ⟨_, its, n, hv, el⟩ := I'.inv.hok l _ (I'.sb.same l _ hl)
        have hli : s1.heap.IsList l its.toArray := ⟨_, el, rfl, n, rfl⟩
        refine sg_at ?_
        show Sg _ _ _ _ ((yieldFrom F.env (.ref l)).wrap (fun b => (dropValue (.YieldFrom e yp) pos b).wrap K J gd lv) J gd lv) fs s1
        unfold yieldFrom
        refine sg_bindw (wpAny_typeOf hli.typeIs ?_)
        rw [if_neg (show ¬ ((Value.type "list" == Value.type "coroutine") = true) by decide)]
        refine sg_bindw (wpAny_holding ?_)
        refine wpAny_pyIter_list hli ?_
        have ksz : ∀ b o, s1.heap.get? b = some o → (s1.heap.push { cls := .type "list_iterator", data := .fields #[.ref l, .int 0 0] }).get? b = some o := fun b o e => Heap.get?_push_of_some _ e
        have hn : H' s1.heap.objs.size = none := I'.inv.hok.fresh (Nat.le_refl _)
        have lc1 : F.lc ≤ s1.heap.objs.size := Nat.le_trans I'.sz I'.mono.sz
        have I2 : GI F q sl ip σ S' H' L { s1 with heap := s1.heap.push { cls := .type "list_iterator", data := .fields #[.ref l, .int 0 0] } } := I'.step (I'.inv.kept (t' := s1.toks) ksz) r'.sub Stp.refl Mono.push
        have fp := I'.inv.fpOk (b := s1.heap.objs.size) (Nat.le_refl _) hn
        have fpok : ∀ (q' : Wk) (H1 : Hp), F.lc ≤ q'.s.heap.objs.size → H1 s1.heap.objs.size = none → FpOk (F.X (cutS F.lc q'.s) (cutH F.lc q'.H) q'.E) ip H1 s1.heap.objs.size := fun q' H1 hz hn => by
          obtain ⟨_, r1, r2, _, r3⟩ := fp
          refine ⟨hn, r1, r2, .inr ?_, r3⟩
          have h2 : (cutS F.lc q'.s).heap.objs.size = F.lc := cutA_size hz
          show (cutS F.lc q'.s).heap.objs.size ≤ _
          rw [h2]; exact lc1
        refine sg_call fun p => ?_
        have e0 : w = w.drop 0 := rfl
        rw [e0] at he ⊢
        refine yf_loop (xs := xs) (S2 := S') hl his lc1 fpok ?_ ?_ ?_ hni w.length 0 q σ S' H' L _ (Nat.zero_add _) (Same.refl _) I2 r' he (Heap.get?_push_size _ rfl) hn fun q' σ'' S'' H'' L'' s' he' lnk ss I4 r4 => ?_
        · show (splitAtGen fs).map _ = none
          rw [gc.split]; rfl
        · show (gd false || fs.any PySem.Frame.guarded) = false
          rw [gc.gd, gc.guard]; rfl
        · show (F.A.over c fs).handled = none
          rw [gc.over]; exact I.inv.ok.hd rfl
        · exact sg_leaf (.ok (.ret .none)) (((k.later kp.stp).ok q' ρ σ'' S'' H'' L'' s' he' lnk ss I4 r4).1 rfl)
    · rename_i x ex
      obtain ⟨ey, rfl⟩ := zRs_some ee
      refine sg_bindw ?_
      rw [gc.over]
      exact wpAny_mono ((hf (cutS F.lc q.s) (cutH F.lc q.H) q.E).run ip s σ H (fun _ _ => False) I.inv ⟨ρ, S, _, rp.sub, rp.repE, ex, fun S' H' cls d kp i => (hx x ρ rfl).2 σ S' H' L cls d (rp.kp kp) kp.stp i⟩) (fun v s' ⟨_, _, _, _, z⟩ => z.elim) fun x s' hx => exc x s' hx
    · cases ee
  · cases ee
end
end EV
end

section
set_option maxHeartbeats 4000000
namespace LW
open PySem L2 EV
def clsN : Nat → Str
  | 0 => "SluiceError"
  | 1 => "BadSluice"
  | 7 => "Valley"
  | _ => ""
def fldN : Nat → List Str
  | 0 => []
  | 1 => ["index"]
  | 7 => ["mills", "sluices"]
  | _ => []
abbrev tab (K : PySem.W.Frag) : EV.Tab := ⟨⟨K, fun i => He.ga K (clsN i), fldN⟩, none⟩
section
variable {K : PySem.W.Frag} {mg : Str → Option Value}
theorem glo__law_digits (hy : Hyp K mg) : mg "_law_digits" = some (.ref (He.ga K "_law_digits")) := let ⟨_, X, G⟩ := hy.ns; He.glo_ok X G (hy.says.d.fact 0 (f := .glo "_law_digits") rfl)
theorem glo__law_cell (hy : Hyp K mg) : mg "_law_cell" = some (.ref (He.ga K "_law_cell")) := let ⟨_, X, G⟩ := hy.ns; He.glo_ok X G (hy.says.d.fact 1 (f := .glo "_law_cell") rfl)
theorem glo__law_small (hy : Hyp K mg) : mg "_law_small" = some (.ref (He.ga K "_law_small")) := let ⟨_, X, G⟩ := hy.ns; He.glo_ok X G (hy.says.d.fact 2 (f := .glo "_law_small") rfl)
theorem glo__law_free (hy : Hyp K mg) : mg "_law_free" = some (.ref (He.ga K "_law_free")) := let ⟨_, X, G⟩ := hy.ns; He.glo_ok X G (hy.says.d.fact 3 (f := .glo "_law_free") rfl)
theorem glo__law_ground (hy : Hyp K mg) : mg "_law_ground" = some (.ref (He.ga K "_law_ground")) := let ⟨_, X, G⟩ := hy.ns; He.glo_ok X G (hy.says.d.fact 4 (f := .glo "_law_ground") rfl)
theorem glo_frozen (hy : Hyp K mg) : mg "frozen" = some (.ref (He.ga K "frozen")) := let ⟨_, X, G⟩ := hy.ns; He.glo_ok X G (hy.says.d.fact 5 (f := .glo "frozen") rfl)
theorem glo_check_pairs (hy : Hyp K mg) : mg "check_pairs" = some (.ref (He.ga K "check_pairs")) := let ⟨_, X, G⟩ := hy.ns; He.glo_ok X G (hy.says.d.fact 6 (f := .glo "check_pairs") rfl)
theorem glo__law_row (hy : Hyp K mg) : mg "_law_row" = some (.ref (He.ga K "_law_row")) := let ⟨_, X, G⟩ := hy.ns; He.glo_ok X G (hy.says.d.fact 7 (f := .glo "_law_row") rfl)
theorem glo__law_form (hy : Hyp K mg) : mg "_law_form" = some (.ref (He.ga K "_law_form")) := let ⟨_, X, G⟩ := hy.ns; He.glo_ok X G (hy.says.d.fact 8 (f := .glo "_law_form") rfl)
theorem glo__law_values (hy : Hyp K mg) : mg "_law_values" = some (.ref (He.ga K "_law_values")) := let ⟨_, X, G⟩ := hy.ns; He.glo_ok X G (hy.says.d.fact 9 (f := .glo "_law_values") rfl)
theorem glo__law_handed (hy : Hyp K mg) : mg "_law_handed" = some (.ref (He.ga K "_law_handed")) := let ⟨_, X, G⟩ := hy.ns; He.glo_ok X G (hy.says.d.fact 10 (f := .glo "_law_handed") rfl)
theorem glo__law_turns (hy : Hyp K mg) : mg "_law_turns" = some (.ref (He.ga K "_law_turns")) := let ⟨_, X, G⟩ := hy.ns; He.glo_ok X G (hy.says.d.fact 11 (f := .glo "_law_turns") rfl)
theorem glo__law_whole (hy : Hyp K mg) : mg "_law_whole" = some (.ref (He.ga K "_law_whole")) := let ⟨_, X, G⟩ := hy.ns; He.glo_ok X G (hy.says.d.fact 12 (f := .glo "_law_whole") rfl)
theorem glo__law_same (hy : Hyp K mg) : mg "_law_same" = some (.ref (He.ga K "_law_same")) := let ⟨_, X, G⟩ := hy.ns; He.glo_ok X G (hy.says.d.fact 13 (f := .glo "_law_same") rfl)
theorem glo_feeds (hy : Hyp K mg) : mg "feeds" = some (.ref (He.ga K "feeds")) := let ⟨_, X, G⟩ := hy.ns; He.glo_ok X G (hy.says.d.fact 14 (f := .glo "feeds") rfl)
theorem glo_turned (hy : Hyp K mg) : mg "turned" = some (.ref (He.ga K "turned")) := let ⟨_, X, G⟩ := hy.ns; He.glo_ok X G (hy.says.d.fact 15 (f := .glo "turned") rfl)
theorem glo_fed (hy : Hyp K mg) : mg "fed" = some (.ref (He.ga K "fed")) := let ⟨_, X, G⟩ := hy.ns; He.glo_ok X G (hy.says.d.fact 16 (f := .glo "fed") rfl)
theorem glo__law_fed (hy : Hyp K mg) : mg "_law_fed" = some (.ref (He.ga K "_law_fed")) := let ⟨_, X, G⟩ := hy.ns; He.glo_ok X G (hy.says.d.fact 17 (f := .glo "_law_fed") rfl)
theorem glo_differing (hy : Hyp K mg) : mg "differing" = some (.ref (He.ga K "differing")) := let ⟨_, X, G⟩ := hy.ns; He.glo_ok X G (hy.says.d.fact 18 (f := .glo "differing") rfl)
theorem glo__law_differs (hy : Hyp K mg) : mg "_law_differs" = some (.ref (He.ga K "_law_differs")) := let ⟨_, X, G⟩ := hy.ns; He.glo_ok X G (hy.says.d.fact 19 (f := .glo "_law_differs") rfl)
theorem glo__law_walked (hy : Hyp K mg) : mg "_law_walked" = some (.ref (He.ga K "_law_walked")) := let ⟨_, X, G⟩ := hy.ns; He.glo_ok X G (hy.says.d.fact 20 (f := .glo "_law_walked") rfl)
theorem glo__law_settings (hy : Hyp K mg) : mg "_law_settings" = some (.ref (He.ga K "_law_settings")) := let ⟨_, X, G⟩ := hy.ns; He.glo_ok X G (hy.says.d.fact 21 (f := .glo "_law_settings") rfl)
theorem glo_settings (hy : Hyp K mg) : mg "settings" = some (.ref (He.ga K "settings")) := let ⟨_, X, G⟩ := hy.ns; He.glo_ok X G (hy.says.d.fact 22 (f := .glo "settings") rfl)
theorem glo__law_same_rows (hy : Hyp K mg) : mg "_law_same_rows" = some (.ref (He.ga K "_law_same_rows")) := let ⟨_, X, G⟩ := hy.ns; He.glo_ok X G (hy.says.d.fact 23 (f := .glo "_law_same_rows") rfl)
theorem glo__law_listed (hy : Hyp K mg) : mg "_law_listed" = some (.ref (He.ga K "_law_listed")) := let ⟨_, X, G⟩ := hy.ns; He.glo_ok X G (hy.says.d.fact 24 (f := .glo "_law_listed") rfl)
theorem glo__law_truth (hy : Hyp K mg) : mg "_law_truth" = some (.ref (He.ga K "_law_truth")) := let ⟨_, X, G⟩ := hy.ns; He.glo_ok X G (hy.says.d.fact 25 (f := .glo "_law_truth") rfl)
theorem glo_is_setting (hy : Hyp K mg) : mg "is_setting" = some (.ref (He.ga K "is_setting")) := let ⟨_, X, G⟩ := hy.ns; He.glo_ok X G (hy.says.d.fact 26 (f := .glo "is_setting") rfl)
theorem glo__law_judged (hy : Hyp K mg) : mg "_law_judged" = some (.ref (He.ga K "_law_judged")) := let ⟨_, X, G⟩ := hy.ns; He.glo_ok X G (hy.says.d.fact 27 (f := .glo "_law_judged") rfl)
theorem glo_law (hy : Hyp K mg) : mg "law" = some (.ref (He.ga K "law")) := let ⟨_, X, G⟩ := hy.ns; He.glo_ok X G (hy.says.d.fact 28 (f := .glo "law") rfl)
theorem glo_Valley (hy : Hyp K mg) : mg "Valley" = some (.ref (He.ga K "Valley")) := let ⟨_, X, G⟩ := hy.ns; He.glo_ok X G (hy.says.d.fact 29 (f := .glo "Valley") rfl)
theorem free_abs (hy : Hyp K mg) : mg "abs" = none := let ⟨_, X, G⟩ := hy.ns; He.free_ok X G (hy.says.d.fact 30 (f := .free "abs") rfl)
theorem free_all (hy : Hyp K mg) : mg "all" = none := let ⟨_, X, G⟩ := hy.ns; He.free_ok X G (hy.says.d.fact 31 (f := .free "all") rfl)
theorem free_bool (hy : Hyp K mg) : mg "bool" = none := let ⟨_, X, G⟩ := hy.ns; He.free_ok X G (hy.says.d.fact 32 (f := .free "bool") rfl)
theorem free_enumerate (hy : Hyp K mg) : mg "enumerate" = none := let ⟨_, X, G⟩ := hy.ns; He.free_ok X G (hy.says.d.fact 33 (f := .free "enumerate") rfl)
theorem free_int (hy : Hyp K mg) : mg "int" = none := let ⟨_, X, G⟩ := hy.ns; He.free_ok X G (hy.says.d.fact 34 (f := .free "int") rfl)
theorem free_isinstance (hy : Hyp K mg) : mg "isinstance" = none := let ⟨_, X, G⟩ := hy.ns; He.free_ok X G (hy.says.d.fact 35 (f := .free "isinstance") rfl)
theorem free_len (hy : Hyp K mg) : mg "len" = none := let ⟨_, X, G⟩ := hy.ns; He.free_ok X G (hy.says.d.fact 36 (f := .free "len") rfl)
theorem free_list (hy : Hyp K mg) : mg "list" = none := let ⟨_, X, G⟩ := hy.ns; He.free_ok X G (hy.says.d.fact 37 (f := .free "list") rfl)
theorem free_max (hy : Hyp K mg) : mg "max" = none := let ⟨_, X, G⟩ := hy.ns; He.free_ok X G (hy.says.d.fact 38 (f := .free "max") rfl)
theorem free_min (hy : Hyp K mg) : mg "min" = none := let ⟨_, X, G⟩ := hy.ns; He.free_ok X G (hy.says.d.fact 39 (f := .free "min") rfl)
theorem free_range (hy : Hyp K mg) : mg "range" = none := let ⟨_, X, G⟩ := hy.ns; He.free_ok X G (hy.says.d.fact 40 (f := .free "range") rfl)
theorem free_tuple (hy : Hyp K mg) : mg "tuple" = none := let ⟨_, X, G⟩ := hy.ns; He.free_ok X G (hy.says.d.fact 41 (f := .free "tuple") rfl)
theorem free_zip (hy : Hyp K mg) : mg "zip" = none := let ⟨_, X, G⟩ := hy.ns; He.free_ok X G (hy.says.d.fact 42 (f := .free "zip") rfl)
theorem cls_Valley (hy : Hyp K mg) : Cls K (He.ga K "Valley") := He.cls_ok (hy.says.d.fact 43 (f := .cls "Valley") rfl)
theorem noat_Valley_mills (hy : Hyp K mg) : NoAttr K (He.ga K "Valley") "mills" := He.noat_ok (hy.says.d.fact 44 (f := .noat "Valley" "mills") rfl)
theorem fld_Valley_mills (hy : Hyp K mg) : Fld (tab K) 7 0 "mills" := ⟨cls_Valley hy, noat_Valley_mills hy, rfl, (show ¬ ("mills" : Str) ∈ List.take 0 (fldN 7) by decide), (show (fldN 7).length ≤ 900 by decide)⟩
theorem noat_Valley_sluices (hy : Hyp K mg) : NoAttr K (He.ga K "Valley") "sluices" := He.noat_ok (hy.says.d.fact 45 (f := .noat "Valley" "sluices") rfl)
theorem fld_Valley_sluices (hy : Hyp K mg) : Fld (tab K) 7 1 "sluices" := ⟨cls_Valley hy, noat_Valley_sluices hy, rfl, (show ¬ ("sluices" : Str) ∈ List.take 1 (fldN 7) by decide), (show (fldN 7).length ≤ 900 by decide)⟩
theorem mk_Valley (hy : Hyp K mg) : Mk K (He.ga K "Valley") (He.ma K (He.ga K "Valley") "__init__") := He.mkr_ok (hy.says.d.fact 46 (f := .mkr "Valley") rfl)
end
end LW
end

section
set_option maxHeartbeats 4000000
/-! EV13: the end: a law's def whose promise may lean on the World. -/
namespace EV
open PySem PySem.Spec PyProof.Rows L2
theorem walk_end {l : PySem.W.OpenLaw} {n k : Nat} {q : Program} {loose : List Str} {XP : (Str → Option Value) → Heap → Prop} {YP : World → Heap → Prop} {d : DefRec} {x : Str} (C : World → CXT)
    (h1 : l.most = some n) (h2 : n ≤ sizeLine) (h3 : d.params.defaults = []) (h4 : Room k callerA)
    (F : ∀ (w : World) (mg : Str → Option Value) (fa : Addr) (h : Heap), YP w h → h.Ns mainGlobals mg → mg d.name = some (.ref fa) →
      ∃ (K : PySem.W.Frag) (fd : FuncData) (sp : Sp), K.In h ∧ (∀ (s : Shared) (u : Value), BindsTo s fd ⟨[u], []⟩ [(x, u)]) ∧
        (∀ (H : Hp) (a : Addr) (ms : List Int), ms.length ≤ n → SqL K H a (ms.map V.int) → sp [.ref a] H (fun v _ => v = .bl true) fun _ _ _ => False) ∧
        ∀ g : Heap, K.In g → g.Ns mainGlobals mg → FnOk l.prog w K mg g (C w) k fa fd [x] sp)
    (hC : ∀ (w : World) (H : Hp) (s : Shared) (e : Value) (s' : Shared), C w [] H s (fun _ _ _ => False) e s' → False) : PySem.W.WalkO q loose XP YP l.row.toRowW d [] (fun f vs => PySem.call f vs) := by
  refine Att.attach_call h1 h3 fun w sa sb mg mb fa o pm cd doc a vs ms G Y ho hd hcd hmg hobj hints hlen hg => ?_
  obtain ⟨K, fd, sp, KX, hb, hsp, hF⟩ := F w mg fa _ Y G.T.g hmg
  refine law_call KX G.T.g G.T.b G.T.builtins G.T.nolimit hg hobj hints (Nat.le_trans hlen h2) h4 hF hb ?_ ?_
  · exact fun H _ hS => hsp H a ms hlen hS
  · exact fun H e s' => hC w H sb e s'
end EV
end

section
set_option maxHeartbeats 4000000
namespace LW
open PySem L2 EV
theorem sc_law_digits : FnScope ["_law_cell_here", "_law_sizes", "_law_row_here", "_law_rest", "_law_size", "_law_seed", "_law_k", "_law_twice"] ["_law_cell_here", "_law_sizes"] (defScope st_law_digits) := ⟨rfl, rfl, rfl, by decide +kernel, rfl, by decide +kernel, by decide +kernel⟩
def g_law_digits : FS := gSeq (gOwn 2 (lenOk (aNil))) (gSeq (gSet 3 (vCall intD (aCons (vVar 0) (aNil)))) (gSeq (gIf (v2 geD (vVar 3) (v2 powD (vC (.int 10)) (vC (.int 18)))) (gSeq (gSet 3 (v2 subD (vVar 3) (v2 powD (vC (.int 10)) (vC (.int 18))))) (gSeq (gFor (iSeq (vVar 1)) (nmG 4) (gSeq (gAppO 2 (gApp 2 (v2 modD (vCall intD (aCons (vVar 3) (aNil))) (vVar 4)))) (gSet 3 (v2 fdivD (vCall intD (aCons (vVar 3) (aNil))) (vVar 4))))) (gRel 2 (gRet (vVar 2))))) (gNext)) (gSeq (gSet 5 (v2 modD (vCall intD (aCons (vVar 3) (aNil))) (vC (.int 2147483629)))) (gSeq (gFor (iRange1 (vCall lenD (aCons (vVar 1) (aNil)))) (nmG 6) (gSeq (gSet 5 (v2 modD (vCall intD (aCons (v2 addD (v2 addD (v2 mulD (vVar 5) (vC (.int 48271))) (v2 mulD (vC (.int 974711)) (vVar 6))) (vC (.int 12345))) (aNil))) (vC (.int 2147483647)))) (gSeq (gSet 7 (v2 modD (vCall intD (aCons (v2 mulD (vVar 5) (v2 addD (v2 fdivD (vVar 5) (vC (.int 65537))) (vC (.int 3)))) (aNil))) (vC (.int 2147483629)))) (gAppO 2 (gApp 2 (v2 modD (vCall intD (aCons (v2 fdivD (vVar 7) (vC (.int 19))) (aNil))) (v2 ixD (vVar 1) (vVar 6)))))))) (gRel 2 (gRet (vVar 2)))))))
def sem_law_digits : List D → Option R := semF 8 g_law_digits
theorem ok_law_digits {P : Program} {w : World} {K : PySem.W.Frag} {mg : Str → Option Value} {base : Heap} (hy : Hyp K mg) : ∃ fd, FunD K d_law_digits.name d_law_digits.qual d_law_digits.params d_law_digits.body d_law_digits.scope (d_law_digits.dvs K) (d_law_digits.kws K) (He.fAd K d_law_digits.at_) fd ∧ FnOk P w K mg base (L2N.CX P w) 1 (He.fAd K d_law_digits.at_) fd ["_law_cell_here", "_law_sizes"] (spF (tab K) 2 (sem_law_digits)) := by
  obtain ⟨fd, F⟩ := hy.says.fn (0) (d := d_law_digits) rfl
  exact ⟨fd, F, fn_ev F sc_law_digits fun cdv A outer s H E hr => (ss_cons (ss_own 2 (hN := sc_law_digits.nd) (he := en_lst (ea_nil))) (ss_cons (ss_set 3 (hN := sc_law_digits.nd) (he := ee_callT (hc := call_int1) (h := o_int) (hm := (free_int hy)) (hv := by decide +kernel) (ha := ea_cons (ee_var 0) (ea_nil)))) (ss_cons (ss_if (eb_ge (ha := ee_var 3) (hb := ee_pow (ha := ee_int) (hb := ee_int))) (ss_cons (ss_set 3 (hN := sc_law_digits.nd) (he := ee_sub (ha := ee_var 3) (hb := ee_pow (ha := ee_int) (hb := ee_int)))) (ss_cons (ss_for (hp := (passes_of rfl)) (hc := rfl) (hi := ei_seq (he := ee_var 1)) (hg := eg_name 4 sc_law_digits.nd) (hb := ss_cons (ss_app 2 (he := ee_mod (ha := ee_callT (hc := call_int1) (h := o_int) (hm := (free_int hy)) (hv := by decide +kernel) (ha := ea_cons (ee_var 3) (ea_nil))) (hb := ee_var 4))) (ss_one (ss_set 3 (hN := sc_law_digits.nd) (he := ee_fdiv (ha := ee_callT (hc := call_int1) (h := o_int) (hm := (free_int hy)) (hv := by decide +kernel) (ha := ea_cons (ee_var 3) (ea_nil))) (hb := ee_var 4)))))) (ss_one (ss_rel 2 (ss_ret (ee_var 2)))))) (ss_nil)) (ss_cons (ss_set 5 (hN := sc_law_digits.nd) (he := ee_mod (ha := ee_callT (hc := call_int1) (h := o_int) (hm := (free_int hy)) (hv := by decide +kernel) (ha := ea_cons (ee_var 3) (ea_nil))) (hb := ee_int))) (ss_cons (ss_for (hp := (passes_of rfl)) (hc := rfl) (hi := ei_range1 (hm := (free_range hy)) (ha := ee_callB (hc := call_len_seq) (h := (o_len rfl)) (hm := (free_len hy)) (hv := by decide +kernel) (ha := ea_cons (ee_var 1) (ea_nil)))) (hg := eg_name 6 sc_law_digits.nd) (hb := ss_cons (ss_set 5 (hN := sc_law_digits.nd) (he := ee_mod (ha := ee_callT (hc := call_int1) (h := o_int) (hm := (free_int hy)) (hv := by decide +kernel) (ha := ea_cons (ee_add (ha := ee_add (ha := ee_mul (ha := ee_var 5) (hb := ee_int)) (hb := ee_mul (ha := ee_int) (hb := ee_var 6))) (hb := ee_int)) (ea_nil))) (hb := ee_int))) (ss_cons (ss_set 7 (hN := sc_law_digits.nd) (he := ee_mod (ha := ee_callT (hc := call_int1) (h := o_int) (hm := (free_int hy)) (hv := by decide +kernel) (ha := ea_cons (ee_mul (ha := ee_var 5) (hb := ee_add (ha := ee_fdiv (ha := ee_var 5) (hb := ee_int)) (hb := ee_int))) (ea_nil))) (hb := ee_int))) (ss_one (ss_app 2 (he := ee_mod (ha := ee_callT (hc := call_int1) (h := o_int) (hm := (free_int hy)) (hv := by decide +kernel) (ha := ea_cons (ee_fdiv (ha := ee_var 7) (hb := ee_int)) (ea_nil))) (hb := ee_ix (ha := ee_var 1) (hb := ee_var 6)))))))) (ss_one (ss_rel 2 (ss_ret (ee_var 2)))))))))⟩
end LW
end

section
set_option maxHeartbeats 4000000
namespace LW
open PySem L2 EV
theorem sc_law_cell : FnScope ["_law_script", "_law_k", "_law_seed", "_law_cell_here"] ["_law_script", "_law_k"] (defScope st_law_cell) := ⟨rfl, rfl, rfl, by decide +kernel, rfl, by decide +kernel, by decide +kernel⟩
def g_law_cell : FS := gSeq (gIf (v2 ltD (vVar 1) (vCall lenD (aCons (vVar 0) (aNil)))) (gRet (v2 ixD (vVar 0) (vVar 1))) (gNext)) (gSeq (gSet 2 (vC (.int 17))) (gSeq (gFor (iSeq (vVar 0)) (nmG 3) (gSet 2 (v2 modD (vCall intD (aCons (v2 addD (v2 mulD (vVar 2) (vC (.int 31))) (v2 modD (vCall intD (aCons (vVar 3) (aNil))) (vC (.int 1000003)))) (aNil))) (vC (.int 1000003))))) (gRet (v2 modD (vCall intD (aCons (v2 mulD (v2 mulD (v2 addD (vVar 2) (vC (.int 7))) (v2 addD (vVar 1) (vC (.int 3)))) (vC (.int 69621))) (aNil))) (vC (.int 2147483647))))))
def sem_law_cell : List D → Option R := semF 4 g_law_cell
theorem ok_law_cell {P : Program} {w : World} {K : PySem.W.Frag} {mg : Str → Option Value} {base : Heap} (hy : Hyp K mg) : ∃ fd, FunD K d_law_cell.name d_law_cell.qual d_law_cell.params d_law_cell.body d_law_cell.scope (d_law_cell.dvs K) (d_law_cell.kws K) (He.fAd K d_law_cell.at_) fd ∧ FnOk P w K mg base (L2N.CX P w) 1 (He.fAd K d_law_cell.at_) fd ["_law_script", "_law_k"] (spF (tab K) 2 (sem_law_cell)) := by
  obtain ⟨fd, F⟩ := hy.says.fn (1) (d := d_law_cell) rfl
  exact ⟨fd, F, fn_ev F sc_law_cell fun cdv A outer s H E hr => (ss_cons (ss_if (eb_lt (ha := ee_var 1) (hb := ee_callB (hc := call_len_seq) (h := (o_len rfl)) (hm := (free_len hy)) (hv := by decide +kernel) (ha := ea_cons (ee_var 0) (ea_nil)))) (ss_one (ss_ret (ee_ix (ha := ee_var 0) (hb := ee_var 1)))) (ss_nil)) (ss_cons (ss_set 2 (hN := sc_law_cell.nd) (he := ee_int)) (ss_cons (ss_for (hp := (passes_of rfl)) (hc := rfl) (hi := ei_seq (he := ee_var 0)) (hg := eg_name 3 sc_law_cell.nd) (hb := ss_one (ss_set 2 (hN := sc_law_cell.nd) (he := ee_mod (ha := ee_callT (hc := call_int1) (h := o_int) (hm := (free_int hy)) (hv := by decide +kernel) (ha := ea_cons (ee_add (ha := ee_mul (ha := ee_var 2) (hb := ee_int)) (hb := ee_mod (ha := ee_callT (hc := call_int1) (h := o_int) (hm := (free_int hy)) (hv := by decide +kernel) (ha := ea_cons (ee_var 3) (ea_nil))) (hb := ee_int))) (ea_nil))) (hb := ee_int))))) (ss_one (ss_ret (ee_mod (ha := ee_callT (hc := call_int1) (h := o_int) (hm := (free_int hy)) (hv := by decide +kernel) (ha := ea_cons (ee_mul (ha := ee_mul (ha := ee_add (ha := ee_var 2) (hb := ee_int)) (hb := ee_add (ha := ee_var 1) (hb := ee_int))) (hb := ee_int)) (ea_nil))) (hb := ee_int)))))))⟩
end LW
end

section
set_option maxHeartbeats 4000000
namespace LW
open PySem L2 EV
theorem sc_law_small : FnScope ["_law_row_here", "_law_mills", "_law_many", "_law_pairs", "_law_k", "_law_first", "_law_second"] ["_law_row_here"] (defScope st_law_small) := ⟨rfl, rfl, rfl, by decide +kernel, rfl, by decide +kernel, by decide +kernel⟩
def g_law_small : FS := gSeq (gSet 1 (v2 ixD (vL (nRep (vL (lenOk (aCons (vC (.int 3)) (aCons (vC (.int 3)) (aCons (vC (.int 4)) (aCons (vC (.int 2)) (aCons (vC (.int 4)) (aCons (vC (.int 3)) (aCons (vC (.int 5)) (aCons (vC (.int 3)) (aCons (vC (.int 4)) (aCons (vC (.int 3)) (aCons (vC (.int 2)) (aCons (vC (.int 4)) (aNil))))))))))))))) (vC (.int 2)))) (v2 modD (vCall intD (aCons (v2 ixD (vVar 0) (vC (.int 0))) (aNil))) (vC (.int 24))))) (gSeq (gIf (v2 eqD (v2 ixD (vVar 0) (vC (.int 0))) (vC (.int 23))) (gSet 1 (vC (.int 1))) (gNext)) (gSeq (gSet 2 (v2 ixD (vL (nRep (vL (lenOk (aCons (vC (.int 4)) (aCons (vC (.int 5)) (aCons (vC (.int 3)) (aCons (vC (.int 6)) (aCons (vC (.int 5)) (aCons (vC (.int 4)) (aCons (vC (.int 7)) (aCons (vC (.int 5)) (aCons (vC (.int 4)) (aCons (vC (.int 6)) (aCons (vC (.int 5)) (aCons (vC (.int 2)) (aNil))))))))))))))) (vC (.int 2)))) (v2 modD (vCall intD (aCons (v2 ixD (vVar 0) (vC (.int 1))) (aNil))) (vC (.int 24))))) (gSeq (gIf (v2 geD (v2 ixD (vVar 0) (vC (.int 1))) (vC (.int 22))) (gSet 2 (v2 subD (vC (.int 23)) (v2 ixD (vVar 0) (vC (.int 1))))) (gNext)) (gSeq (gOwn 3 (lenOk (aNil))) (gSeq (gIf (v2 gtD (vVar 1) (vC (.int 1))) (gFor (iRange1 (vVar 2)) (nmG 4) (gSeq (gSet 5 (v2 modD (vCall intD (aCons (v2 ixD (vVar 0) (v2 addD (vC (.int 3)) (v2 mulD (vC (.int 2)) (vVar 4)))) (aNil))) (vVar 1))) (gSeq (gSet 6 (v2 modD (vCall intD (aCons (v2 addD (v2 addD (vVar 5) (vC (.int 1))) (v2 modD (vCall intD (aCons (v2 ixD (vVar 0) (v2 addD (vC (.int 4)) (v2 mulD (vC (.int 2)) (vVar 4)))) (aNil))) (v2 subD (vVar 1) (vC (.int 1))))) (aNil))) (vVar 1))) (gSeq (gIf (vAnd (vOr (v2 eqD (v2 ixD (vVar 0) (vC (.int 2))) (vC (.int 2))) (v2 eqD (v2 ixD (vVar 0) (vC (.int 2))) (vC (.int 3)))) (v2 ltD (vVar 4) (vVar 1))) (gSeq (gSet 5 (vVar 4)) (gSet 6 (v2 modD (vCall intD (aCons (v2 addD (vVar 4) (vC (.int 1))) (aNil))) (vVar 1)))) (gNext)) (gSeq (gIf (vOr (vAnd (v2 geD (v2 ixD (vVar 0) (vC (.int 2))) (vC (.int 4))) (v2 eqD (vVar 4) (vC (.int 1)))) (vAnd (v2 eqD (v2 ixD (vVar 0) (vC (.int 2))) (vC (.int 5))) (v2 eqD (vVar 4) (vC (.int 3))))) (gSeq (gSetA 5 (v2 ixD (v2 ixD (vVar 3) (v2 subD (vVar 4) (vC (.int 1)))) (vC (.int 1)))) (gSetA 6 (v2 ixD (v2 ixD (vVar 3) (v2 subD (vVar 4) (vC (.int 1)))) (vC (.int 0))))) (gNext)) (gAppO 3 (gApp 3 (vTup (aCons (vVar 5) (aCons (vVar 6) (aNil))))))))))) (gNext)) (gRel 3 (gRet (vL (lenOk (aCons (vVar 1) (aCons (vVar 3) (aNil))))))))))))
def sem_law_small : List D → Option R := semF 7 g_law_small
theorem ok_law_small {P : Program} {w : World} {K : PySem.W.Frag} {mg : Str → Option Value} {base : Heap} (hy : Hyp K mg) : ∃ fd, FunD K d_law_small.name d_law_small.qual d_law_small.params d_law_small.body d_law_small.scope (d_law_small.dvs K) (d_law_small.kws K) (He.fAd K d_law_small.at_) fd ∧ FnOk P w K mg base (L2N.CX P w) 1 (He.fAd K d_law_small.at_) fd ["_law_row_here"] (spF (tab K) 1 (sem_law_small)) := by
  obtain ⟨fd, F⟩ := hy.says.fn (2) (d := d_law_small) rfl
  exact ⟨fd, F, fn_ev F sc_law_small fun cdv A outer s H E hr => (ss_cons (ss_set 1 (hN := sc_law_small.nd) (he := ee_ix (ha := en_ee (en_rep (ha := en_ee (en_lst (ea_cons (ee_int) (ea_cons (ee_int) (ea_cons (ee_int) (ea_cons (ee_int) (ea_cons (ee_int) (ea_cons (ee_int) (ea_cons (ee_int) (ea_cons (ee_int) (ea_cons (ee_int) (ea_cons (ee_int) (ea_cons (ee_int) (ea_cons (ee_int) (ea_nil))))))))))))))) (hb := ee_int))) (hb := ee_mod (ha := ee_callT (hc := call_int1) (h := o_int) (hm := (free_int hy)) (hv := by decide +kernel) (ha := ea_cons (ee_ix (ha := ee_var 0) (hb := ee_int)) (ea_nil))) (hb := ee_int)))) (ss_cons (ss_if (eb_eq (hr := hr) (ha := ee_ix (ha := ee_var 0) (hb := ee_int)) (hb := ee_int)) (ss_one (ss_set 1 (hN := sc_law_small.nd) (he := ee_int))) (ss_nil)) (ss_cons (ss_set 2 (hN := sc_law_small.nd) (he := ee_ix (ha := en_ee (en_rep (ha := en_ee (en_lst (ea_cons (ee_int) (ea_cons (ee_int) (ea_cons (ee_int) (ea_cons (ee_int) (ea_cons (ee_int) (ea_cons (ee_int) (ea_cons (ee_int) (ea_cons (ee_int) (ea_cons (ee_int) (ea_cons (ee_int) (ea_cons (ee_int) (ea_cons (ee_int) (ea_nil))))))))))))))) (hb := ee_int))) (hb := ee_mod (ha := ee_callT (hc := call_int1) (h := o_int) (hm := (free_int hy)) (hv := by decide +kernel) (ha := ea_cons (ee_ix (ha := ee_var 0) (hb := ee_int)) (ea_nil))) (hb := ee_int)))) (ss_cons (ss_if (eb_ge (ha := ee_ix (ha := ee_var 0) (hb := ee_int)) (hb := ee_int)) (ss_one (ss_set 2 (hN := sc_law_small.nd) (he := ee_sub (ha := ee_int) (hb := ee_ix (ha := ee_var 0) (hb := ee_int))))) (ss_nil)) (ss_cons (ss_own 3 (hN := sc_law_small.nd) (he := en_lst (ea_nil))) (ss_cons (ss_if (eb_gt (ha := ee_var 1) (hb := ee_int)) (ss_one (ss_for (hp := (passes_of rfl)) (hc := rfl) (hi := ei_range1 (hm := (free_range hy)) (ha := ee_var 2)) (hg := eg_name 4 sc_law_small.nd) (hb := ss_cons (ss_set 5 (hN := sc_law_small.nd) (he := ee_mod (ha := ee_callT (hc := call_int1) (h := o_int) (hm := (free_int hy)) (hv := by decide +kernel) (ha := ea_cons (ee_ix (ha := ee_var 0) (hb := ee_add (ha := ee_int) (hb := ee_mul (ha := ee_int) (hb := ee_var 4)))) (ea_nil))) (hb := ee_var 1))) (ss_cons (ss_set 6 (hN := sc_law_small.nd) (he := ee_mod (ha := ee_callT (hc := call_int1) (h := o_int) (hm := (free_int hy)) (hv := by decide +kernel) (ha := ea_cons (ee_add (ha := ee_add (ha := ee_var 5) (hb := ee_int)) (hb := ee_mod (ha := ee_callT (hc := call_int1) (h := o_int) (hm := (free_int hy)) (hv := by decide +kernel) (ha := ea_cons (ee_ix (ha := ee_var 0) (hb := ee_add (ha := ee_int) (hb := ee_mul (ha := ee_int) (hb := ee_var 4)))) (ea_nil))) (hb := ee_sub (ha := ee_var 1) (hb := ee_int)))) (ea_nil))) (hb := ee_var 1))) (ss_cons (ss_if (eb_w (ew_and (eb_w (ew_or (eb_eq (hr := hr) (ha := ee_ix (ha := ee_var 0) (hb := ee_int)) (hb := ee_int)) (ew_or1 (eb_eq (hr := hr) (ha := ee_ix (ha := ee_var 0) (hb := ee_int)) (hb := ee_int))))) (ew_and1 (eb_lt (ha := ee_var 4) (hb := ee_var 1))))) (ss_cons (ss_set 5 (hN := sc_law_small.nd) (he := ee_var 4)) (ss_one (ss_set 6 (hN := sc_law_small.nd) (he := ee_mod (ha := ee_callT (hc := call_int1) (h := o_int) (hm := (free_int hy)) (hv := by decide +kernel) (ha := ea_cons (ee_add (ha := ee_var 4) (hb := ee_int)) (ea_nil))) (hb := ee_var 1))))) (ss_nil)) (ss_cons (ss_if (eb_w (ew_or (eb_w (ew_and (eb_ge (ha := ee_ix (ha := ee_var 0) (hb := ee_int)) (hb := ee_int)) (ew_and1 (eb_eq (hr := hr) (ha := ee_var 4) (hb := ee_int))))) (ew_or1 (eb_w (ew_and (eb_eq (hr := hr) (ha := ee_ix (ha := ee_var 0) (hb := ee_int)) (hb := ee_int)) (ew_and1 (eb_eq (hr := hr) (ha := ee_var 4) (hb := ee_int)))))))) (ss_cons (ss_setA 5 (hN := sc_law_small.nd) (he := ee_ix (ha := ee_ix (ha := ee_var 3) (hb := ee_sub (ha := ee_var 4) (hb := ee_int))) (hb := ee_int))) (ss_one (ss_setA 6 (hN := sc_law_small.nd) (he := ee_ix (ha := ee_ix (ha := ee_var 3) (hb := ee_sub (ha := ee_var 4) (hb := ee_int))) (hb := ee_int))))) (ss_nil)) (ss_one (ss_app 3 (he := ee_tup (ea_cons (ee_var 5) (ea_cons (ee_var 6) (ea_nil)))))))))))) (ss_nil)) (ss_one (ss_rel 3 (ss_ret (en_ee (en_lst (ea_cons (ee_var 1) (ea_cons (ee_var 3) (ea_nil))))))))))))))⟩
end LW
end

section
set_option maxHeartbeats 4000000
namespace LW
open PySem L2 EV
theorem sc_law_free : FnScope ["_law_script", "_law_at", "_law_mills", "_law_many", "_law_ends", "_law_pairs", "_law_k", "_law_first"] ["_law_script", "_law_at", "_law_mills", "_law_many"] (defScope st_law_free) := ⟨rfl, rfl, rfl, by decide +kernel, rfl, by decide +kernel, by decide +kernel⟩
def g_law_free : FS := gSeq (gSet 4 (v2 addD (vCallP 2 0 [0, 1] sem_law_digits [] (aCons (vCallP 2 0 [0, 1] sem_law_cell [] (aCons (vVar 0) (aCons (vVar 1) (aNil))) (aNil)) (aCons (vL (nRep (vL (lenOk (aCons (vC (.int 24)) (aCons (vC (.int 23)) (aNil))))) (vC (.int 24)))) (aNil))) (aNil)) (vCallP 2 0 [0, 1] sem_law_digits [] (aCons (vCallP 2 0 [0, 1] sem_law_cell [] (aCons (vVar 0) (aCons (v2 addD (vVar 1) (vC (.int 1))) (aNil))) (aNil)) (aCons (vL (nRep (vL (lenOk (aCons (vC (.int 24)) (aCons (vC (.int 23)) (aNil))))) (vC (.int 24)))) (aNil))) (aNil)))) (gSeq (gOwn 5 (lenOk (aNil))) (gSeq (gIf (v2 gtD (vVar 2) (vC (.int 1))) (gFor (iRange1 (vVar 3)) (nmG 6) (gSeq (gSet 7 (v2 modD (vCall intD (aCons (v2 ixD (vVar 4) (v2 mulD (vC (.int 2)) (vVar 6))) (aNil))) (vVar 2))) (gAppO 5 (gApp 5 (vTup (aCons (vVar 7) (aCons (v2 modD (vCall intD (aCons (v2 addD (v2 addD (vVar 7) (vC (.int 1))) (v2 modD (vCall intD (aCons (v2 ixD (vVar 4) (v2 addD (v2 mulD (vC (.int 2)) (vVar 6)) (vC (.int 1)))) (aNil))) (v2 subD (vVar 2) (vC (.int 1))))) (aNil))) (vVar 2)) (aNil)))))))) (gNext)) (gRel 5 (gRet (vVar 5)))))
def sem_law_free : List D → Option R := semF 8 g_law_free
theorem ok_law_free {P : Program} {w : World} {K : PySem.W.Frag} {mg : Str → Option Value} {base : Heap} (hy : Hyp K mg) : ∃ fd, FunD K d_law_free.name d_law_free.qual d_law_free.params d_law_free.body d_law_free.scope (d_law_free.dvs K) (d_law_free.kws K) (He.fAd K d_law_free.at_) fd ∧ FnOk P w K mg base (L2N.CX P w) 2 (He.fAd K d_law_free.at_) fd ["_law_script", "_law_at", "_law_mills", "_law_many"] (spF (tab K) 4 (sem_law_free)) := by
  obtain ⟨fd_law_digits, F_law_digits, G_law_digits⟩ := ok_law_digits (P := P) (w := w) (base := base) hy
  obtain ⟨fd_law_cell, F_law_cell, G_law_cell⟩ := ok_law_cell (P := P) (w := w) (base := base) hy
  have ab_law_digits_2_ : ArgB K fd_law_digits ["_law_cell_here", "_law_sizes"] 2 [] [] [0, 1] := ArgB.given F_law_digits (fun kV doc pm an cdv ct us ws l1 l2 => match us, l1, ws, l2 with | [_, _], _, [], _ => rfl)
  have ab_law_cell_2_ : ArgB K fd_law_cell ["_law_script", "_law_k"] 2 [] [] [0, 1] := ArgB.given F_law_cell (fun kV doc pm an cdv ct us ws l1 l2 => match us, l1, ws, l2 with | [_, _], _, [], _ => rfl)
  obtain ⟨fd, F⟩ := hy.says.fn (3) (d := d_law_free) rfl
  exact ⟨fd, F, fn_ev F sc_law_free fun cdv A outer s H E hr => (ss_cons (ss_set 4 (hN := sc_law_free.nd) (he := ee_add (ha := ee_callP (F := G_law_digits) (hr := hr.mono (by decide)) (hm := glo__law_digits hy) (hk := F_law_digits.kp) (hb := ab_law_digits_2_) (tk := (L2N.takes_of rfl rfl rfl rfl)) (hp := rfl) (hmx := by decide) (hdd := fun _ => .nil) (ha := ea_cons (ee_callP (F := G_law_cell) (hr := hr.mono (by decide)) (hm := glo__law_cell hy) (hk := F_law_cell.kp) (hb := ab_law_cell_2_) (tk := (L2N.takes_of rfl rfl rfl rfl)) (hp := rfl) (hmx := by decide) (hdd := fun _ => .nil) (ha := ea_cons (ee_var 0) (ea_cons (ee_var 1) (ea_nil))) (hkw := ek_nil)) (ea_cons (en_ee (en_rep (ha := en_ee (en_lst (ea_cons (ee_int) (ea_cons (ee_int) (ea_nil))))) (hb := ee_int))) (ea_nil))) (hkw := ek_nil)) (hb := ee_callP (F := G_law_digits) (hr := hr.mono (by decide)) (hm := glo__law_digits hy) (hk := F_law_digits.kp) (hb := ab_law_digits_2_) (tk := (L2N.takes_of rfl rfl rfl rfl)) (hp := rfl) (hmx := by decide) (hdd := fun _ => .nil) (ha := ea_cons (ee_callP (F := G_law_cell) (hr := hr.mono (by decide)) (hm := glo__law_cell hy) (hk := F_law_cell.kp) (hb := ab_law_cell_2_) (tk := (L2N.takes_of rfl rfl rfl rfl)) (hp := rfl) (hmx := by decide) (hdd := fun _ => .nil) (ha := ea_cons (ee_var 0) (ea_cons (ee_add (ha := ee_var 1) (hb := ee_int)) (ea_nil))) (hkw := ek_nil)) (ea_cons (en_ee (en_rep (ha := en_ee (en_lst (ea_cons (ee_int) (ea_cons (ee_int) (ea_nil))))) (hb := ee_int))) (ea_nil))) (hkw := ek_nil)))) (ss_cons (ss_own 5 (hN := sc_law_free.nd) (he := en_lst (ea_nil))) (ss_cons (ss_if (eb_gt (ha := ee_var 2) (hb := ee_int)) (ss_one (ss_for (hp := (passes_of rfl)) (hc := rfl) (hi := ei_range1 (hm := (free_range hy)) (ha := ee_var 3)) (hg := eg_name 6 sc_law_free.nd) (hb := ss_cons (ss_set 7 (hN := sc_law_free.nd) (he := ee_mod (ha := ee_callT (hc := call_int1) (h := o_int) (hm := (free_int hy)) (hv := by decide +kernel) (ha := ea_cons (ee_ix (ha := ee_var 4) (hb := ee_mul (ha := ee_int) (hb := ee_var 6))) (ea_nil))) (hb := ee_var 2))) (ss_one (ss_app 5 (he := ee_tup (ea_cons (ee_var 7) (ea_cons (ee_mod (ha := ee_callT (hc := call_int1) (h := o_int) (hm := (free_int hy)) (hv := by decide +kernel) (ha := ea_cons (ee_add (ha := ee_add (ha := ee_var 7) (hb := ee_int)) (hb := ee_mod (ha := ee_callT (hc := call_int1) (h := o_int) (hm := (free_int hy)) (hv := by decide +kernel) (ha := ea_cons (ee_ix (ha := ee_var 4) (hb := ee_add (ha := ee_mul (ha := ee_int) (hb := ee_var 6)) (hb := ee_int))) (ea_nil))) (hb := ee_sub (ha := ee_var 2) (hb := ee_int)))) (ea_nil))) (hb := ee_var 2)) (ea_nil))))))))) (ss_nil)) (ss_one (ss_rel 5 (ss_ret (ee_var 5)))))))⟩
end LW
end

section
set_option maxHeartbeats 4000000
namespace LW
open PySem L2 EV
theorem sc_law_ground : FnScope ["_law_script", "_law_at", "_law_head", "_law_mills"] ["_law_script", "_law_at"] (defScope st_law_ground) := ⟨rfl, rfl, rfl, by decide +kernel, rfl, by decide +kernel, by decide +kernel⟩
def g_law_ground : FS := gSeq (gSet 2 (vCallP 2 0 [0, 1] sem_law_digits [] (aCons (vCallP 2 0 [0, 1] sem_law_cell [] (aCons (vVar 0) (aCons (vVar 1) (aNil))) (aNil)) (aCons (vL (lenOk (aCons (vC (.int 8)) (aCons (vC (.int 32)) (aCons (vC (.int 64)) (aNil)))))) (aNil))) (aNil))) (gSeq (gIf (v2 ltD (v2 ixD (vVar 2) (vC (.int 0))) (vC (.int 6))) (gRet (vCallP 1 0 [0] sem_law_small [] (aCons (vCallP 2 0 [0, 1] sem_law_digits [] (aCons (vCallP 2 0 [0, 1] sem_law_cell [] (aCons (vVar 0) (aCons (v2 addD (vVar 1) (vC (.int 1))) (aNil))) (aNil)) (aCons (vL (nAdd (vL (lenOk (aCons (vC (.int 24)) (aCons (vC (.int 24)) (aCons (vC (.int 6)) (aNil)))))) (vL (nRep (vL (lenOk (aCons (vC (.int 12)) (aCons (vC (.int 12)) (aNil))))) (vC (.int 7)))))) (aNil))) (aNil)) (aNil)) (aNil))) (gNext)) (gSeq (gSet 3 (vCall minD (aCons (vC (.int 24)) (aCons (v2 addD (vC (.int 1)) (v2 ixD (vVar 2) (vC (.int 1)))) (aNil))))) (gRet (vL (lenOk (aCons (vVar 3) (aCons (vCallP 4 0 [0, 1, 2, 3] sem_law_free [] (aCons (vVar 0) (aCons (v2 addD (vVar 1) (vC (.int 1))) (aCons (vVar 3) (aCons (vCall minD (aCons (vC (.int 48)) (aCons (v2 ixD (vVar 2) (vC (.int 2))) (aNil)))) (aNil))))) (aNil)) (aNil))))))))
def sem_law_ground : List D → Option R := semF 4 g_law_ground
theorem ok_law_ground {P : Program} {w : World} {K : PySem.W.Frag} {mg : Str → Option Value} {base : Heap} (hy : Hyp K mg) : ∃ fd, FunD K d_law_ground.name d_law_ground.qual d_law_ground.params d_law_ground.body d_law_ground.scope (d_law_ground.dvs K) (d_law_ground.kws K) (He.fAd K d_law_ground.at_) fd ∧ FnOk P w K mg base (L2N.CX P w) 3 (He.fAd K d_law_ground.at_) fd ["_law_script", "_law_at"] (spF (tab K) 2 (sem_law_ground)) := by
  obtain ⟨fd_law_digits, F_law_digits, G_law_digits⟩ := ok_law_digits (P := P) (w := w) (base := base) hy
  obtain ⟨fd_law_cell, F_law_cell, G_law_cell⟩ := ok_law_cell (P := P) (w := w) (base := base) hy
  obtain ⟨fd_law_small, F_law_small, G_law_small⟩ := ok_law_small (P := P) (w := w) (base := base) hy
  obtain ⟨fd_law_free, F_law_free, G_law_free⟩ := ok_law_free (P := P) (w := w) (base := base) hy
  have ab_law_digits_2_ : ArgB K fd_law_digits ["_law_cell_here", "_law_sizes"] 2 [] [] [0, 1] := ArgB.given F_law_digits (fun kV doc pm an cdv ct us ws l1 l2 => match us, l1, ws, l2 with | [_, _], _, [], _ => rfl)
  have ab_law_cell_2_ : ArgB K fd_law_cell ["_law_script", "_law_k"] 2 [] [] [0, 1] := ArgB.given F_law_cell (fun kV doc pm an cdv ct us ws l1 l2 => match us, l1, ws, l2 with | [_, _], _, [], _ => rfl)
  have ab_law_small_1_ : ArgB K fd_law_small ["_law_row_here"] 1 [] [] [0] := ArgB.given F_law_small (fun kV doc pm an cdv ct us ws l1 l2 => match us, l1, ws, l2 with | [_], _, [], _ => rfl)
  have ab_law_free_4_ : ArgB K fd_law_free ["_law_script", "_law_at", "_law_mills", "_law_many"] 4 [] [] [0, 1, 2, 3] := ArgB.given F_law_free (fun kV doc pm an cdv ct us ws l1 l2 => match us, l1, ws, l2 with | [_, _, _, _], _, [], _ => rfl)
  obtain ⟨fd, F⟩ := hy.says.fn (4) (d := d_law_ground) rfl
  exact ⟨fd, F, fn_ev F sc_law_ground fun cdv A outer s H E hr => (ss_cons (ss_set 2 (hN := sc_law_ground.nd) (he := ee_callP (F := G_law_digits) (hr := hr.mono (by decide)) (hm := glo__law_digits hy) (hk := F_law_digits.kp) (hb := ab_law_digits_2_) (tk := (L2N.takes_of rfl rfl rfl rfl)) (hp := rfl) (hmx := by decide) (hdd := fun _ => .nil) (ha := ea_cons (ee_callP (F := G_law_cell) (hr := hr.mono (by decide)) (hm := glo__law_cell hy) (hk := F_law_cell.kp) (hb := ab_law_cell_2_) (tk := (L2N.takes_of rfl rfl rfl rfl)) (hp := rfl) (hmx := by decide) (hdd := fun _ => .nil) (ha := ea_cons (ee_var 0) (ea_cons (ee_var 1) (ea_nil))) (hkw := ek_nil)) (ea_cons (en_ee (en_lst (ea_cons (ee_int) (ea_cons (ee_int) (ea_cons (ee_int) (ea_nil)))))) (ea_nil))) (hkw := ek_nil))) (ss_cons (ss_if (eb_lt (ha := ee_ix (ha := ee_var 2) (hb := ee_int)) (hb := ee_int)) (ss_one (ss_ret (ee_callP (F := G_law_small) (hr := hr.mono (by decide)) (hm := glo__law_small hy) (hk := F_law_small.kp) (hb := ab_law_small_1_) (tk := (L2N.takes_of rfl rfl rfl rfl)) (hp := rfl) (hmx := by decide) (hdd := fun _ => .nil) (ha := ea_cons (ee_callP (F := G_law_digits) (hr := hr.mono (by decide)) (hm := glo__law_digits hy) (hk := F_law_digits.kp) (hb := ab_law_digits_2_) (tk := (L2N.takes_of rfl rfl rfl rfl)) (hp := rfl) (hmx := by decide) (hdd := fun _ => .nil) (ha := ea_cons (ee_callP (F := G_law_cell) (hr := hr.mono (by decide)) (hm := glo__law_cell hy) (hk := F_law_cell.kp) (hb := ab_law_cell_2_) (tk := (L2N.takes_of rfl rfl rfl rfl)) (hp := rfl) (hmx := by decide) (hdd := fun _ => .nil) (ha := ea_cons (ee_var 0) (ea_cons (ee_add (ha := ee_var 1) (hb := ee_int)) (ea_nil))) (hkw := ek_nil)) (ea_cons (en_ee (en_add (ha := en_ee (en_lst (ea_cons (ee_int) (ea_cons (ee_int) (ea_cons (ee_int) (ea_nil)))))) (hb := en_ee (en_rep (ha := en_ee (en_lst (ea_cons (ee_int) (ea_cons (ee_int) (ea_nil))))) (hb := ee_int))))) (ea_nil))) (hkw := ek_nil)) (ea_nil)) (hkw := ek_nil)))) (ss_nil)) (ss_cons (ss_set 3 (hN := sc_law_ground.nd) (he := ee_callB (hc := (call_min2 rfl)) (h := o_min) (hm := (free_min hy)) (hv := by decide +kernel) (ha := ea_cons (ee_int) (ea_cons (ee_add (ha := ee_int) (hb := ee_ix (ha := ee_var 2) (hb := ee_int))) (ea_nil))))) (ss_one (ss_ret (en_ee (en_lst (ea_cons (ee_var 3) (ea_cons (ee_callP (F := G_law_free) (hr := hr.mono (by decide)) (hm := glo__law_free hy) (hk := F_law_free.kp) (hb := ab_law_free_4_) (tk := (L2N.takes_of rfl rfl rfl rfl)) (hp := rfl) (hmx := by decide) (hdd := fun _ => .nil) (ha := ea_cons (ee_var 0) (ea_cons (ee_add (ha := ee_var 1) (hb := ee_int)) (ea_cons (ee_var 3) (ea_cons (ee_callB (hc := (call_min2 rfl)) (h := o_min) (hm := (free_min hy)) (hv := by decide +kernel) (ha := ea_cons (ee_int) (ea_cons (ee_ix (ha := ee_var 2) (hb := ee_int)) (ea_nil)))) (ea_nil))))) (hkw := ek_nil)) (ea_nil))))))))))⟩
end LW
end

section
set_option maxHeartbeats 4000000
namespace LW
open PySem L2 EV
theorem sc_frozen : FnScope ["value", "item"] ["value"] (defScope st_frozen) := ⟨rfl, rfl, rfl, by decide +kernel, rfl, by decide +kernel, by decide +kernel⟩
def g_frozen (sm_frozen : List D → Option R) : FS := gSeq (gIf (v1 (isD [.lst, .tup]) (vVar 0)) (gRet (vCall tupleD (aCons (vL (nLc (iSeq (vVar 0)) (nmG 1) (vYes) (vCallP 1 0 [0] sm_frozen [] (aCons (vVar 1) (aNil)) (aNil)) [1])) (aNil)))) (gNext)) (gRet (vVar 0))
def sem_frozen_0 : List D → Option R := fun _ => none
def sem_frozen_1 : List D → Option R := semF 2 (g_frozen sem_frozen_0)
def sem_frozen_2 : List D → Option R := semF 2 (g_frozen sem_frozen_1)
def sem_frozen_3 : List D → Option R := semF 2 (g_frozen sem_frozen_2)
abbrev sem_frozen : List D → Option R := sem_frozen_3
theorem ok_frozen_0 {P : Program} {w : World} {K : PySem.W.Frag} {mg : Str → Option Value} {base : Heap} (hy : Hyp K mg) : ∃ fd, FunD K d_frozen.name d_frozen.qual d_frozen.params d_frozen.body d_frozen.scope (d_frozen.dvs K) (d_frozen.kws K) (He.fAd K d_frozen.at_) fd ∧ FnOk P w K mg base (L2N.CX P w) 0 (He.fAd K d_frozen.at_) fd ["value"] (spF (tab K) 1 (sem_frozen_0)) := by
  obtain ⟨fd, F⟩ := hy.says.fn (5) (d := d_frozen) rfl
  exact ⟨fd, F, fn_none⟩
theorem ok_frozen_1 {P : Program} {w : World} {K : PySem.W.Frag} {mg : Str → Option Value} {base : Heap} (hy : Hyp K mg) : ∃ fd, FunD K d_frozen.name d_frozen.qual d_frozen.params d_frozen.body d_frozen.scope (d_frozen.dvs K) (d_frozen.kws K) (He.fAd K d_frozen.at_) fd ∧ FnOk P w K mg base (L2N.CX P w) 1 (He.fAd K d_frozen.at_) fd ["value"] (spF (tab K) 1 (sem_frozen_1)) := by
  obtain ⟨fd_frozen, F_frozen, G_frozen⟩ := ok_frozen_0 (P := P) (w := w) (base := base) hy
  have ab_frozen_1_ : ArgB K fd_frozen ["value"] 1 [] [] [0] := ArgB.given F_frozen (fun kV doc pm an cdv ct us ws l1 l2 => match us, l1, ws, l2 with | [_], _, [], _ => rfl)
  exact ⟨fd_frozen, F_frozen, fn_ev F_frozen sc_frozen fun cdv A outer s H E hr => (ss_cons (ss_if (eb_val (ee_isiT [.lst, .tup] (h := (.cons (free_list hy) (by decide +kernel) (.cons (free_tuple hy) (by decide +kernel) .nil))) (hl := by decide) (hm := (free_isinstance hy)) (ha := ee_var 0))) (ss_one (ss_ret (ee_callT (hc := call_tuple_of) (h := (o_tuple rfl)) (hm := (free_tuple hy)) (hv := by decide +kernel) (ha := ea_cons (en_ee (en_lc (own := [("item", 1)]) (hc := rfl) (hN := sc_frozen.nd) (ok := blkOk_by (show blkC ["value", "item"] (defScope st_frozen) _ [("item", 1)] = true by decide +kernel)) (hsub := by decide) (hi := ei_seq (he := ee_var 0)) (hg := fun _ _ _ _ _ => eg_name 1 sc_frozen.nd) (ht := fun _ _ _ _ _ => et_nil) (he := fun _ _ _ _ _ => ee_callP (F := G_frozen) (hr := hr.mono (by decide)) (hm := glo_frozen hy) (hk := F_frozen.kp) (hb := ab_frozen_1_) (tk := takesN) (hp := rfl) (hmx := by decide) (hdd := fun _ => .nil) (ha := ea_cons (ee_var 1) (ea_nil)) (hkw := ek_nil)))) (ea_nil))))) (ss_nil)) (ss_one (ss_ret (ee_var 0))))⟩
theorem ok_frozen_2 {P : Program} {w : World} {K : PySem.W.Frag} {mg : Str → Option Value} {base : Heap} (hy : Hyp K mg) : ∃ fd, FunD K d_frozen.name d_frozen.qual d_frozen.params d_frozen.body d_frozen.scope (d_frozen.dvs K) (d_frozen.kws K) (He.fAd K d_frozen.at_) fd ∧ FnOk P w K mg base (L2N.CX P w) 2 (He.fAd K d_frozen.at_) fd ["value"] (spF (tab K) 1 (sem_frozen_2)) := by
  obtain ⟨fd_frozen, F_frozen, G_frozen⟩ := ok_frozen_1 (P := P) (w := w) (base := base) hy
  have ab_frozen_1_ : ArgB K fd_frozen ["value"] 1 [] [] [0] := ArgB.given F_frozen (fun kV doc pm an cdv ct us ws l1 l2 => match us, l1, ws, l2 with | [_], _, [], _ => rfl)
  exact ⟨fd_frozen, F_frozen, fn_ev F_frozen sc_frozen fun cdv A outer s H E hr => (ss_cons (ss_if (eb_val (ee_isiT [.lst, .tup] (h := (.cons (free_list hy) (by decide +kernel) (.cons (free_tuple hy) (by decide +kernel) .nil))) (hl := by decide) (hm := (free_isinstance hy)) (ha := ee_var 0))) (ss_one (ss_ret (ee_callT (hc := call_tuple_of) (h := (o_tuple rfl)) (hm := (free_tuple hy)) (hv := by decide +kernel) (ha := ea_cons (en_ee (en_lc (own := [("item", 1)]) (hc := rfl) (hN := sc_frozen.nd) (ok := blkOk_by (show blkC ["value", "item"] (defScope st_frozen) _ [("item", 1)] = true by decide +kernel)) (hsub := by decide) (hi := ei_seq (he := ee_var 0)) (hg := fun _ _ _ _ _ => eg_name 1 sc_frozen.nd) (ht := fun _ _ _ _ _ => et_nil) (he := fun _ _ _ _ _ => ee_callP (F := G_frozen) (hr := hr.mono (by decide)) (hm := glo_frozen hy) (hk := F_frozen.kp) (hb := ab_frozen_1_) (tk := takesN) (hp := rfl) (hmx := by decide) (hdd := fun _ => .nil) (ha := ea_cons (ee_var 1) (ea_nil)) (hkw := ek_nil)))) (ea_nil))))) (ss_nil)) (ss_one (ss_ret (ee_var 0))))⟩
theorem ok_frozen_3 {P : Program} {w : World} {K : PySem.W.Frag} {mg : Str → Option Value} {base : Heap} (hy : Hyp K mg) : ∃ fd, FunD K d_frozen.name d_frozen.qual d_frozen.params d_frozen.body d_frozen.scope (d_frozen.dvs K) (d_frozen.kws K) (He.fAd K d_frozen.at_) fd ∧ FnOk P w K mg base (L2N.CX P w) 3 (He.fAd K d_frozen.at_) fd ["value"] (spF (tab K) 1 (sem_frozen_3)) := by
  obtain ⟨fd_frozen, F_frozen, G_frozen⟩ := ok_frozen_2 (P := P) (w := w) (base := base) hy
  have ab_frozen_1_ : ArgB K fd_frozen ["value"] 1 [] [] [0] := ArgB.given F_frozen (fun kV doc pm an cdv ct us ws l1 l2 => match us, l1, ws, l2 with | [_], _, [], _ => rfl)
  exact ⟨fd_frozen, F_frozen, fn_ev F_frozen sc_frozen fun cdv A outer s H E hr => (ss_cons (ss_if (eb_val (ee_isiT [.lst, .tup] (h := (.cons (free_list hy) (by decide +kernel) (.cons (free_tuple hy) (by decide +kernel) .nil))) (hl := by decide) (hm := (free_isinstance hy)) (ha := ee_var 0))) (ss_one (ss_ret (ee_callT (hc := call_tuple_of) (h := (o_tuple rfl)) (hm := (free_tuple hy)) (hv := by decide +kernel) (ha := ea_cons (en_ee (en_lc (own := [("item", 1)]) (hc := rfl) (hN := sc_frozen.nd) (ok := blkOk_by (show blkC ["value", "item"] (defScope st_frozen) _ [("item", 1)] = true by decide +kernel)) (hsub := by decide) (hi := ei_seq (he := ee_var 0)) (hg := fun _ _ _ _ _ => eg_name 1 sc_frozen.nd) (ht := fun _ _ _ _ _ => et_nil) (he := fun _ _ _ _ _ => ee_callP (F := G_frozen) (hr := hr.mono (by decide)) (hm := glo_frozen hy) (hk := F_frozen.kp) (hb := ab_frozen_1_) (tk := takesN) (hp := rfl) (hmx := by decide) (hdd := fun _ => .nil) (ha := ea_cons (ee_var 1) (ea_nil)) (hkw := ek_nil)))) (ea_nil))))) (ss_nil)) (ss_one (ss_ret (ee_var 0))))⟩
theorem ok_frozen {P : Program} {w : World} {K : PySem.W.Frag} {mg : Str → Option Value} {base : Heap} (hy : Hyp K mg) : ∃ fd, FunD K d_frozen.name d_frozen.qual d_frozen.params d_frozen.body d_frozen.scope (d_frozen.dvs K) (d_frozen.kws K) (He.fAd K d_frozen.at_) fd ∧ FnOk P w K mg base (L2N.CX P w) 3 (He.fAd K d_frozen.at_) fd ["value"] (spF (tab K) 1 (sem_frozen)) := by
  exact ok_frozen_3 hy
end LW
end

section
set_option maxHeartbeats 4000000
namespace LW
open PySem L2 EV
theorem sc_check_pairs : FnScope ["mills", "pairs", "index", "first", "second"] ["mills", "pairs"] (defScope st_check_pairs) := ⟨rfl, rfl, rfl, by decide +kernel, rfl, by decide +kernel, by decide +kernel⟩
def g_check_pairs : FS := gFor (iEnum (vVar 1)) (tupG (lenG 2 (consG (nmG 2) (consG (tupG (lenG 2 (consG (nmG 3) (consG (nmG 4) (nilG))))) (nilG))))) (gIf (vOr (v2 ltD (vVar 3) (vC (.int 0))) (vOr (v2 geD (vVar 3) (vVar 0)) (vOr (v2 ltD (vVar 4) (vC (.int 0))) (vOr (v2 geD (vVar 4) (vVar 0)) (v2 eqD (vVar 3) (vVar 4)))))) (gNever) (gNext))
def sem_check_pairs : List D → Option R := semF 5 g_check_pairs
theorem ok_check_pairs {P : Program} {w : World} {K : PySem.W.Frag} {mg : Str → Option Value} {base : Heap} (hy : Hyp K mg) : ∃ fd, FunD K d_check_pairs.name d_check_pairs.qual d_check_pairs.params d_check_pairs.body d_check_pairs.scope (d_check_pairs.dvs K) (d_check_pairs.kws K) (He.fAd K d_check_pairs.at_) fd ∧ FnOk P w K mg base (L2N.CX P w) 1 (He.fAd K d_check_pairs.at_) fd ["mills", "pairs"] (spF (tab K) 2 (sem_check_pairs)) := by
  obtain ⟨fd, F⟩ := hy.says.fn (6) (d := d_check_pairs) rfl
  exact ⟨fd, F, fn_ev F sc_check_pairs fun cdv A outer s H E hr => (ss_one (ss_for (hp := (passes_of rfl)) (hc := rfl) (hi := ei_enum (hm := (free_enumerate hy)) (ha := ee_var 1)) (hg := eg_tup (hc := rfl) (h := egs_cons (eg_name 2 sc_check_pairs.nd) (egs_cons (eg_tup (hc := rfl) (h := egs_cons (eg_name 3 sc_check_pairs.nd) (egs_cons (eg_name 4 sc_check_pairs.nd) (egs_nil)))) (egs_nil)))) (hb := ss_one (ss_if (eb_w (ew_or (eb_lt (ha := ee_var 3) (hb := ee_int)) (ew_or (eb_ge (ha := ee_var 3) (hb := ee_var 0)) (ew_or (eb_lt (ha := ee_var 4) (hb := ee_int)) (ew_or (eb_ge (ha := ee_var 4) (hb := ee_var 0)) (ew_or1 (eb_eq (hr := hr) (ha := ee_var 3) (hb := ee_var 4)))))))) (ss_one (ss_never)) (ss_nil)))))⟩
end LW
end

section
set_option maxHeartbeats 4000000
namespace LW
open PySem L2 EV
theorem sc_Valley__init : FnScope ["self", "mills", "sluices", "pairs"] ["self", "mills", "sluices"] (defScope st_Valley__init) := ⟨rfl, rfl, rfl, by decide +kernel, rfl, by decide +kernel, by decide +kernel⟩
def g_Valley__init : FS := gSeq (gSet 3 (vCallP 1 0 [0] sem_frozen [] (aCons (vVar 2) (aNil)) (aNil))) (gSeq (gDrop (vCallP 2 0 [0, 1] sem_check_pairs [] (aCons (vVar 1) (aCons (vVar 3) (aNil))) (aNil))) (gSeq (gFld 0 7 0 (vVar 1)) (gFld 0 7 1 (vVar 3))))
def sem_Valley__init : List D → Option R := semI 7 4 g_Valley__init
theorem ok_Valley__init {P : Program} {w : World} {K : PySem.W.Frag} {mg : Str → Option Value} {base : Heap} (hy : Hyp K mg) : ∃ fd, FunD K d_Valley__init.name d_Valley__init.qual d_Valley__init.params d_Valley__init.body d_Valley__init.scope (d_Valley__init.dvs K) (d_Valley__init.kws K) (He.fAd K d_Valley__init.at_) fd ∧ FnOk P w K mg base (L2N.CX P w) 4 (He.fAd K d_Valley__init.at_) fd ["self", "mills", "sluices"] (spI (tab K) 7 3 (sem_Valley__init)) := by
  obtain ⟨fd_frozen, F_frozen, G_frozen⟩ := ok_frozen (P := P) (w := w) (base := base) hy
  obtain ⟨fd_check_pairs, F_check_pairs, G_check_pairs⟩ := ok_check_pairs (P := P) (w := w) (base := base) hy
  have ab_frozen_1_ : ArgB K fd_frozen ["value"] 1 [] [] [0] := ArgB.given F_frozen (fun kV doc pm an cdv ct us ws l1 l2 => match us, l1, ws, l2 with | [_], _, [], _ => rfl)
  have ab_check_pairs_2_ : ArgB K fd_check_pairs ["mills", "pairs"] 2 [] [] [0, 1] := ArgB.given F_check_pairs (fun kV doc pm an cdv ct us ws l1 l2 => match us, l1, ws, l2 with | [_, _], _, [], _ => rfl)
  obtain ⟨fd, F⟩ := hy.says.fn (7) (d := d_Valley__init) rfl
  exact ⟨fd, F, fn_evI 7 F sc_Valley__init (by decide) fun cdv A outer s H E hr => (ss_cons (ss_set 3 (hN := sc_Valley__init.nd) (he := ee_callP (F := G_frozen) (hr := hr.mono (by decide)) (hm := glo_frozen hy) (hk := F_frozen.kp) (hb := ab_frozen_1_) (tk := (L2N.takes_of rfl rfl rfl rfl)) (hp := rfl) (hmx := by decide) (hdd := fun _ => .nil) (ha := ea_cons (ee_var 2) (ea_nil)) (hkw := ek_nil))) (ss_cons (ss_expr (ee_callP (F := G_check_pairs) (hr := hr.mono (by decide)) (hm := glo_check_pairs hy) (hk := F_check_pairs.kp) (hb := ab_check_pairs_2_) (tk := (L2N.takes_of rfl rfl rfl rfl)) (hp := rfl) (hmx := by decide) (hdd := fun _ => .nil) (ha := ea_cons (ee_var 1) (ea_cons (ee_var 3) (ea_nil))) (hkw := ek_nil))) (ss_cons (ss_fld 0 (F := fld_Valley_mills hy) (he := ee_var 1)) (ss_one (ss_fld 0 (F := fld_Valley_sluices hy) (he := ee_var 3))))))⟩
end LW
end

section
set_option maxHeartbeats 4000000
namespace LW
open PySem L2 EV
theorem sc_law_row : FnScope ["_law_script", "_law_at", "_law_size", "_law_many", "_law_drawn", "_law_k"] ["_law_script", "_law_at", "_law_size", "_law_many"] (defScope st_law_row) := ⟨rfl, rfl, rfl, by decide +kernel, rfl, by decide +kernel, by decide +kernel⟩
def g_law_row : FS := gSeq (gIf (v2 eqD (vVar 3) (vC (.int 0))) (gRet (vL (lenOk (aNil)))) (gNext)) (gSeq (gSet 4 (v2 addD (vCallP 2 0 [0, 1] sem_law_digits [] (aCons (vCallP 2 0 [0, 1] sem_law_cell [] (aCons (vVar 0) (aCons (vVar 1) (aNil))) (aNil)) (aCons (vL (nRep (vL (lenOk (aCons (vC (.int 48)) (aNil)))) (vC (.int 30)))) (aNil))) (aNil)) (vCallP 2 0 [0, 1] sem_law_digits [] (aCons (vCallP 2 0 [0, 1] sem_law_cell [] (aCons (vVar 0) (aCons (v2 addD (vVar 1) (vC (.int 1))) (aNil))) (aNil)) (aCons (vL (nRep (vL (lenOk (aCons (vC (.int 48)) (aNil)))) (vC (.int 30)))) (aNil))) (aNil)))) (gRet (vL (nLc (iRange1 (v2 ixD (vL (lenOk (aCons (vC (.int 0)) (aCons (vC (.int 1)) (aCons (vC (.int 2)) (aCons (vC (.int 3)) (aCons (vC (.int 5)) (aCons (vC (.int 8)) (aCons (vC (.int 60)) (aCons (v2 fdivD (vVar 2) (vC (.int 8))) (aNil))))))))))) (v2 modD (vCall intD (aCons (vVar 2) (aNil))) (vC (.int 8))))) (nmG 5) (vYes) (v2 modD (vCall intD (aCons (v2 ixD (vVar 4) (vVar 5)) (aNil))) (vVar 3)) [5]))))
def sem_law_row : List D → Option R := semF 6 g_law_row
theorem ok_law_row {P : Program} {w : World} {K : PySem.W.Frag} {mg : Str → Option Value} {base : Heap} (hy : Hyp K mg) : ∃ fd, FunD K d_law_row.name d_law_row.qual d_law_row.params d_law_row.body d_law_row.scope (d_law_row.dvs K) (d_law_row.kws K) (He.fAd K d_law_row.at_) fd ∧ FnOk P w K mg base (L2N.CX P w) 2 (He.fAd K d_law_row.at_) fd ["_law_script", "_law_at", "_law_size", "_law_many"] (spF (tab K) 4 (sem_law_row)) := by
  obtain ⟨fd_law_digits, F_law_digits, G_law_digits⟩ := ok_law_digits (P := P) (w := w) (base := base) hy
  obtain ⟨fd_law_cell, F_law_cell, G_law_cell⟩ := ok_law_cell (P := P) (w := w) (base := base) hy
  have ab_law_digits_2_ : ArgB K fd_law_digits ["_law_cell_here", "_law_sizes"] 2 [] [] [0, 1] := ArgB.given F_law_digits (fun kV doc pm an cdv ct us ws l1 l2 => match us, l1, ws, l2 with | [_, _], _, [], _ => rfl)
  have ab_law_cell_2_ : ArgB K fd_law_cell ["_law_script", "_law_k"] 2 [] [] [0, 1] := ArgB.given F_law_cell (fun kV doc pm an cdv ct us ws l1 l2 => match us, l1, ws, l2 with | [_, _], _, [], _ => rfl)
  obtain ⟨fd, F⟩ := hy.says.fn (8) (d := d_law_row) rfl
  exact ⟨fd, F, fn_ev F sc_law_row fun cdv A outer s H E hr => (ss_cons (ss_if (eb_eq (hr := hr) (ha := ee_var 3) (hb := ee_int)) (ss_one (ss_ret (en_ee (en_lst (ea_nil))))) (ss_nil)) (ss_cons (ss_set 4 (hN := sc_law_row.nd) (he := ee_add (ha := ee_callP (F := G_law_digits) (hr := hr.mono (by decide)) (hm := glo__law_digits hy) (hk := F_law_digits.kp) (hb := ab_law_digits_2_) (tk := (L2N.takes_of rfl rfl rfl rfl)) (hp := rfl) (hmx := by decide) (hdd := fun _ => .nil) (ha := ea_cons (ee_callP (F := G_law_cell) (hr := hr.mono (by decide)) (hm := glo__law_cell hy) (hk := F_law_cell.kp) (hb := ab_law_cell_2_) (tk := (L2N.takes_of rfl rfl rfl rfl)) (hp := rfl) (hmx := by decide) (hdd := fun _ => .nil) (ha := ea_cons (ee_var 0) (ea_cons (ee_var 1) (ea_nil))) (hkw := ek_nil)) (ea_cons (en_ee (en_rep (ha := en_ee (en_lst (ea_cons (ee_int) (ea_nil)))) (hb := ee_int))) (ea_nil))) (hkw := ek_nil)) (hb := ee_callP (F := G_law_digits) (hr := hr.mono (by decide)) (hm := glo__law_digits hy) (hk := F_law_digits.kp) (hb := ab_law_digits_2_) (tk := (L2N.takes_of rfl rfl rfl rfl)) (hp := rfl) (hmx := by decide) (hdd := fun _ => .nil) (ha := ea_cons (ee_callP (F := G_law_cell) (hr := hr.mono (by decide)) (hm := glo__law_cell hy) (hk := F_law_cell.kp) (hb := ab_law_cell_2_) (tk := (L2N.takes_of rfl rfl rfl rfl)) (hp := rfl) (hmx := by decide) (hdd := fun _ => .nil) (ha := ea_cons (ee_var 0) (ea_cons (ee_add (ha := ee_var 1) (hb := ee_int)) (ea_nil))) (hkw := ek_nil)) (ea_cons (en_ee (en_rep (ha := en_ee (en_lst (ea_cons (ee_int) (ea_nil)))) (hb := ee_int))) (ea_nil))) (hkw := ek_nil)))) (ss_one (ss_ret (en_ee (en_lc (own := [("_law_k", 5)]) (hc := rfl) (hN := sc_law_row.nd) (ok := blkOk_by (show blkC ["_law_script", "_law_at", "_law_size", "_law_many", "_law_drawn", "_law_k"] (defScope st_law_row) _ [("_law_k", 5)] = true by decide +kernel)) (hsub := by decide) (hi := ei_range1 (hm := (free_range hy)) (ha := ee_ix (ha := en_ee (en_lst (ea_cons (ee_int) (ea_cons (ee_int) (ea_cons (ee_int) (ea_cons (ee_int) (ea_cons (ee_int) (ea_cons (ee_int) (ea_cons (ee_int) (ea_cons (ee_fdiv (ha := ee_var 2) (hb := ee_int)) (ea_nil))))))))))) (hb := ee_mod (ha := ee_callT (hc := call_int1) (h := o_int) (hm := (free_int hy)) (hv := by decide +kernel) (ha := ea_cons (ee_var 2) (ea_nil))) (hb := ee_int)))) (hg := fun _ _ _ _ _ => eg_name 5 sc_law_row.nd) (ht := fun _ _ _ _ _ => et_nil) (he := fun _ _ _ _ _ => ee_mod (ha := ee_callT (hc := call_int1) (h := o_int) (hm := (free_int hy)) (hv := by decide +kernel) (ha := ea_cons (ee_ix (ha := ee_var 4) (hb := ee_var 5)) (ea_nil))) (hb := ee_var 3))))))))⟩
end LW
end

section
set_option maxHeartbeats 4000000
namespace LW
open PySem L2 EV
theorem sc_law_form : FnScope ["_law_numbers", "_law_form_here"] ["_law_numbers", "_law_form_here"] (defScope st_law_form) := ⟨rfl, rfl, rfl, by decide +kernel, rfl, by decide +kernel, by decide +kernel⟩
def g_law_form : FS := gSeq (gIf (v2 eqD (vVar 1) (vC (.int 1))) (gRet (vL (nCall listD (aCons (vVar 0) (aNil))))) (gNext)) (gRet (vCall tupleD (aCons (vVar 0) (aNil))))
def sem_law_form : List D → Option R := semF 2 g_law_form
theorem ok_law_form {P : Program} {w : World} {K : PySem.W.Frag} {mg : Str → Option Value} {base : Heap} (hy : Hyp K mg) : ∃ fd, FunD K d_law_form.name d_law_form.qual d_law_form.params d_law_form.body d_law_form.scope (d_law_form.dvs K) (d_law_form.kws K) (He.fAd K d_law_form.at_) fd ∧ FnOk P w K mg base (L2N.CX P w) 1 (He.fAd K d_law_form.at_) fd ["_law_numbers", "_law_form_here"] (spF (tab K) 2 (sem_law_form)) := by
  obtain ⟨fd, F⟩ := hy.says.fn (9) (d := d_law_form) rfl
  exact ⟨fd, F, fn_ev F sc_law_form fun cdv A outer s H E hr => (ss_cons (ss_if (eb_eq (hr := hr) (ha := ee_var 1) (hb := ee_int)) (ss_one (ss_ret (en_ee (en_callT (hc := call_list_of) (h := (o_list rfl)) (hm := (free_list hy)) (hv := by decide +kernel) (ha := ea_cons (ee_var 0) (ea_nil)))))) (ss_nil)) (ss_one (ss_ret (ee_callT (hc := call_tuple_of) (h := (o_tuple rfl)) (hm := (free_tuple hy)) (hv := by decide +kernel) (ha := ea_cons (ee_var 0) (ea_nil))))))⟩
end LW
end

section
set_option maxHeartbeats 4000000
namespace LW
open PySem L2 EV
theorem sc_law_values : FnScope ["_law_script", "_law_many", "_law_here", "_law_there", "_law_row_here", "_law_items", "_law_size", "_law_free_here", "_law_values_here", "_law_far", "_law_place", "_law_side", "_law_k"] ["_law_script", "_law_many", "_law_here", "_law_there", "_law_row_here"] (defScope st_law_values) := ⟨rfl, rfl, rfl, by decide +kernel, rfl, by decide +kernel, by decide +kernel⟩
def g_law_values : FS := gSeq (gSet 5 (vCallP 2 0 [0, 1] sem_law_digits [] (aCons (vCallP 2 0 [0, 1] sem_law_cell [] (aCons (vVar 0) (aCons (vC (.int 8)) (aNil))) (aNil)) (aCons (vL (nRep (vL (lenOk (aCons (vC (.int 8)) (aNil)))) (vC (.int 49)))) (aNil))) (aNil))) (gSeq (gSet 6 (vCall maxD (aCons (vC (.int 0)) (aCons (v2 addD (vVar 1) (v2 ixD (vL (lenOk (aCons (vC (.int 0)) (aCons (vC (.int 0)) (aCons (vC (.int 1)) (aCons (v1 negD (vC (.int 1))) (aNil))))))) (v2 modD (vCall intD (aCons (v2 ixD (vVar 4) (vC (.int 5))) (aNil))) (vC (.int 4))))) (aNil))))) (gSeq (gSet 7 (vCall tupleD (aCons (vL (nLc (iRange1 (vVar 6)) (nmG 12) (vYes) (v2 ixD (vL (lenOk (aCons (vC (.int 0)) (aCons (vC (.int 1)) (aCons (vC (.int 0)) (aCons (vC (.int 1)) (aCons (vC (.int 1)) (aCons (vC (.int 0)) (aCons (vC (.int 2)) (aCons (v1 negD (vC (.int 1))) (aNil))))))))))) (v2 ixD (vVar 5) (vVar 12))) [12])) (aNil)))) (gSeq (gOwn 8 (lenOk (aCons (vVar 2) (aCons (vVar 3) (aCons (v2 addD (vVar 2) (vTup (aCons (vC (.int 0)) (aNil)))) (aCons (v2 addD (vVar 2) (vTup (aCons (vC (.int 1)) (aNil)))) (aCons (v2 addD (vVar 2) (vVar 3)) (aCons (vVar 7) (aNil))))))))) (gSeq (gSet 9 (vCall absD (aCons (vCallP 2 0 [0, 1] sem_law_cell [] (aCons (vVar 0) (aCons (vC (.int 9)) (aNil))) (aNil)) (aNil)))) (gSeq (gIf (v2 gtD (vVar 1) (vC (.int 0))) (gSeq (gSet 10 (v2 modD (vCall intD (aCons (v2 ixD (vVar 4) (vC (.int 6))) (aNil))) (vVar 1))) (gSeq (gOwnA 8 (nAdd (vVar 8) (vL (lenOk (aCons (vSlice (vVar 2) (oNone) (oSome (vVar 10))) (aCons (vSlice (vVar 2) (oSome (vC (.int 1))) (oNone)) (aCons (vSlice (vVar 2) (oNone) (oSome (v2 subD (vVar 1) (vC (.int 1))))) (aNil)))))))) (gFor (iSeq (vL (lenOk (aCons (vC (.int 2)) (aCons (v1 negD (vC (.int 1))) (aCons (v2 addD (vC (.int 2)) (vVar 9)) (aCons (v2 subD (v1 negD (vC (.int 1))) (vVar 9)) (aNil)))))))) (nmG 11) (gAppO 8 (gApp 8 (v2 addD (v2 addD (vSlice (vVar 2) (oNone) (oSome (vVar 10))) (vTup (aCons (vVar 11) (aNil)))) (vSlice (vVar 2) (oSome (v2 addD (vVar 10) (vC (.int 1)))) (oNone)))))))) (gNext)) (gRel 8 (gRet (vVar 8))))))))
def sem_law_values : List D → Option R := semF 13 g_law_values
theorem ok_law_values {P : Program} {w : World} {K : PySem.W.Frag} {mg : Str → Option Value} {base : Heap} (hy : Hyp K mg) : ∃ fd, FunD K d_law_values.name d_law_values.qual d_law_values.params d_law_values.body d_law_values.scope (d_law_values.dvs K) (d_law_values.kws K) (He.fAd K d_law_values.at_) fd ∧ FnOk P w K mg base (L2N.CX P w) 2 (He.fAd K d_law_values.at_) fd ["_law_script", "_law_many", "_law_here", "_law_there", "_law_row_here"] (spF (tab K) 5 (sem_law_values)) := by
  obtain ⟨fd_law_digits, F_law_digits, G_law_digits⟩ := ok_law_digits (P := P) (w := w) (base := base) hy
  obtain ⟨fd_law_cell, F_law_cell, G_law_cell⟩ := ok_law_cell (P := P) (w := w) (base := base) hy
  have ab_law_digits_2_ : ArgB K fd_law_digits ["_law_cell_here", "_law_sizes"] 2 [] [] [0, 1] := ArgB.given F_law_digits (fun kV doc pm an cdv ct us ws l1 l2 => match us, l1, ws, l2 with | [_, _], _, [], _ => rfl)
  have ab_law_cell_2_ : ArgB K fd_law_cell ["_law_script", "_law_k"] 2 [] [] [0, 1] := ArgB.given F_law_cell (fun kV doc pm an cdv ct us ws l1 l2 => match us, l1, ws, l2 with | [_, _], _, [], _ => rfl)
  obtain ⟨fd, F⟩ := hy.says.fn (10) (d := d_law_values) rfl
  exact ⟨fd, F, fn_ev F sc_law_values fun cdv A outer s H E hr => (ss_cons (ss_set 5 (hN := sc_law_values.nd) (he := ee_callP (F := G_law_digits) (hr := hr.mono (by decide)) (hm := glo__law_digits hy) (hk := F_law_digits.kp) (hb := ab_law_digits_2_) (tk := (L2N.takes_of rfl rfl rfl rfl)) (hp := rfl) (hmx := by decide) (hdd := fun _ => .nil) (ha := ea_cons (ee_callP (F := G_law_cell) (hr := hr.mono (by decide)) (hm := glo__law_cell hy) (hk := F_law_cell.kp) (hb := ab_law_cell_2_) (tk := (L2N.takes_of rfl rfl rfl rfl)) (hp := rfl) (hmx := by decide) (hdd := fun _ => .nil) (ha := ea_cons (ee_var 0) (ea_cons (ee_int) (ea_nil))) (hkw := ek_nil)) (ea_cons (en_ee (en_rep (ha := en_ee (en_lst (ea_cons (ee_int) (ea_nil)))) (hb := ee_int))) (ea_nil))) (hkw := ek_nil))) (ss_cons (ss_set 6 (hN := sc_law_values.nd) (he := ee_callB (hc := (call_max2 rfl)) (h := o_max) (hm := (free_max hy)) (hv := by decide +kernel) (ha := ea_cons (ee_int) (ea_cons (ee_add (ha := ee_var 1) (hb := ee_ix (ha := en_ee (en_lst (ea_cons (ee_int) (ea_cons (ee_int) (ea_cons (ee_int) (ea_cons (ee_neg (ee_int)) (ea_nil))))))) (hb := ee_mod (ha := ee_callT (hc := call_int1) (h := o_int) (hm := (free_int hy)) (hv := by decide +kernel) (ha := ea_cons (ee_ix (ha := ee_var 4) (hb := ee_int)) (ea_nil))) (hb := ee_int)))) (ea_nil))))) (ss_cons (ss_set 7 (hN := sc_law_values.nd) (he := ee_callT (hc := call_tuple_of) (h := (o_tuple rfl)) (hm := (free_tuple hy)) (hv := by decide +kernel) (ha := ea_cons (en_ee (en_lc (own := [("_law_k", 12)]) (hc := rfl) (hN := sc_law_values.nd) (ok := blkOk_by (show blkC ["_law_script", "_law_many", "_law_here", "_law_there", "_law_row_here", "_law_items", "_law_size", "_law_free_here", "_law_values_here", "_law_far", "_law_place", "_law_side", "_law_k"] (defScope st_law_values) _ [("_law_k", 12)] = true by decide +kernel)) (hsub := by decide) (hi := ei_range1 (hm := (free_range hy)) (ha := ee_var 6)) (hg := fun _ _ _ _ _ => eg_name 12 sc_law_values.nd) (ht := fun _ _ _ _ _ => et_nil) (he := fun _ _ _ _ _ => ee_ix (ha := en_ee (en_lst (ea_cons (ee_int) (ea_cons (ee_int) (ea_cons (ee_int) (ea_cons (ee_int) (ea_cons (ee_int) (ea_cons (ee_int) (ea_cons (ee_int) (ea_cons (ee_neg (ee_int)) (ea_nil))))))))))) (hb := ee_ix (ha := ee_var 5) (hb := ee_var 12))))) (ea_nil)))) (ss_cons (ss_own 8 (hN := sc_law_values.nd) (he := en_lst (ea_cons (ee_var 2) (ea_cons (ee_var 3) (ea_cons (ee_add (ha := ee_var 2) (hb := ee_tup (ea_cons (ee_int) (ea_nil)))) (ea_cons (ee_add (ha := ee_var 2) (hb := ee_tup (ea_cons (ee_int) (ea_nil)))) (ea_cons (ee_add (ha := ee_var 2) (hb := ee_var 3)) (ea_cons (ee_var 7) (ea_nil))))))))) (ss_cons (ss_set 9 (hN := sc_law_values.nd) (he := ee_callB (hc := call_abs) (h := o_abs) (hm := (free_abs hy)) (hv := by decide +kernel) (ha := ea_cons (ee_callP (F := G_law_cell) (hr := hr.mono (by decide)) (hm := glo__law_cell hy) (hk := F_law_cell.kp) (hb := ab_law_cell_2_) (tk := (L2N.takes_of rfl rfl rfl rfl)) (hp := rfl) (hmx := by decide) (hdd := fun _ => .nil) (ha := ea_cons (ee_var 0) (ea_cons (ee_int) (ea_nil))) (hkw := ek_nil)) (ea_nil)))) (ss_cons (ss_if (eb_gt (ha := ee_var 1) (hb := ee_int)) (ss_cons (ss_set 10 (hN := sc_law_values.nd) (he := ee_mod (ha := ee_callT (hc := call_int1) (h := o_int) (hm := (free_int hy)) (hv := by decide +kernel) (ha := ea_cons (ee_ix (ha := ee_var 4) (hb := ee_int)) (ea_nil))) (hb := ee_var 1))) (ss_cons (ss_ownA 8 (hN := sc_law_values.nd) (he := en_add (ha := ee_var 8) (hb := en_ee (en_lst (ea_cons (ee_slice (ha := ee_var 2) (hl := eo_none) (hu := (eo_some (ee_var 10)))) (ea_cons (ee_slice (ha := ee_var 2) (hl := (eo_some (ee_int))) (hu := eo_none)) (ea_cons (ee_slice (ha := ee_var 2) (hl := eo_none) (hu := (eo_some (ee_sub (ha := ee_var 1) (hb := ee_int))))) (ea_nil)))))))) (ss_one (ss_for (hp := (passes_of rfl)) (hc := rfl) (hi := ei_seq (he := en_ee (en_lst (ea_cons (ee_int) (ea_cons (ee_neg (ee_int)) (ea_cons (ee_add (ha := ee_int) (hb := ee_var 9)) (ea_cons (ee_sub (ha := ee_neg (ee_int)) (hb := ee_var 9)) (ea_nil)))))))) (hg := eg_name 11 sc_law_values.nd) (hb := ss_one (ss_app 8 (he := ee_add (ha := ee_add (ha := ee_slice (ha := ee_var 2) (hl := eo_none) (hu := (eo_some (ee_var 10)))) (hb := ee_tup (ea_cons (ee_var 11) (ea_nil)))) (hb := ee_slice (ha := ee_var 2) (hl := (eo_some (ee_add (ha := ee_var 10) (hb := ee_int)))) (hu := eo_none))))))))) (ss_nil)) (ss_one (ss_rel 8 (ss_ret (ee_var 8))))))))))⟩
end LW
end

section
set_option maxHeartbeats 4000000
namespace LW
open PySem L2 EV
theorem sc_law_handed : FnScope ["_law_rows", "_law_form_here", "_law_inner", "_law_k"] ["_law_rows", "_law_form_here"] (defScope st_law_handed) := ⟨rfl, rfl, rfl, by decide +kernel, rfl, by decide +kernel, by decide +kernel⟩
def g_law_handed : FS := gSeq (gOwn 2 (lenOk (aNil))) (gSeq (gFor (iRange1 (vCall lenD (aCons (vVar 0) (aNil)))) (nmG 3) (gIf (vOr (v2 eqD (vVar 1) (vC (.int 0))) (vOr (v2 eqD (vVar 1) (vC (.int 3))) (vAnd (vOr (v2 eqD (vVar 1) (vC (.int 2))) (v2 eqD (vVar 1) (vC (.int 5)))) (v2 eqD (v2 mulD (v2 fdivD (vVar 3) (vC (.int 2))) (vC (.int 2))) (vVar 3))))) (gAppO 2 (gApp 2 (vCall tupleD (aCons (v2 ixD (vVar 0) (vVar 3)) (aNil))))) (gAppO 2 (gApp 2 (vL (nCall listD (aCons (v2 ixD (vVar 0) (vVar 3)) (aNil)))))))) (gSeq (gIf (v2 geD (vVar 1) (vC (.int 3))) (gRel 2 (gRet (vCall tupleD (aCons (vVar 2) (aNil))))) (gNext)) (gRel 2 (gRet (vVar 2)))))
def sem_law_handed : List D → Option R := semF 4 g_law_handed
theorem ok_law_handed {P : Program} {w : World} {K : PySem.W.Frag} {mg : Str → Option Value} {base : Heap} (hy : Hyp K mg) : ∃ fd, FunD K d_law_handed.name d_law_handed.qual d_law_handed.params d_law_handed.body d_law_handed.scope (d_law_handed.dvs K) (d_law_handed.kws K) (He.fAd K d_law_handed.at_) fd ∧ FnOk P w K mg base (L2N.CX P w) 1 (He.fAd K d_law_handed.at_) fd ["_law_rows", "_law_form_here"] (spF (tab K) 2 (sem_law_handed)) := by
  obtain ⟨fd, F⟩ := hy.says.fn (11) (d := d_law_handed) rfl
  exact ⟨fd, F, fn_ev F sc_law_handed fun cdv A outer s H E hr => (ss_cons (ss_own 2 (hN := sc_law_handed.nd) (he := en_lst (ea_nil))) (ss_cons (ss_for (hp := (passes_of rfl)) (hc := rfl) (hi := ei_range1 (hm := (free_range hy)) (ha := ee_callB (hc := call_len_seq) (h := (o_len rfl)) (hm := (free_len hy)) (hv := by decide +kernel) (ha := ea_cons (ee_var 0) (ea_nil)))) (hg := eg_name 3 sc_law_handed.nd) (hb := ss_one (ss_if (eb_w (ew_or (eb_eq (hr := hr) (ha := ee_var 1) (hb := ee_int)) (ew_or (eb_eq (hr := hr) (ha := ee_var 1) (hb := ee_int)) (ew_or1 (eb_w (ew_and (eb_w (ew_or (eb_eq (hr := hr) (ha := ee_var 1) (hb := ee_int)) (ew_or1 (eb_eq (hr := hr) (ha := ee_var 1) (hb := ee_int))))) (ew_and1 (eb_eq (hr := hr) (ha := ee_mul (ha := ee_fdiv (ha := ee_var 3) (hb := ee_int)) (hb := ee_int)) (hb := ee_var 3))))))))) (ss_one (ss_app 2 (he := ee_callT (hc := call_tuple_of) (h := (o_tuple rfl)) (hm := (free_tuple hy)) (hv := by decide +kernel) (ha := ea_cons (ee_ix (ha := ee_var 0) (hb := ee_var 3)) (ea_nil))))) (ss_one (ss_app 2 (he := en_ee (en_callT (hc := call_list_of) (h := (o_list rfl)) (hm := (free_list hy)) (hv := by decide +kernel) (ha := ea_cons (ee_ix (ha := ee_var 0) (hb := ee_var 3)) (ea_nil))))))))) (ss_cons (ss_if (eb_ge (ha := ee_var 1) (hb := ee_int)) (ss_one (ss_rel 2 (ss_ret (ee_callT (hc := call_tuple_of) (h := (o_tuple rfl)) (hm := (free_tuple hy)) (hv := by decide +kernel) (ha := ea_cons (ee_var 2) (ea_nil)))))) (ss_nil)) (ss_one (ss_rel 2 (ss_ret (ee_var 2)))))))⟩
end LW
end

section
set_option maxHeartbeats 4000000
namespace LW
open PySem L2 EV
theorem sc_law_turns : FnScope ["_law_state", "_law_row_here", "_law_sides", "_law_k"] ["_law_state", "_law_row_here"] (defScope st_law_turns) := ⟨rfl, rfl, rfl, by decide +kernel, rfl, by decide +kernel, by decide +kernel⟩
def g_law_turns : FS := gSeq (gOwn 2 (nCall listD (aCons (vVar 0) (aNil)))) (gSeq (gFor (iSeq (vVar 1)) (nmG 3) (gSetIxA 2 (vVar 3) (v2 subD (vC (.int 1)) (v2 ixD (vVar 2) (vVar 3))))) (gRel 2 (gRet (vCall tupleD (aCons (vVar 2) (aNil))))))
def sem_law_turns : List D → Option R := semF 4 g_law_turns
theorem ok_law_turns {P : Program} {w : World} {K : PySem.W.Frag} {mg : Str → Option Value} {base : Heap} (hy : Hyp K mg) : ∃ fd, FunD K d_law_turns.name d_law_turns.qual d_law_turns.params d_law_turns.body d_law_turns.scope (d_law_turns.dvs K) (d_law_turns.kws K) (He.fAd K d_law_turns.at_) fd ∧ FnOk P w K mg base (L2N.CX P w) 1 (He.fAd K d_law_turns.at_) fd ["_law_state", "_law_row_here"] (spF (tab K) 2 (sem_law_turns)) := by
  obtain ⟨fd, F⟩ := hy.says.fn (12) (d := d_law_turns) rfl
  exact ⟨fd, F, fn_ev F sc_law_turns fun cdv A outer s H E hr => (ss_cons (ss_own 2 (hN := sc_law_turns.nd) (he := en_callT (hc := call_list_of) (h := (o_list rfl)) (hm := (free_list hy)) (hv := by decide +kernel) (ha := ea_cons (ee_var 0) (ea_nil)))) (ss_cons (ss_for (hp := (passes_of rfl)) (hc := rfl) (hi := ei_seq (he := ee_var 1)) (hg := eg_name 3 sc_law_turns.nd) (hb := ss_one (ss_setIxA 2 (hg := fun h => pg_sub (pv 2) h set_list) (hk := ee_var 3) (he := ee_sub (ha := ee_int) (hb := ee_ix (ha := ee_var 2) (hb := ee_var 3)))))) (ss_one (ss_rel 2 (ss_ret (ee_callT (hc := call_tuple_of) (h := (o_tuple rfl)) (hm := (free_tuple hy)) (hv := by decide +kernel) (ha := ea_cons (ee_var 2) (ea_nil))))))))⟩
end LW
end

section
set_option maxHeartbeats 4000000
namespace LW
open PySem L2 EV
theorem sc_law_whole : FnScope ["_law_item"] ["_law_item"] (defScope st_law_whole) := ⟨rfl, rfl, rfl, by decide +kernel, rfl, by decide +kernel, by decide +kernel⟩
def g_law_whole : FS := gRet (vAnd (v1 (isD [.int]) (vVar 0)) (v1 notD (v1 (isD [.bl]) (vVar 0))))
def sem_law_whole : List D → Option R := semF 1 g_law_whole
theorem ok_law_whole {P : Program} {w : World} {K : PySem.W.Frag} {mg : Str → Option Value} {base : Heap} (hy : Hyp K mg) : ∃ fd, FunD K d_law_whole.name d_law_whole.qual d_law_whole.params d_law_whole.body d_law_whole.scope (d_law_whole.dvs K) (d_law_whole.kws K) (He.fAd K d_law_whole.at_) fd ∧ FnOk P w K mg base (L2N.CX P w) 1 (He.fAd K d_law_whole.at_) fd ["_law_item"] (spF (tab K) 1 (sem_law_whole)) := by
  obtain ⟨fd, F⟩ := hy.says.fn (13) (d := d_law_whole) rfl
  exact ⟨fd, F, fn_ev F sc_law_whole fun cdv A outer s H E hr => (ss_one (ss_ret (ee_and (ee_isi .int (hm := (free_isinstance hy)) (hmy := (free_int hy)) (hvy := by decide +kernel) (ha := ee_var 0)) (ee_one (ee_not (ee_isi .bl (hm := (free_isinstance hy)) (hmy := (free_bool hy)) (hvy := by decide +kernel) (ha := ee_var 0)))))))⟩
end LW
end

section
set_option maxHeartbeats 4000000
namespace LW
open PySem L2 EV
theorem sc_law_same : FnScope ["_law_item", "_law_expected", "_law_k"] ["_law_item", "_law_expected"] (defScope st_law_same) := ⟨rfl, rfl, rfl, by decide +kernel, rfl, by decide +kernel, by decide +kernel⟩
def g_law_same : FS := gSeq (gIf (vOr (v1 notD (v1 (isD [.tup]) (vVar 0))) (v2 neD (vCall lenD (aCons (vVar 0) (aNil))) (vCall lenD (aCons (vVar 1) (aNil))))) (gRet (vC (.bl false))) (gNext)) (gSeq (gFor (iRange1 (vCall lenD (aCons (vVar 1) (aNil)))) (nmG 2) (gIf (vOr (v1 notD (vCallP 1 0 [0] sem_law_whole [] (aCons (v2 ixD (vVar 0) (vVar 2)) (aNil)) (aNil))) (v2 neD (v2 ixD (vVar 0) (vVar 2)) (v2 ixD (vVar 1) (vVar 2)))) (gRet (vC (.bl false))) (gNext))) (gRet (vC (.bl true))))
def sem_law_same : List D → Option R := semF 3 g_law_same
theorem ok_law_same {P : Program} {w : World} {K : PySem.W.Frag} {mg : Str → Option Value} {base : Heap} (hy : Hyp K mg) : ∃ fd, FunD K d_law_same.name d_law_same.qual d_law_same.params d_law_same.body d_law_same.scope (d_law_same.dvs K) (d_law_same.kws K) (He.fAd K d_law_same.at_) fd ∧ FnOk P w K mg base (L2N.CX P w) 2 (He.fAd K d_law_same.at_) fd ["_law_item", "_law_expected"] (spF (tab K) 2 (sem_law_same)) := by
  obtain ⟨fd_law_whole, F_law_whole, G_law_whole⟩ := ok_law_whole (P := P) (w := w) (base := base) hy
  have ab_law_whole_1_ : ArgB K fd_law_whole ["_law_item"] 1 [] [] [0] := ArgB.given F_law_whole (fun kV doc pm an cdv ct us ws l1 l2 => match us, l1, ws, l2 with | [_], _, [], _ => rfl)
  obtain ⟨fd, F⟩ := hy.says.fn (14) (d := d_law_same) rfl
  exact ⟨fd, F, fn_ev F sc_law_same fun cdv A outer s H E hr => (ss_cons (ss_if (eb_w (ew_or (eb_not (eb_val (ee_isi .tup (hm := (free_isinstance hy)) (hmy := (free_tuple hy)) (hvy := by decide +kernel) (ha := ee_var 0)))) (ew_or1 (eb_ne (hr := hr) (ha := ee_callB (hc := call_len_seq) (h := (o_len rfl)) (hm := (free_len hy)) (hv := by decide +kernel) (ha := ea_cons (ee_var 0) (ea_nil))) (hb := ee_callB (hc := call_len_seq) (h := (o_len rfl)) (hm := (free_len hy)) (hv := by decide +kernel) (ha := ea_cons (ee_var 1) (ea_nil))))))) (ss_one (ss_ret (ee_bl))) (ss_nil)) (ss_cons (ss_for (hp := (passes_of rfl)) (hc := rfl) (hi := ei_range1 (hm := (free_range hy)) (ha := ee_callB (hc := call_len_seq) (h := (o_len rfl)) (hm := (free_len hy)) (hv := by decide +kernel) (ha := ea_cons (ee_var 1) (ea_nil)))) (hg := eg_name 2 sc_law_same.nd) (hb := ss_one (ss_if (eb_w (ew_or (eb_not (eb_val (ee_callP (F := G_law_whole) (hr := hr.mono (by decide)) (hm := glo__law_whole hy) (hk := F_law_whole.kp) (hb := ab_law_whole_1_) (tk := (L2N.takes_of rfl rfl rfl rfl)) (hp := rfl) (hmx := by decide) (hdd := fun _ => .nil) (ha := ea_cons (ee_ix (ha := ee_var 0) (hb := ee_var 2)) (ea_nil)) (hkw := ek_nil)))) (ew_or1 (eb_ne (hr := hr) (ha := ee_ix (ha := ee_var 0) (hb := ee_var 2)) (hb := ee_ix (ha := ee_var 1) (hb := ee_var 2)))))) (ss_one (ss_ret (ee_bl))) (ss_nil)))) (ss_one (ss_ret (ee_bl)))))⟩
end LW
end

section
set_option maxHeartbeats 4000000
namespace LW
open PySem L2 EV
theorem sc_feeds : FnScope ["valley", "setting", "sluice"] ["valley", "setting", "sluice"] (defScope st_feeds) := ⟨rfl, rfl, rfl, by decide +kernel, rfl, by decide +kernel, by decide +kernel⟩
def g_feeds : FS := gRet (v2 ixD (v2 ixD (v1 (fldD 7 1) (vVar 0)) (vVar 2)) (v2 ixD (vVar 1) (vVar 2)))
def sem_feeds : List D → Option R := semF 3 g_feeds
theorem ok_feeds {P : Program} {w : World} {K : PySem.W.Frag} {mg : Str → Option Value} {base : Heap} (hy : Hyp K mg) : ∃ fd, FunD K d_feeds.name d_feeds.qual d_feeds.params d_feeds.body d_feeds.scope (d_feeds.dvs K) (d_feeds.kws K) (He.fAd K d_feeds.at_) fd ∧ FnOk P w K mg base (L2N.CX P w) 1 (He.fAd K d_feeds.at_) fd ["valley", "setting", "sluice"] (spF (tab K) 3 (sem_feeds)) := by
  obtain ⟨fd, F⟩ := hy.says.fn (15) (d := d_feeds) rfl
  exact ⟨fd, F, fn_ev F sc_feeds fun cdv A outer s H E hr => (ss_one (ss_ret (ee_ix (ha := ee_ix (ha := ee_fld (F := fld_Valley_sluices hy) (ha := ee_var 0)) (hb := ee_var 2)) (hb := ee_ix (ha := ee_var 1) (hb := ee_var 2)))))⟩
end LW
end

section
set_option maxHeartbeats 4000000
namespace LW
open PySem L2 EV
theorem sc_turned : FnScope ["setting", "turns", "sides", "sluice", "side"] ["setting", "turns"] (defScope st_turned) := ⟨rfl, rfl, rfl, by decide +kernel, rfl, by decide +kernel, by decide +kernel⟩
def g_turned : FS := gSeq (gOwn 2 (nLc (iSeq (vVar 0)) (nmG 4) (vYes) (vVar 4) [4])) (gSeq (gFor (iSeq (vVar 1)) (nmG 3) (gSetIxA 2 (vVar 3) (v2 subD (vC (.int 1)) (v2 ixD (vVar 2) (vVar 3))))) (gRel 2 (gRet (vCall tupleD (aCons (vVar 2) (aNil))))))
def sem_turned : List D → Option R := semF 5 g_turned
theorem ok_turned {P : Program} {w : World} {K : PySem.W.Frag} {mg : Str → Option Value} {base : Heap} (hy : Hyp K mg) : ∃ fd, FunD K d_turned.name d_turned.qual d_turned.params d_turned.body d_turned.scope (d_turned.dvs K) (d_turned.kws K) (He.fAd K d_turned.at_) fd ∧ FnOk P w K mg base (L2N.CX P w) 1 (He.fAd K d_turned.at_) fd ["setting", "turns"] (spF (tab K) 2 (sem_turned)) := by
  obtain ⟨fd, F⟩ := hy.says.fn (16) (d := d_turned) rfl
  exact ⟨fd, F, fn_ev F sc_turned fun cdv A outer s H E hr => (ss_cons (ss_lc_o (ps_lcs (i := 2) (hy := rfl) (hyl := rfl) (hsw := sw_true rfl rfl rfl (by decide +kernel)) (own := [("side", 4)]) (hc := rfl) (hN := sc_turned.nd) (ok := blkOk_by (show blkC ["setting", "turns", "sides", "sluice", "side"] (defScope st_turned) _ [("side", 4)] = true by decide +kernel)) (hi := ei_seq (he := ee_var 0)) (hg := fun _ _ _ _ _ => eg_name 4 sc_turned.nd) (ht := fun _ _ _ _ _ => et_nil) (he := fun _ _ _ _ _ => ee_var 4)) (w_lc (by decide))) (ss_cons (ss_for (hp := (passes_of rfl)) (hc := rfl) (hi := ei_seq (he := ee_var 1)) (hg := eg_name 3 sc_turned.nd) (hb := ss_one (ss_setIxA 2 (hg := fun h => pg_sub (pv 2) h set_list) (hk := ee_var 3) (he := ee_sub (ha := ee_int) (hb := ee_ix (ha := ee_var 2) (hb := ee_var 3)))))) (ss_one (ss_rel 2 (ss_ret (ee_callT (hc := call_tuple_of) (h := (o_tuple rfl)) (hm := (free_tuple hy)) (hv := by decide +kernel) (ha := ea_cons (ee_var 2) (ea_nil))))))))⟩
end LW
end

section
set_option maxHeartbeats 4000000
namespace LW
open PySem L2 EV
theorem sc_fed : FnScope ["valley", "setting", "count", "pair", "side", "mill", "_"] ["valley", "setting"] (defScope st_fed) := ⟨rfl, rfl, rfl, by decide +kernel, rfl, by decide +kernel, by decide +kernel⟩
def g_fed : FS := gSeq (gOwn 2 (nLc (iRange1 (v1 (fldD 7 0) (vVar 0))) (nmG 6) (vYes) (vC (.int 0)) [6])) (gSeq (gFor (iZip2 (v1 (fldD 7 1) (vVar 0)) (vVar 1)) (tupG (lenG 2 (consG (nmG 3) (consG (nmG 4) (nilG))))) (gSeq (gSet 5 (v2 ixD (vVar 3) (vVar 4))) (gSetIxA 2 (vVar 5) (v2 addD (v2 ixD (vVar 2) (vVar 5)) (vC (.int 1)))))) (gRel 2 (gRet (vCall tupleD (aCons (vVar 2) (aNil))))))
def sem_fed : List D → Option R := semF 7 g_fed
theorem ok_fed {P : Program} {w : World} {K : PySem.W.Frag} {mg : Str → Option Value} {base : Heap} (hy : Hyp K mg) : ∃ fd, FunD K d_fed.name d_fed.qual d_fed.params d_fed.body d_fed.scope (d_fed.dvs K) (d_fed.kws K) (He.fAd K d_fed.at_) fd ∧ FnOk P w K mg base (L2N.CX P w) 1 (He.fAd K d_fed.at_) fd ["valley", "setting"] (spF (tab K) 2 (sem_fed)) := by
  obtain ⟨fd, F⟩ := hy.says.fn (17) (d := d_fed) rfl
  exact ⟨fd, F, fn_ev F sc_fed fun cdv A outer s H E hr => (ss_cons (ss_lc_o (ps_lcs (i := 2) (hy := rfl) (hyl := rfl) (hsw := sw_true rfl rfl rfl (by decide +kernel)) (own := [("_", 6)]) (hc := rfl) (hN := sc_fed.nd) (ok := blkOk_by (show blkC ["valley", "setting", "count", "pair", "side", "mill", "_"] (defScope st_fed) _ [("_", 6)] = true by decide +kernel)) (hi := ei_range1 (hm := (free_range hy)) (ha := ee_fld (F := fld_Valley_mills hy) (ha := ee_var 0))) (hg := fun _ _ _ _ _ => eg_name 6 sc_fed.nd) (ht := fun _ _ _ _ _ => et_nil) (he := fun _ _ _ _ _ => ee_int)) (w_lc (by decide))) (ss_cons (ss_for (hp := (passes_of rfl)) (hc := rfl) (hi := ei_zip2 (hm := (free_zip hy)) (ha := ee_fld (F := fld_Valley_sluices hy) (ha := ee_var 0)) (hb := ee_var 1)) (hg := eg_tup (hc := rfl) (h := egs_cons (eg_name 3 sc_fed.nd) (egs_cons (eg_name 4 sc_fed.nd) (egs_nil)))) (hb := ss_cons (ss_set 5 (hN := sc_fed.nd) (he := ee_ix (ha := ee_var 3) (hb := ee_var 4))) (ss_one (ss_setIxA 2 (hg := fun h => pg_sub (pv 2) h set_list) (hk := ee_var 5) (he := ee_add (ha := ee_ix (ha := ee_var 2) (hb := ee_var 5)) (hb := ee_int)))))) (ss_one (ss_rel 2 (ss_ret (ee_callT (hc := call_tuple_of) (h := (o_tuple rfl)) (hm := (free_tuple hy)) (hv := by decide +kernel) (ha := ea_cons (ee_var 2) (ea_nil))))))))⟩
end LW
end

section
set_option maxHeartbeats 4000000
namespace LW
open PySem L2 EV
theorem sc_law_fed : FnScope ["_law_mills", "_law_pairs", "_law_state", "_law_count", "_law_k", "_law_mill"] ["_law_mills", "_law_pairs", "_law_state"] (defScope st_law_fed) := ⟨rfl, rfl, rfl, by decide +kernel, rfl, by decide +kernel, by decide +kernel⟩
def g_law_fed : FS := gSeq (gOwn 3 (nLc (iRange1 (vVar 0)) (nmG 5) (vYes) (vC (.int 0)) [5])) (gSeq (gFor (iRange1 (vCall lenD (aCons (vVar 1) (aNil)))) (nmG 4) (gSeq (gSet 5 (v2 ixD (v2 ixD (vVar 1) (vVar 4)) (v2 ixD (vVar 2) (vVar 4)))) (gSetIxA 3 (vVar 5) (v2 addD (v2 ixD (vVar 3) (vVar 5)) (vC (.int 1)))))) (gRel 3 (gRet (vVar 3))))
def sem_law_fed : List D → Option R := semF 6 g_law_fed
theorem ok_law_fed {P : Program} {w : World} {K : PySem.W.Frag} {mg : Str → Option Value} {base : Heap} (hy : Hyp K mg) : ∃ fd, FunD K d_law_fed.name d_law_fed.qual d_law_fed.params d_law_fed.body d_law_fed.scope (d_law_fed.dvs K) (d_law_fed.kws K) (He.fAd K d_law_fed.at_) fd ∧ FnOk P w K mg base (L2N.CX P w) 1 (He.fAd K d_law_fed.at_) fd ["_law_mills", "_law_pairs", "_law_state"] (spF (tab K) 3 (sem_law_fed)) := by
  obtain ⟨fd, F⟩ := hy.says.fn (18) (d := d_law_fed) rfl
  exact ⟨fd, F, fn_ev F sc_law_fed fun cdv A outer s H E hr => (ss_cons (ss_lc_o (ps_lcs (i := 3) (hy := rfl) (hyl := rfl) (hsw := sw_true rfl rfl rfl (by decide +kernel)) (own := [("_law_mill", 5)]) (hc := rfl) (hN := sc_law_fed.nd) (ok := blkOk_by (show blkC ["_law_mills", "_law_pairs", "_law_state", "_law_count", "_law_k", "_law_mill"] (defScope st_law_fed) _ [("_law_mill", 5)] = true by decide +kernel)) (hi := ei_range1 (hm := (free_range hy)) (ha := ee_var 0)) (hg := fun _ _ _ _ _ => eg_name 5 sc_law_fed.nd) (ht := fun _ _ _ _ _ => et_nil) (he := fun _ _ _ _ _ => ee_int)) (w_lc (by decide))) (ss_cons (ss_for (hp := (passes_of rfl)) (hc := rfl) (hi := ei_range1 (hm := (free_range hy)) (ha := ee_callB (hc := call_len_seq) (h := (o_len rfl)) (hm := (free_len hy)) (hv := by decide +kernel) (ha := ea_cons (ee_var 1) (ea_nil)))) (hg := eg_name 4 sc_law_fed.nd) (hb := ss_cons (ss_set 5 (hN := sc_law_fed.nd) (he := ee_ix (ha := ee_ix (ha := ee_var 1) (hb := ee_var 4)) (hb := ee_ix (ha := ee_var 2) (hb := ee_var 4)))) (ss_one (ss_setIxA 3 (hg := fun h => pg_sub (pv 3) h set_list) (hk := ee_var 5) (he := ee_add (ha := ee_ix (ha := ee_var 3) (hb := ee_var 5)) (hb := ee_int)))))) (ss_one (ss_rel 3 (ss_ret (ee_var 3))))))⟩
end LW
end

section
set_option maxHeartbeats 4000000
namespace LW
open PySem L2 EV
theorem sc_differing : FnScope ["one", "two", "sluice", "side"] ["one", "two"] (defScope st_differing) := ⟨rfl, rfl, rfl, by decide +kernel, rfl, by decide +kernel, by decide +kernel⟩
def g_differing : FS := gRet (vCall tupleD (aCons (vL (nLc (iEnum (vVar 0)) (tupG (lenG 2 (consG (nmG 2) (consG (nmG 3) (nilG))))) (v2 neD (vVar 3) (v2 ixD (vVar 1) (vVar 2))) (vVar 2) [2, 3])) (aNil)))
def sem_differing : List D → Option R := semF 4 g_differing
theorem ok_differing {P : Program} {w : World} {K : PySem.W.Frag} {mg : Str → Option Value} {base : Heap} (hy : Hyp K mg) : ∃ fd, FunD K d_differing.name d_differing.qual d_differing.params d_differing.body d_differing.scope (d_differing.dvs K) (d_differing.kws K) (He.fAd K d_differing.at_) fd ∧ FnOk P w K mg base (L2N.CX P w) 1 (He.fAd K d_differing.at_) fd ["one", "two"] (spF (tab K) 2 (sem_differing)) := by
  obtain ⟨fd, F⟩ := hy.says.fn (19) (d := d_differing) rfl
  exact ⟨fd, F, fn_ev F sc_differing fun cdv A outer s H E hr => (ss_one (ss_ret (ee_callT (hc := call_tuple_of) (h := (o_tuple rfl)) (hm := (free_tuple hy)) (hv := by decide +kernel) (ha := ea_cons (en_ee (en_lc (own := [("sluice", 2), ("side", 3)]) (hc := rfl) (hN := sc_differing.nd) (ok := blkOk_by (show blkC ["one", "two", "sluice", "side"] (defScope st_differing) _ [("sluice", 2), ("side", 3)] = true by decide +kernel)) (hsub := by decide) (hi := ei_enum (hm := (free_enumerate hy)) (ha := ee_var 0)) (hg := fun _ _ _ _ _ => eg_tup (hc := rfl) (h := egs_cons (eg_name 2 sc_differing.nd) (egs_cons (eg_name 3 sc_differing.nd) (egs_nil)))) (ht := fun _ _ _ _ _ => et_one (eb_ne (hr := hr) (ha := ee_var 3) (hb := ee_ix (ha := ee_var 1) (hb := ee_var 2)))) (he := fun _ _ _ _ _ => ee_var 2))) (ea_nil)))))⟩
end LW
end

section
set_option maxHeartbeats 4000000
namespace LW
open PySem L2 EV
theorem sc_law_differs : FnScope ["_law_here", "_law_there", "_law_k"] ["_law_here", "_law_there"] (defScope st_law_differs) := ⟨rfl, rfl, rfl, by decide +kernel, rfl, by decide +kernel, by decide +kernel⟩
def g_law_differs : FS := gRet (vL (nLc (iRange1 (vCall lenD (aCons (vVar 0) (aNil)))) (nmG 2) (v2 neD (v2 ixD (vVar 0) (vVar 2)) (v2 ixD (vVar 1) (vVar 2))) (vVar 2) [2]))
def sem_law_differs : List D → Option R := semF 3 g_law_differs
theorem ok_law_differs {P : Program} {w : World} {K : PySem.W.Frag} {mg : Str → Option Value} {base : Heap} (hy : Hyp K mg) : ∃ fd, FunD K d_law_differs.name d_law_differs.qual d_law_differs.params d_law_differs.body d_law_differs.scope (d_law_differs.dvs K) (d_law_differs.kws K) (He.fAd K d_law_differs.at_) fd ∧ FnOk P w K mg base (L2N.CX P w) 1 (He.fAd K d_law_differs.at_) fd ["_law_here", "_law_there"] (spF (tab K) 2 (sem_law_differs)) := by
  obtain ⟨fd, F⟩ := hy.says.fn (20) (d := d_law_differs) rfl
  exact ⟨fd, F, fn_ev F sc_law_differs fun cdv A outer s H E hr => (ss_one (ss_ret (en_ee (en_lc (own := [("_law_k", 2)]) (hc := rfl) (hN := sc_law_differs.nd) (ok := blkOk_by (show blkC ["_law_here", "_law_there", "_law_k"] (defScope st_law_differs) _ [("_law_k", 2)] = true by decide +kernel)) (hsub := by decide) (hi := ei_range1 (hm := (free_range hy)) (ha := ee_callB (hc := call_len_seq) (h := (o_len rfl)) (hm := (free_len hy)) (hv := by decide +kernel) (ha := ea_cons (ee_var 0) (ea_nil)))) (hg := fun _ _ _ _ _ => eg_name 2 sc_law_differs.nd) (ht := fun _ _ _ _ _ => et_one (eb_ne (hr := hr) (ha := ee_ix (ha := ee_var 0) (hb := ee_var 2)) (hb := ee_ix (ha := ee_var 1) (hb := ee_var 2)))) (he := fun _ _ _ _ _ => ee_var 2)))))⟩
end LW
end

section
set_option maxHeartbeats 4000000
namespace LW
open PySem L2 EV
theorem sc_law_walked : FnScope ["_law_land", "_law_drawn", "_law_state", "_law_moves", "_law_form_here", "_law_mills", "_law_pairs", "_law_passed", "_law_row_here", "_law_k", "_law_told", "_law_after", "_law_back"] ["_law_land", "_law_drawn", "_law_state", "_law_moves", "_law_form_here"] (defScope st_law_walked) := ⟨rfl, rfl, rfl, by decide +kernel, rfl, by decide +kernel, by decide +kernel⟩
def g_law_walked : FS := gSeq (gSet 5 (v2 ixD (vVar 1) (vC (.int 0)))) (gSeq (gSet 6 (v2 ixD (vVar 1) (vC (.int 1)))) (gSeq (gSet 7 (vCallP 2 0 [0, 1] sem_law_form [] (aCons (vVar 2) (aCons (v2 ixD (vVar 4) (vC (.int 1))) (aNil))) (aNil))) (gSeq (gSet 8 (vCallP 2 0 [0, 1] sem_law_form [] (aCons (vVar 3) (aCons (v2 ixD (vVar 4) (vC (.int 2))) (aNil))) (aNil))) (gSeq (gFor (iRange1 (vCall lenD (aCons (vVar 6) (aNil)))) (nmG 9) (gSeq (gSet 10 (vTup (aCons (vCallP 3 0 [0, 1, 2] sem_feeds [] (aCons (vVar 0) (aCons (vVar 7) (aCons (vVar 9) (aNil)))) (aNil)) (aCons (vCallP 0 3 [2, 1, 0] sem_feeds [] aNil (aCons (vVar 9) (aCons (vVar 7) (aCons (vVar 0) (aNil))))) (aNil))))) (gIf (v1 notD (vCallP 2 0 [0, 1] sem_law_same [] (aCons (vVar 10) (aCons (vL (nRep (vL (lenOk (aCons (v2 ixD (v2 ixD (vVar 6) (vVar 9)) (v2 ixD (vVar 2) (vVar 9))) (aNil)))) (vC (.int 2)))) (aNil))) (aNil))) (gRet (vC (.bl false))) (gNext)))) (gSeq (gSet 11 (vCallP 2 0 [0, 1] sem_law_turns [] (aCons (vVar 2) (aCons (vVar 3) (aNil))) (aNil))) (gSeq (gIf (vOr (v1 notD (vCallP 2 0 [0, 1] sem_law_same [] (aCons (vCallP 2 0 [0, 1] sem_turned [] (aCons (vVar 7) (aCons (vVar 8) (aNil))) (aNil)) (aCons (vVar 11) (aNil))) (aNil))) (v1 notD (vCallP 2 0 [0, 1] sem_law_same [] (aCons (vCallP 0 2 [1, 0] sem_turned [] aNil (aCons (vL (lenOk (aNil))) (aCons (vVar 7) (aNil)))) (aCons (vVar 2) (aNil))) (aNil)))) (gRet (vC (.bl false))) (gNext)) (gSeq (gSet 12 (vCallP 2 0 [0, 1] sem_law_form [] (aCons (vL (nLc (iRange1 (vCall lenD (aCons (vVar 3) (aNil)))) (nmG 9) (vYes) (v2 ixD (vVar 3) (v2 subD (v2 subD (vCall lenD (aCons (vVar 3) (aNil))) (vC (.int 1))) (vVar 9))) [9])) (aCons (v2 ixD (vVar 4) (vC (.int 3))) (aNil))) (aNil))) (gSeq (gIf (v1 notD (vCallP 2 0 [0, 1] sem_law_same [] (aCons (vCallP 2 0 [0, 1] sem_turned [] (aCons (vCallP 2 0 [0, 1] sem_law_form [] (aCons (vVar 11) (aCons (v2 ixD (vVar 4) (vC (.int 2))) (aNil))) (aNil)) (aCons (vVar 12) (aNil))) (aNil)) (aCons (vVar 2) (aNil))) (aNil))) (gRet (vC (.bl false))) (gNext)) (gSeq (gIf (v1 notD (vCallP 2 0 [0, 1] sem_law_same [] (aCons (vCallP 2 0 [0, 1] sem_fed [] (aCons (vVar 0) (aCons (vVar 7) (aNil))) (aNil)) (aCons (vCallP 3 0 [0, 1, 2] sem_law_fed [] (aCons (vVar 5) (aCons (vVar 6) (aCons (vVar 2) (aNil)))) (aNil)) (aNil))) (aNil))) (gRet (vC (.bl false))) (gNext)) (gSeq (gIf (v1 notD (vCallP 2 0 [0, 1] sem_law_same [] (aCons (vCallP 0 2 [1, 0] sem_fed [] aNil (aCons (vVar 11) (aCons (vVar 0) (aNil)))) (aCons (vCallP 3 0 [0, 1, 2] sem_law_fed [] (aCons (vVar 5) (aCons (vVar 6) (aCons (vVar 11) (aNil)))) (aNil)) (aNil))) (aNil))) (gRet (vC (.bl false))) (gNext)) (gSeq (gIf (v1 notD (vCallP 2 0 [0, 1] sem_law_same [] (aCons (vCallP 0 2 [1, 0] sem_differing [] aNil (aCons (vVar 11) (aCons (vVar 7) (aNil)))) (aCons (vCallP 2 0 [0, 1] sem_law_differs [] (aCons (vVar 2) (aCons (vVar 11) (aNil))) (aNil)) (aNil))) (aNil))) (gRet (vC (.bl false))) (gNext)) (gRet (vAnd (v2 eqD (vVar 7) (vCallP 2 0 [0, 1] sem_law_form [] (aCons (vVar 2) (aCons (v2 ixD (vVar 4) (vC (.int 1))) (aNil))) (aNil))) (v2 eqD (vVar 8) (vCallP 2 0 [0, 1] sem_law_form [] (aCons (vVar 3) (aCons (v2 ixD (vVar 4) (vC (.int 2))) (aNil))) (aNil))))))))))))))))
def sem_law_walked : List D → Option R := semF 13 g_law_walked
theorem ok_law_walked {P : Program} {w : World} {K : PySem.W.Frag} {mg : Str → Option Value} {base : Heap} (hy : Hyp K mg) : ∃ fd, FunD K d_law_walked.name d_law_walked.qual d_law_walked.params d_law_walked.body d_law_walked.scope (d_law_walked.dvs K) (d_law_walked.kws K) (He.fAd K d_law_walked.at_) fd ∧ FnOk P w K mg base (L2N.CX P w) 3 (He.fAd K d_law_walked.at_) fd ["_law_land", "_law_drawn", "_law_state", "_law_moves", "_law_form_here"] (spF (tab K) 5 (sem_law_walked)) := by
  obtain ⟨fd_law_form, F_law_form, G_law_form⟩ := ok_law_form (P := P) (w := w) (base := base) hy
  obtain ⟨fd_feeds, F_feeds, G_feeds⟩ := ok_feeds (P := P) (w := w) (base := base) hy
  obtain ⟨fd_law_same, F_law_same, G_law_same⟩ := ok_law_same (P := P) (w := w) (base := base) hy
  obtain ⟨fd_law_turns, F_law_turns, G_law_turns⟩ := ok_law_turns (P := P) (w := w) (base := base) hy
  obtain ⟨fd_turned, F_turned, G_turned⟩ := ok_turned (P := P) (w := w) (base := base) hy
  obtain ⟨fd_law_fed, F_law_fed, G_law_fed⟩ := ok_law_fed (P := P) (w := w) (base := base) hy
  obtain ⟨fd_fed, F_fed, G_fed⟩ := ok_fed (P := P) (w := w) (base := base) hy
  obtain ⟨fd_law_differs, F_law_differs, G_law_differs⟩ := ok_law_differs (P := P) (w := w) (base := base) hy
  obtain ⟨fd_differing, F_differing, G_differing⟩ := ok_differing (P := P) (w := w) (base := base) hy
  have ab_law_form_2_ : ArgB K fd_law_form ["_law_numbers", "_law_form_here"] 2 [] [] [0, 1] := ArgB.given F_law_form (fun kV doc pm an cdv ct us ws l1 l2 => match us, l1, ws, l2 with | [_, _], _, [], _ => rfl)
  have ab_feeds_0_sluice_setting_valley : ArgB K fd_feeds ["valley", "setting", "sluice"] 0 ["sluice", "setting", "valley"] [] [2, 1, 0] := ArgB.given F_feeds (fun kV doc pm an cdv ct us ws l1 l2 => match us, l1, ws, l2 with | [], _, [_, _, _], _ => rfl)
  have ab_feeds_3_ : ArgB K fd_feeds ["valley", "setting", "sluice"] 3 [] [] [0, 1, 2] := ArgB.given F_feeds (fun kV doc pm an cdv ct us ws l1 l2 => match us, l1, ws, l2 with | [_, _, _], _, [], _ => rfl)
  have ab_law_same_2_ : ArgB K fd_law_same ["_law_item", "_law_expected"] 2 [] [] [0, 1] := ArgB.given F_law_same (fun kV doc pm an cdv ct us ws l1 l2 => match us, l1, ws, l2 with | [_, _], _, [], _ => rfl)
  have ab_law_turns_2_ : ArgB K fd_law_turns ["_law_state", "_law_row_here"] 2 [] [] [0, 1] := ArgB.given F_law_turns (fun kV doc pm an cdv ct us ws l1 l2 => match us, l1, ws, l2 with | [_, _], _, [], _ => rfl)
  have ab_turned_2_ : ArgB K fd_turned ["setting", "turns"] 2 [] [] [0, 1] := ArgB.given F_turned (fun kV doc pm an cdv ct us ws l1 l2 => match us, l1, ws, l2 with | [_, _], _, [], _ => rfl)
  have ab_turned_0_turns_setting : ArgB K fd_turned ["setting", "turns"] 0 ["turns", "setting"] [] [1, 0] := ArgB.given F_turned (fun kV doc pm an cdv ct us ws l1 l2 => match us, l1, ws, l2 with | [], _, [_, _], _ => rfl)
  have ab_law_fed_3_ : ArgB K fd_law_fed ["_law_mills", "_law_pairs", "_law_state"] 3 [] [] [0, 1, 2] := ArgB.given F_law_fed (fun kV doc pm an cdv ct us ws l1 l2 => match us, l1, ws, l2 with | [_, _, _], _, [], _ => rfl)
  have ab_fed_2_ : ArgB K fd_fed ["valley", "setting"] 2 [] [] [0, 1] := ArgB.given F_fed (fun kV doc pm an cdv ct us ws l1 l2 => match us, l1, ws, l2 with | [_, _], _, [], _ => rfl)
  have ab_fed_0_setting_valley : ArgB K fd_fed ["valley", "setting"] 0 ["setting", "valley"] [] [1, 0] := ArgB.given F_fed (fun kV doc pm an cdv ct us ws l1 l2 => match us, l1, ws, l2 with | [], _, [_, _], _ => rfl)
  have ab_law_differs_2_ : ArgB K fd_law_differs ["_law_here", "_law_there"] 2 [] [] [0, 1] := ArgB.given F_law_differs (fun kV doc pm an cdv ct us ws l1 l2 => match us, l1, ws, l2 with | [_, _], _, [], _ => rfl)
  have ab_differing_0_two_one : ArgB K fd_differing ["one", "two"] 0 ["two", "one"] [] [1, 0] := ArgB.given F_differing (fun kV doc pm an cdv ct us ws l1 l2 => match us, l1, ws, l2 with | [], _, [_, _], _ => rfl)
  obtain ⟨fd, F⟩ := hy.says.fn (21) (d := d_law_walked) rfl
  exact ⟨fd, F, fn_ev F sc_law_walked fun cdv A outer s H E hr => (ss_cons (ss_set 5 (hN := sc_law_walked.nd) (he := ee_ix (ha := ee_var 1) (hb := ee_int))) (ss_cons (ss_set 6 (hN := sc_law_walked.nd) (he := ee_ix (ha := ee_var 1) (hb := ee_int))) (ss_cons (ss_set 7 (hN := sc_law_walked.nd) (he := ee_callP (F := G_law_form) (hr := hr.mono (by decide)) (hm := glo__law_form hy) (hk := F_law_form.kp) (hb := ab_law_form_2_) (tk := (L2N.takes_of rfl rfl rfl rfl)) (hp := rfl) (hmx := by decide) (hdd := fun _ => .nil) (ha := ea_cons (ee_var 2) (ea_cons (ee_ix (ha := ee_var 4) (hb := ee_int)) (ea_nil))) (hkw := ek_nil))) (ss_cons (ss_set 8 (hN := sc_law_walked.nd) (he := ee_callP (F := G_law_form) (hr := hr.mono (by decide)) (hm := glo__law_form hy) (hk := F_law_form.kp) (hb := ab_law_form_2_) (tk := (L2N.takes_of rfl rfl rfl rfl)) (hp := rfl) (hmx := by decide) (hdd := fun _ => .nil) (ha := ea_cons (ee_var 3) (ea_cons (ee_ix (ha := ee_var 4) (hb := ee_int)) (ea_nil))) (hkw := ek_nil))) (ss_cons (ss_for (hp := (passes_of rfl)) (hc := rfl) (hi := ei_range1 (hm := (free_range hy)) (ha := ee_callB (hc := call_len_seq) (h := (o_len rfl)) (hm := (free_len hy)) (hv := by decide +kernel) (ha := ea_cons (ee_var 6) (ea_nil)))) (hg := eg_name 9 sc_law_walked.nd) (hb := ss_cons (ss_set 10 (hN := sc_law_walked.nd) (he := ee_tup (ea_cons (ee_callP (F := G_feeds) (hr := hr.mono (by decide)) (hm := glo_feeds hy) (hk := F_feeds.kp) (hb := ab_feeds_3_) (tk := (L2N.takes_of rfl rfl rfl rfl)) (hp := rfl) (hmx := by decide) (hdd := fun _ => .nil) (ha := ea_cons (ee_var 0) (ea_cons (ee_var 7) (ea_cons (ee_var 9) (ea_nil)))) (hkw := ek_nil)) (ea_cons (ee_callP0 (F := G_feeds) (hr := hr.mono (by decide)) (hm := glo_feeds hy) (hk := F_feeds.kp) (hb := ab_feeds_0_sluice_setting_valley) (tk := (L2N.takes_of rfl rfl rfl rfl)) (hp := rfl) (hmx := by decide) (hdd := fun _ => .nil) (hkw := ek_cons (ee_var 9) (ek_cons (ee_var 7) (ek_cons (ee_var 0) (ek_nil))))) (ea_nil))))) (ss_one (ss_if (eb_not (eb_val (ee_callP (F := G_law_same) (hr := hr.mono (by decide)) (hm := glo__law_same hy) (hk := F_law_same.kp) (hb := ab_law_same_2_) (tk := (L2N.takes_of rfl rfl rfl rfl)) (hp := rfl) (hmx := by decide) (hdd := fun _ => .nil) (ha := ea_cons (ee_var 10) (ea_cons (en_ee (en_rep (ha := en_ee (en_lst (ea_cons (ee_ix (ha := ee_ix (ha := ee_var 6) (hb := ee_var 9)) (hb := ee_ix (ha := ee_var 2) (hb := ee_var 9))) (ea_nil)))) (hb := ee_int))) (ea_nil))) (hkw := ek_nil)))) (ss_one (ss_ret (ee_bl))) (ss_nil))))) (ss_cons (ss_set 11 (hN := sc_law_walked.nd) (he := ee_callP (F := G_law_turns) (hr := hr.mono (by decide)) (hm := glo__law_turns hy) (hk := F_law_turns.kp) (hb := ab_law_turns_2_) (tk := (L2N.takes_of rfl rfl rfl rfl)) (hp := rfl) (hmx := by decide) (hdd := fun _ => .nil) (ha := ea_cons (ee_var 2) (ea_cons (ee_var 3) (ea_nil))) (hkw := ek_nil))) (ss_cons (ss_if (eb_w (ew_or (eb_not (eb_val (ee_callP (F := G_law_same) (hr := hr.mono (by decide)) (hm := glo__law_same hy) (hk := F_law_same.kp) (hb := ab_law_same_2_) (tk := (L2N.takes_of rfl rfl rfl rfl)) (hp := rfl) (hmx := by decide) (hdd := fun _ => .nil) (ha := ea_cons (ee_callP (F := G_turned) (hr := hr.mono (by decide)) (hm := glo_turned hy) (hk := F_turned.kp) (hb := ab_turned_2_) (tk := (L2N.takes_of rfl rfl rfl rfl)) (hp := rfl) (hmx := by decide) (hdd := fun _ => .nil) (ha := ea_cons (ee_var 7) (ea_cons (ee_var 8) (ea_nil))) (hkw := ek_nil)) (ea_cons (ee_var 11) (ea_nil))) (hkw := ek_nil)))) (ew_or1 (eb_not (eb_val (ee_callP (F := G_law_same) (hr := hr.mono (by decide)) (hm := glo__law_same hy) (hk := F_law_same.kp) (hb := ab_law_same_2_) (tk := (L2N.takes_of rfl rfl rfl rfl)) (hp := rfl) (hmx := by decide) (hdd := fun _ => .nil) (ha := ea_cons (ee_callP0 (F := G_turned) (hr := hr.mono (by decide)) (hm := glo_turned hy) (hk := F_turned.kp) (hb := ab_turned_0_turns_setting) (tk := (L2N.takes_of rfl rfl rfl rfl)) (hp := rfl) (hmx := by decide) (hdd := fun _ => .nil) (hkw := ek_cons (en_ee (en_lst (ea_nil))) (ek_cons (ee_var 7) (ek_nil)))) (ea_cons (ee_var 2) (ea_nil))) (hkw := ek_nil))))))) (ss_one (ss_ret (ee_bl))) (ss_nil)) (ss_cons (ss_set 12 (hN := sc_law_walked.nd) (he := ee_callP (F := G_law_form) (hr := hr.mono (by decide)) (hm := glo__law_form hy) (hk := F_law_form.kp) (hb := ab_law_form_2_) (tk := (L2N.takes_of rfl rfl rfl rfl)) (hp := rfl) (hmx := by decide) (hdd := fun _ => .nil) (ha := ea_cons (en_ee (en_lc (own := [("_law_k", 9)]) (hc := rfl) (hN := sc_law_walked.nd) (ok := blkOk_by (show blkC ["_law_land", "_law_drawn", "_law_state", "_law_moves", "_law_form_here", "_law_mills", "_law_pairs", "_law_passed", "_law_row_here", "_law_k", "_law_told", "_law_after", "_law_back"] (defScope st_law_walked) _ [("_law_k", 9)] = true by decide +kernel)) (hsub := by decide) (hi := ei_range1 (hm := (free_range hy)) (ha := ee_callB (hc := call_len_seq) (h := (o_len rfl)) (hm := (free_len hy)) (hv := by decide +kernel) (ha := ea_cons (ee_var 3) (ea_nil)))) (hg := fun _ _ _ _ _ => eg_name 9 sc_law_walked.nd) (ht := fun _ _ _ _ _ => et_nil) (he := fun _ _ _ _ _ => ee_ix (ha := ee_var 3) (hb := ee_sub (ha := ee_sub (ha := ee_callB (hc := call_len_seq) (h := (o_len rfl)) (hm := (free_len hy)) (hv := by decide +kernel) (ha := ea_cons (ee_var 3) (ea_nil))) (hb := ee_int)) (hb := ee_var 9))))) (ea_cons (ee_ix (ha := ee_var 4) (hb := ee_int)) (ea_nil))) (hkw := ek_nil))) (ss_cons (ss_if (eb_not (eb_val (ee_callP (F := G_law_same) (hr := hr.mono (by decide)) (hm := glo__law_same hy) (hk := F_law_same.kp) (hb := ab_law_same_2_) (tk := (L2N.takes_of rfl rfl rfl rfl)) (hp := rfl) (hmx := by decide) (hdd := fun _ => .nil) (ha := ea_cons (ee_callP (F := G_turned) (hr := hr.mono (by decide)) (hm := glo_turned hy) (hk := F_turned.kp) (hb := ab_turned_2_) (tk := (L2N.takes_of rfl rfl rfl rfl)) (hp := rfl) (hmx := by decide) (hdd := fun _ => .nil) (ha := ea_cons (ee_callP (F := G_law_form) (hr := hr.mono (by decide)) (hm := glo__law_form hy) (hk := F_law_form.kp) (hb := ab_law_form_2_) (tk := (L2N.takes_of rfl rfl rfl rfl)) (hp := rfl) (hmx := by decide) (hdd := fun _ => .nil) (ha := ea_cons (ee_var 11) (ea_cons (ee_ix (ha := ee_var 4) (hb := ee_int)) (ea_nil))) (hkw := ek_nil)) (ea_cons (ee_var 12) (ea_nil))) (hkw := ek_nil)) (ea_cons (ee_var 2) (ea_nil))) (hkw := ek_nil)))) (ss_one (ss_ret (ee_bl))) (ss_nil)) (ss_cons (ss_if (eb_not (eb_val (ee_callP (F := G_law_same) (hr := hr.mono (by decide)) (hm := glo__law_same hy) (hk := F_law_same.kp) (hb := ab_law_same_2_) (tk := (L2N.takes_of rfl rfl rfl rfl)) (hp := rfl) (hmx := by decide) (hdd := fun _ => .nil) (ha := ea_cons (ee_callP (F := G_fed) (hr := hr.mono (by decide)) (hm := glo_fed hy) (hk := F_fed.kp) (hb := ab_fed_2_) (tk := (L2N.takes_of rfl rfl rfl rfl)) (hp := rfl) (hmx := by decide) (hdd := fun _ => .nil) (ha := ea_cons (ee_var 0) (ea_cons (ee_var 7) (ea_nil))) (hkw := ek_nil)) (ea_cons (ee_callP (F := G_law_fed) (hr := hr.mono (by decide)) (hm := glo__law_fed hy) (hk := F_law_fed.kp) (hb := ab_law_fed_3_) (tk := (L2N.takes_of rfl rfl rfl rfl)) (hp := rfl) (hmx := by decide) (hdd := fun _ => .nil) (ha := ea_cons (ee_var 5) (ea_cons (ee_var 6) (ea_cons (ee_var 2) (ea_nil)))) (hkw := ek_nil)) (ea_nil))) (hkw := ek_nil)))) (ss_one (ss_ret (ee_bl))) (ss_nil)) (ss_cons (ss_if (eb_not (eb_val (ee_callP (F := G_law_same) (hr := hr.mono (by decide)) (hm := glo__law_same hy) (hk := F_law_same.kp) (hb := ab_law_same_2_) (tk := (L2N.takes_of rfl rfl rfl rfl)) (hp := rfl) (hmx := by decide) (hdd := fun _ => .nil) (ha := ea_cons (ee_callP0 (F := G_fed) (hr := hr.mono (by decide)) (hm := glo_fed hy) (hk := F_fed.kp) (hb := ab_fed_0_setting_valley) (tk := (L2N.takes_of rfl rfl rfl rfl)) (hp := rfl) (hmx := by decide) (hdd := fun _ => .nil) (hkw := ek_cons (ee_var 11) (ek_cons (ee_var 0) (ek_nil)))) (ea_cons (ee_callP (F := G_law_fed) (hr := hr.mono (by decide)) (hm := glo__law_fed hy) (hk := F_law_fed.kp) (hb := ab_law_fed_3_) (tk := (L2N.takes_of rfl rfl rfl rfl)) (hp := rfl) (hmx := by decide) (hdd := fun _ => .nil) (ha := ea_cons (ee_var 5) (ea_cons (ee_var 6) (ea_cons (ee_var 11) (ea_nil)))) (hkw := ek_nil)) (ea_nil))) (hkw := ek_nil)))) (ss_one (ss_ret (ee_bl))) (ss_nil)) (ss_cons (ss_if (eb_not (eb_val (ee_callP (F := G_law_same) (hr := hr.mono (by decide)) (hm := glo__law_same hy) (hk := F_law_same.kp) (hb := ab_law_same_2_) (tk := (L2N.takes_of rfl rfl rfl rfl)) (hp := rfl) (hmx := by decide) (hdd := fun _ => .nil) (ha := ea_cons (ee_callP0 (F := G_differing) (hr := hr.mono (by decide)) (hm := glo_differing hy) (hk := F_differing.kp) (hb := ab_differing_0_two_one) (tk := (L2N.takes_of rfl rfl rfl rfl)) (hp := rfl) (hmx := by decide) (hdd := fun _ => .nil) (hkw := ek_cons (ee_var 11) (ek_cons (ee_var 7) (ek_nil)))) (ea_cons (ee_callP (F := G_law_differs) (hr := hr.mono (by decide)) (hm := glo__law_differs hy) (hk := F_law_differs.kp) (hb := ab_law_differs_2_) (tk := (L2N.takes_of rfl rfl rfl rfl)) (hp := rfl) (hmx := by decide) (hdd := fun _ => .nil) (ha := ea_cons (ee_var 2) (ea_cons (ee_var 11) (ea_nil))) (hkw := ek_nil)) (ea_nil))) (hkw := ek_nil)))) (ss_one (ss_ret (ee_bl))) (ss_nil)) (ss_one (ss_ret (ee_and (ee_eq (hr := hr) (ha := ee_var 7) (hb := ee_callP (F := G_law_form) (hr := hr.mono (by decide)) (hm := glo__law_form hy) (hk := F_law_form.kp) (hb := ab_law_form_2_) (tk := (L2N.takes_of rfl rfl rfl rfl)) (hp := rfl) (hmx := by decide) (hdd := fun _ => .nil) (ha := ea_cons (ee_var 2) (ea_cons (ee_ix (ha := ee_var 4) (hb := ee_int)) (ea_nil))) (hkw := ek_nil))) (ee_one (ee_eq (hr := hr) (ha := ee_var 8) (hb := ee_callP (F := G_law_form) (hr := hr.mono (by decide)) (hm := glo__law_form hy) (hk := F_law_form.kp) (hb := ab_law_form_2_) (tk := (L2N.takes_of rfl rfl rfl rfl)) (hp := rfl) (hmx := by decide) (hdd := fun _ => .nil) (ha := ea_cons (ee_var 3) (ea_cons (ee_ix (ha := ee_var 4) (hb := ee_int)) (ea_nil))) (hkw := ek_nil)))))))))))))))))))⟩
end LW
end

section
set_option maxHeartbeats 4000000
namespace LW
open PySem L2 EV
theorem sc_law_settings : FnScope ["_law_many", "_law_grown", "_law_k", "_law_longer", "_law_state"] ["_law_many"] (defScope st_law_settings) := ⟨rfl, rfl, rfl, by decide +kernel, rfl, by decide +kernel, by decide +kernel⟩
def g_law_settings : FS := gSeq (gSet 1 (vL (lenOk (aCons (vTup (aNil)) (aNil))))) (gSeq (gFor (iRange1 (vVar 0)) (nmG 2) (gSeq (gOwn 3 (lenOk (aNil))) (gSeq (gFor (iSeq (vVar 1)) (nmG 4) (gSeq (gAppO 3 (gApp 3 (v2 addD (vVar 4) (vTup (aCons (vC (.int 0)) (aNil)))))) (gAppO 3 (gApp 3 (v2 addD (vVar 4) (vTup (aCons (vC (.int 1)) (aNil)))))))) (gThenRel 1 (gOwnA 1 (nCall listD (aCons (vVar 3) (aNil)))))))) (gRet (vVar 1)))
def sem_law_settings : List D → Option R := semF 5 g_law_settings
theorem ok_law_settings {P : Program} {w : World} {K : PySem.W.Frag} {mg : Str → Option Value} {base : Heap} (hy : Hyp K mg) : ∃ fd, FunD K d_law_settings.name d_law_settings.qual d_law_settings.params d_law_settings.body d_law_settings.scope (d_law_settings.dvs K) (d_law_settings.kws K) (He.fAd K d_law_settings.at_) fd ∧ FnOk P w K mg base (L2N.CX P w) 1 (He.fAd K d_law_settings.at_) fd ["_law_many"] (spF (tab K) 1 (sem_law_settings)) := by
  obtain ⟨fd, F⟩ := hy.says.fn (22) (d := d_law_settings) rfl
  exact ⟨fd, F, fn_ev F sc_law_settings fun cdv A outer s H E hr => (ss_cons (ss_set 1 (hN := sc_law_settings.nd) (he := en_ee (en_lst (ea_cons (ee_tup (ea_nil)) (ea_nil))))) (ss_cons (ss_for (hp := (passes_of rfl)) (hc := rfl) (hi := ei_range1 (hm := (free_range hy)) (ha := ee_var 0)) (hg := eg_name 2 sc_law_settings.nd) (hb := ss_cons (ss_own 3 (hN := sc_law_settings.nd) (he := en_lst (ea_nil))) (ss_cons (ss_for (hp := (passes_of rfl)) (hc := rfl) (hi := ei_seq (he := ee_var 1)) (hg := eg_name 4 sc_law_settings.nd) (hb := ss_cons (ss_app 3 (he := ee_add (ha := ee_var 4) (hb := ee_tup (ea_cons (ee_int) (ea_nil))))) (ss_one (ss_app 3 (he := ee_add (ha := ee_var 4) (hb := ee_tup (ea_cons (ee_int) (ea_nil)))))))) (ss_one (ss_thenRel 1 (ss_ownA 1 (hN := sc_law_settings.nd) (he := en_callT (hc := call_list_of) (h := (o_list rfl)) (hm := (free_list hy)) (hv := by decide +kernel) (ha := ea_cons (ee_var 3) (ea_nil))))))))) (ss_one (ss_ret (ee_var 1)))))⟩
end LW
end

section
set_option maxHeartbeats 4000000
namespace LW
open PySem L2 EV
theorem sc_settings : GScope ["valley", "rows", "_", "row", "side"] ["valley"] (defScope st_settings) := ⟨rfl, rfl, rfl, by decide +kernel, rfl, by decide +kernel, by decide +kernel⟩
def g_settings : GFS := zSeq (zPl (gSet 1 (vL (lenOk (aCons (vTup (aNil)) (aNil)))))) (zSeq (zPl (gFor (iSeq (v1 (fldD 7 1) (vVar 0))) (nmG 2) (gSet 1 (vL (nLc2 (iSeq (vVar 1)) (nmG 3) (vYes) (iSeq (vTup (aCons (vC (.int 0)) (aCons (vC (.int 1)) (aNil))))) (nmG 4) (vYes) (v2 addD (vVar 3) (vTup (aCons (vVar 4) (aNil)))) [3, 4] [4]))))) (zSeq (zFrom (vVar 1)) (zNil)))
def sem_settings : List D → Option RL := semG 5 g_settings
theorem ok_settings {P : Program} {w : World} {K : PySem.W.Frag} {mg : Str → Option Value} {base : Heap} (hy : Hyp K mg) : ∃ fd, FunD K d_settings.name d_settings.qual d_settings.params d_settings.body d_settings.scope (d_settings.dvs K) (d_settings.kws K) (He.fAd K d_settings.at_) fd ∧ GnOk P w K mg base (tab K) 1 (He.fAd K d_settings.at_) fd ["valley"] sem_settings := by
  obtain ⟨fd, F⟩ := hy.says.fn (23) (d := d_settings) rfl
  exact ⟨fd, F, gfn_ev F sc_settings fun cdv A outer lc ga gn go rx hr => (gz_seq (gz_pl (fun s H E => ss_set 1 (hN := sc_settings.nd) (he := en_ee (en_lst (ea_cons (ee_tup (ea_nil)) (ea_nil)))))) (gz_seq (gz_pl (fun s H E => ss_for (hp := fam_owns) (hc := rfl) (hi := ei_seq (he := ee_fld (F := fld_Valley_sluices hy) (ha := ee_var 0))) (hg := eg_name 2 sc_settings.nd) (hb := ss_one (ss_lc_v (ps_lcs2 (i := 1) (hy := rfl) (hyl := rfl) (hsw := sw_true rfl rfl rfl (by decide +kernel)) (own := [("row", 3), ("side", 4)]) (vs1 := [4]) (hc := rfl) (hN := sc_settings.nd) (ok := blkOk_by (show blkC ["valley", "rows", "_", "row", "side"] (defScope st_settings) _ [("row", 3), ("side", 4)] = true by decide +kernel)) (hv := by decide) (hi := ei_seq (he := ee_var 1)) (hg := fun _ _ _ _ _ => eg_name 3 sc_settings.nd) (ht := fun _ _ _ _ _ => et_nil) (hi1 := fun _ _ _ _ _ => ei_seq (he := ee_tup (ea_cons (ee_int) (ea_cons (ee_int) (ea_nil))))) (hg1 := fun _ _ _ _ _ => eg_name 4 sc_settings.nd) (ht1 := fun _ _ _ _ _ => et_nil) (he := fun _ _ _ _ _ => ee_add (ha := ee_var 3) (hb := ee_tup (ea_cons (ee_var 4) (ea_nil))))) (w_lc2 (by decide) (by decide)))))) (gz_seq (gz_yfrom (fun s H E => ee_var 1)) (gz_nil))))⟩
end LW
end

section
set_option maxHeartbeats 4000000
namespace LW
open PySem L2 EV
theorem sc_law_same_rows : FnScope ["_law_item", "_law_expected", "_law_k"] ["_law_item", "_law_expected"] (defScope st_law_same_rows) := ⟨rfl, rfl, rfl, by decide +kernel, rfl, by decide +kernel, by decide +kernel⟩
def g_law_same_rows : FS := gSeq (gIf (vOr (v1 notD (v1 (isD [.tup]) (vVar 0))) (v2 neD (vCall lenD (aCons (vVar 0) (aNil))) (vCall lenD (aCons (vVar 1) (aNil))))) (gRet (vC (.bl false))) (gNext)) (gSeq (gFor (iRange1 (vCall lenD (aCons (vVar 1) (aNil)))) (nmG 2) (gIf (v1 notD (vCallP 2 0 [0, 1] sem_law_same [] (aCons (v2 ixD (vVar 0) (vVar 2)) (aCons (v2 ixD (vVar 1) (vVar 2)) (aNil))) (aNil))) (gRet (vC (.bl false))) (gNext))) (gRet (vC (.bl true))))
def sem_law_same_rows : List D → Option R := semF 3 g_law_same_rows
theorem ok_law_same_rows {P : Program} {w : World} {K : PySem.W.Frag} {mg : Str → Option Value} {base : Heap} (hy : Hyp K mg) : ∃ fd, FunD K d_law_same_rows.name d_law_same_rows.qual d_law_same_rows.params d_law_same_rows.body d_law_same_rows.scope (d_law_same_rows.dvs K) (d_law_same_rows.kws K) (He.fAd K d_law_same_rows.at_) fd ∧ FnOk P w K mg base (L2N.CX P w) 3 (He.fAd K d_law_same_rows.at_) fd ["_law_item", "_law_expected"] (spF (tab K) 2 (sem_law_same_rows)) := by
  obtain ⟨fd_law_same, F_law_same, G_law_same⟩ := ok_law_same (P := P) (w := w) (base := base) hy
  have ab_law_same_2_ : ArgB K fd_law_same ["_law_item", "_law_expected"] 2 [] [] [0, 1] := ArgB.given F_law_same (fun kV doc pm an cdv ct us ws l1 l2 => match us, l1, ws, l2 with | [_, _], _, [], _ => rfl)
  obtain ⟨fd, F⟩ := hy.says.fn (24) (d := d_law_same_rows) rfl
  exact ⟨fd, F, fn_ev F sc_law_same_rows fun cdv A outer s H E hr => (ss_cons (ss_if (eb_w (ew_or (eb_not (eb_val (ee_isi .tup (hm := (free_isinstance hy)) (hmy := (free_tuple hy)) (hvy := by decide +kernel) (ha := ee_var 0)))) (ew_or1 (eb_ne (hr := hr) (ha := ee_callB (hc := call_len_seq) (h := (o_len rfl)) (hm := (free_len hy)) (hv := by decide +kernel) (ha := ea_cons (ee_var 0) (ea_nil))) (hb := ee_callB (hc := call_len_seq) (h := (o_len rfl)) (hm := (free_len hy)) (hv := by decide +kernel) (ha := ea_cons (ee_var 1) (ea_nil))))))) (ss_one (ss_ret (ee_bl))) (ss_nil)) (ss_cons (ss_for (hp := (passes_of rfl)) (hc := rfl) (hi := ei_range1 (hm := (free_range hy)) (ha := ee_callB (hc := call_len_seq) (h := (o_len rfl)) (hm := (free_len hy)) (hv := by decide +kernel) (ha := ea_cons (ee_var 1) (ea_nil)))) (hg := eg_name 2 sc_law_same_rows.nd) (hb := ss_one (ss_if (eb_not (eb_val (ee_callP (F := G_law_same) (hr := hr.mono (by decide)) (hm := glo__law_same hy) (hk := F_law_same.kp) (hb := ab_law_same_2_) (tk := (L2N.takes_of rfl rfl rfl rfl)) (hp := rfl) (hmx := by decide) (hdd := fun _ => .nil) (ha := ea_cons (ee_ix (ha := ee_var 0) (hb := ee_var 2)) (ea_cons (ee_ix (ha := ee_var 1) (hb := ee_var 2)) (ea_nil))) (hkw := ek_nil)))) (ss_one (ss_ret (ee_bl))) (ss_nil)))) (ss_one (ss_ret (ee_bl)))))⟩
end LW
end

section
set_option maxHeartbeats 4000000
namespace LW
open PySem L2 EV
theorem sc_law_listed : FnScope ["_law_land", "_law_many", "_law_by_name", "_law_due", "_law_begun", "_law_state", "_law_told"] ["_law_land", "_law_many", "_law_by_name"] (defScope st_law_listed) := ⟨rfl, rfl, rfl, by decide +kernel, rfl, by decide +kernel, by decide +kernel⟩
def g_law_listed : FS := gSeq (gSet 3 (vCallP 1 0 [0] sem_law_settings [] (aCons (vVar 1) (aNil)) (aNil))) (gSeq (gOwn 4 (lenOk (aNil))) (gSeq (gForG [] (zCallP 1 0 [0] sem_settings [] (aCons (vVar 0) (aNil)) (aNil)) (nmG 5) (gSeq (gAppO 4 (gApp 4 (vVar 5))) (gIfA (v2 gtD (vCall lenD (aCons (vVar 4) (aNil))) (v2 fdivD (vVar 1) (vC (.int 2)))) (gBrk) (gNext)))) (gSeq (gRel 4 (gIf (v1 notD (vCallP 2 0 [0, 1] sem_law_same_rows [] (aCons (vCall tupleD (aCons (vVar 4) (aNil))) (aCons (vSlice (vVar 3) (oNone) (oSome (v2 addD (v2 fdivD (vVar 1) (vC (.int 2))) (vC (.int 1))))) (aNil))) (aNil))) (gRet (vC (.bl false))) (gNext))) (gSeq (gOwn 6 (lenOk (aNil))) (gSeq (gIf (vVar 2) (gForG [] (zCallP 0 1 [0] sem_settings [] aNil (aCons (vVar 0) (aNil))) (nmG 5) (gSeq (gAppO 6 (gApp 6 (vVar 5))) (gIfA (v2 gtD (vCall lenD (aCons (vVar 6) (aNil))) (vCall lenD (aCons (vVar 3) (aNil)))) (gBrk) (gNext)))) (gForG [] (zCallP 1 0 [0] sem_settings [] (aCons (vVar 0) (aNil)) (aNil)) (nmG 5) (gSeq (gAppO 6 (gApp 6 (vVar 5))) (gIfA (v2 gtD (vCall lenD (aCons (vVar 6) (aNil))) (vCall lenD (aCons (vVar 3) (aNil)))) (gBrk) (gNext))))) (gRel 6 (gRet (vCallP 2 0 [0, 1] sem_law_same_rows [] (aCons (vCall tupleD (aCons (vVar 6) (aNil))) (aCons (vVar 3) (aNil))) (aNil)))))))))
def sem_law_listed : List D → Option R := semF 7 g_law_listed
theorem ok_law_listed {P : Program} {w : World} {K : PySem.W.Frag} {mg : Str → Option Value} {base : Heap} (hy : Hyp K mg) : ∃ fd, FunD K d_law_listed.name d_law_listed.qual d_law_listed.params d_law_listed.body d_law_listed.scope (d_law_listed.dvs K) (d_law_listed.kws K) (He.fAd K d_law_listed.at_) fd ∧ FnOk P w K mg base (L2N.CX P w) 6 (He.fAd K d_law_listed.at_) fd ["_law_land", "_law_many", "_law_by_name"] (spF (tab K) 3 (sem_law_listed)) := by
  obtain ⟨fd_law_settings, F_law_settings, G_law_settings⟩ := ok_law_settings (P := P) (w := w) (base := base) hy
  obtain ⟨fd_settings, F_settings, G_settings⟩ := ok_settings (P := P) (w := w) (base := base) hy
  obtain ⟨fd_law_same_rows, F_law_same_rows, G_law_same_rows⟩ := ok_law_same_rows (P := P) (w := w) (base := base) hy
  have ab_law_settings_1_ : ArgB K fd_law_settings ["_law_many"] 1 [] [] [0] := ArgB.given F_law_settings (fun kV doc pm an cdv ct us ws l1 l2 => match us, l1, ws, l2 with | [_], _, [], _ => rfl)
  have ab_settings_1_ : ArgB K fd_settings ["valley"] 1 [] [] [0] := ArgB.given F_settings (fun kV doc pm an cdv ct us ws l1 l2 => match us, l1, ws, l2 with | [_], _, [], _ => rfl)
  have ab_law_same_rows_2_ : ArgB K fd_law_same_rows ["_law_item", "_law_expected"] 2 [] [] [0, 1] := ArgB.given F_law_same_rows (fun kV doc pm an cdv ct us ws l1 l2 => match us, l1, ws, l2 with | [_, _], _, [], _ => rfl)
  have ab_settings_0_valley : ArgB K fd_settings ["valley"] 0 ["valley"] [] [0] := ArgB.given F_settings (fun kV doc pm an cdv ct us ws l1 l2 => match us, l1, ws, l2 with | [], _, [_], _ => rfl)
  obtain ⟨fd, F⟩ := hy.says.fn (25) (d := d_law_listed) rfl
  exact ⟨fd, F, fn_ev F sc_law_listed fun cdv A outer s H E hr => (ss_cons (ss_set 3 (hN := sc_law_listed.nd) (he := ee_callP (F := G_law_settings) (hr := hr.mono (by decide)) (hm := glo__law_settings hy) (hk := F_law_settings.kp) (hb := ab_law_settings_1_) (tk := (L2N.takes_of rfl rfl rfl rfl)) (hp := rfl) (hmx := by decide) (hdd := fun _ => .nil) (ha := ea_cons (ee_var 1) (ea_nil)) (hkw := ek_nil))) (ss_cons (ss_own 4 (hN := sc_law_listed.nd) (he := en_lst (ea_nil))) (ss_cons (ss_forG [] (xg := xeG_cx) (hp := (passes_of rfl)) (hc := rfl) (tk := (L2N.takes_of rfl rfl rfl rfl)) (hns := fun _ h => nomatch h) (hr := hr.mono (by decide)) (hi := gn_callP (F := G_settings) (hnp := rfl) (hr := hr.mono (by decide)) (hm := glo_settings hy) (hk := F_settings.kp) (hb := ab_settings_1_) (hp := rfl) (hmx := by decide) (hdd := fun _ => .nil) (ha := ea_cons (ee_var 0) (ea_nil)) (hkw := ek_nil)) (hg := eg_name 5 sc_law_listed.nd) (hb := ss_cons (ss_app 4 (he := ee_var 5)) (ss_one (ss_ifA (eb_gt (ha := ee_callB (hc := call_len_seq) (h := (o_len rfl)) (hm := (free_len hy)) (hv := by decide +kernel) (ha := ea_cons (ee_var 4) (ea_nil))) (hb := ee_fdiv (ha := ee_var 1) (hb := ee_int))) (ss_one (ss_brk)) (ss_nil))))) (ss_cons (ss_rel 4 (ss_if (eb_not (eb_val (ee_callP (F := G_law_same_rows) (hr := hr.mono (by decide)) (hm := glo__law_same_rows hy) (hk := F_law_same_rows.kp) (hb := ab_law_same_rows_2_) (tk := (L2N.takes_of rfl rfl rfl rfl)) (hp := rfl) (hmx := by decide) (hdd := fun _ => .nil) (ha := ea_cons (ee_callT (hc := call_tuple_of) (h := (o_tuple rfl)) (hm := (free_tuple hy)) (hv := by decide +kernel) (ha := ea_cons (ee_var 4) (ea_nil))) (ea_cons (ee_slice (ha := ee_var 3) (hl := eo_none) (hu := (eo_some (ee_add (ha := ee_fdiv (ha := ee_var 1) (hb := ee_int)) (hb := ee_int))))) (ea_nil))) (hkw := ek_nil)))) (ss_one (ss_ret (ee_bl))) (ss_nil))) (ss_cons (ss_own 6 (hN := sc_law_listed.nd) (he := en_lst (ea_nil))) (ss_cons (ss_if (eb_val (ee_var 2)) (ss_one (ss_forG [] (xg := xeG_cx) (hp := (passes_of rfl)) (hc := rfl) (tk := (L2N.takes_of rfl rfl rfl rfl)) (hns := fun _ h => nomatch h) (hr := hr.mono (by decide)) (hi := gn_callP0 (F := G_settings) (hnp := rfl) (hr := hr.mono (by decide)) (hm := glo_settings hy) (hk := F_settings.kp) (hb := ab_settings_0_valley) (hp := rfl) (hmx := by decide) (hdd := fun _ => .nil) (hkw := ek_cons (ee_var 0) (ek_nil))) (hg := eg_name 5 sc_law_listed.nd) (hb := ss_cons (ss_app 6 (he := ee_var 5)) (ss_one (ss_ifA (eb_gt (ha := ee_callB (hc := call_len_seq) (h := (o_len rfl)) (hm := (free_len hy)) (hv := by decide +kernel) (ha := ea_cons (ee_var 6) (ea_nil))) (hb := ee_callB (hc := call_len_seq) (h := (o_len rfl)) (hm := (free_len hy)) (hv := by decide +kernel) (ha := ea_cons (ee_var 3) (ea_nil)))) (ss_one (ss_brk)) (ss_nil)))))) (ss_one (ss_forG [] (xg := xeG_cx) (hp := (passes_of rfl)) (hc := rfl) (tk := (L2N.takes_of rfl rfl rfl rfl)) (hns := fun _ h => nomatch h) (hr := hr.mono (by decide)) (hi := gn_callP (F := G_settings) (hnp := rfl) (hr := hr.mono (by decide)) (hm := glo_settings hy) (hk := F_settings.kp) (hb := ab_settings_1_) (hp := rfl) (hmx := by decide) (hdd := fun _ => .nil) (ha := ea_cons (ee_var 0) (ea_nil)) (hkw := ek_nil)) (hg := eg_name 5 sc_law_listed.nd) (hb := ss_cons (ss_app 6 (he := ee_var 5)) (ss_one (ss_ifA (eb_gt (ha := ee_callB (hc := call_len_seq) (h := (o_len rfl)) (hm := (free_len hy)) (hv := by decide +kernel) (ha := ea_cons (ee_var 6) (ea_nil))) (hb := ee_callB (hc := call_len_seq) (h := (o_len rfl)) (hm := (free_len hy)) (hv := by decide +kernel) (ha := ea_cons (ee_var 3) (ea_nil)))) (ss_one (ss_brk)) (ss_nil))))))) (ss_one (ss_rel 6 (ss_ret (ee_callP (F := G_law_same_rows) (hr := hr.mono (by decide)) (hm := glo__law_same_rows hy) (hk := F_law_same_rows.kp) (hb := ab_law_same_rows_2_) (tk := (L2N.takes_of rfl rfl rfl rfl)) (hp := rfl) (hmx := by decide) (hdd := fun _ => .nil) (ha := ea_cons (ee_callT (hc := call_tuple_of) (h := (o_tuple rfl)) (hm := (free_tuple hy)) (hv := by decide +kernel) (ha := ea_cons (ee_var 6) (ea_nil))) (ea_cons (ee_var 3) (ea_nil))) (hkw := ek_nil)))))))))))⟩
end LW
end

section
set_option maxHeartbeats 4000000
namespace LW
open PySem L2 EV
theorem sc_law_truth : FnScope ["_law_item", "_law_due"] ["_law_item", "_law_due"] (defScope st_law_truth) := ⟨rfl, rfl, rfl, by decide +kernel, rfl, by decide +kernel, by decide +kernel⟩
def g_law_truth : FS := gRet (vAnd (v1 (isD [.bl]) (vVar 0)) (v2 eqD (vVar 0) (vVar 1)))
def sem_law_truth : List D → Option R := semF 2 g_law_truth
theorem ok_law_truth {P : Program} {w : World} {K : PySem.W.Frag} {mg : Str → Option Value} {base : Heap} (hy : Hyp K mg) : ∃ fd, FunD K d_law_truth.name d_law_truth.qual d_law_truth.params d_law_truth.body d_law_truth.scope (d_law_truth.dvs K) (d_law_truth.kws K) (He.fAd K d_law_truth.at_) fd ∧ FnOk P w K mg base (L2N.CX P w) 1 (He.fAd K d_law_truth.at_) fd ["_law_item", "_law_due"] (spF (tab K) 2 (sem_law_truth)) := by
  obtain ⟨fd, F⟩ := hy.says.fn (26) (d := d_law_truth) rfl
  exact ⟨fd, F, fn_ev F sc_law_truth fun cdv A outer s H E hr => (ss_one (ss_ret (ee_and (ee_isi .bl (hm := (free_isinstance hy)) (hmy := (free_bool hy)) (hvy := by decide +kernel) (ha := ee_var 0)) (ee_one (ee_eq (hr := hr) (ha := ee_var 0) (hb := ee_var 1))))))⟩
end LW
end

section
set_option maxHeartbeats 4000000
namespace LW
open PySem L2 EV
theorem sc_is_setting : FnScope ["valley", "value", "side"] ["valley", "value"] (defScope st_is_setting) := ⟨rfl, rfl, rfl, by decide +kernel, rfl, by decide +kernel, by decide +kernel⟩
def g_is_setting : FS := gRet (vAnd (v2 eqD (vCall lenD (aCons (vVar 1) (aNil))) (vCall lenD (aCons (v1 (fldD 7 1) (vVar 0)) (aNil)))) (vCall allD (aCons (vL (nLc (iSeq (vVar 1)) (nmG 2) (vYes) (v2 inD (vVar 2) (vTup (aCons (vC (.int 0)) (aCons (vC (.int 1)) (aNil))))) [2])) (aNil))))
def sem_is_setting : List D → Option R := semF 3 g_is_setting
theorem ok_is_setting {P : Program} {w : World} {K : PySem.W.Frag} {mg : Str → Option Value} {base : Heap} (hy : Hyp K mg) : ∃ fd, FunD K d_is_setting.name d_is_setting.qual d_is_setting.params d_is_setting.body d_is_setting.scope (d_is_setting.dvs K) (d_is_setting.kws K) (He.fAd K d_is_setting.at_) fd ∧ FnOk P w K mg base (L2N.CX P w) 1 (He.fAd K d_is_setting.at_) fd ["valley", "value"] (spF (tab K) 2 (sem_is_setting)) := by
  obtain ⟨fd, F⟩ := hy.says.fn (27) (d := d_is_setting) rfl
  exact ⟨fd, F, fn_ev F sc_is_setting fun cdv A outer s H E hr => (ss_one (ss_ret (ee_and (ee_eq (hr := hr) (ha := ee_callB (hc := call_len_seq) (h := (o_len rfl)) (hm := (free_len hy)) (hv := by decide +kernel) (ha := ea_cons (ee_var 1) (ea_nil))) (hb := ee_callB (hc := call_len_seq) (h := (o_len rfl)) (hm := (free_len hy)) (hv := by decide +kernel) (ha := ea_cons (ee_fld (F := fld_Valley_sluices hy) (ha := ee_var 0)) (ea_nil)))) (ee_one (ee_callB (hc := (cr_all rfl)) (h := (o_all rfl)) (hm := (free_all hy)) (hv := by decide +kernel) (ha := ea_cons (en_ee (en_lc (own := [("side", 2)]) (hc := rfl) (hN := sc_is_setting.nd) (ok := blkOk_by (show blkC ["valley", "value", "side"] (defScope st_is_setting) _ [("side", 2)] = true by decide +kernel)) (hsub := by decide) (hi := ei_seq (he := ee_var 1)) (hg := fun _ _ _ _ _ => eg_name 2 sc_is_setting.nd) (ht := fun _ _ _ _ _ => et_nil) (he := fun _ _ _ _ _ => ee_in (hr := hr) (hm := by rfl) (ha := ee_var 2) (hb := ee_tup (ea_cons (ee_int) (ea_cons (ee_int) (ea_nil))))))) (ea_nil)))))))⟩
end LW
end

section
set_option maxHeartbeats 4000000
namespace LW
open PySem L2 EV
theorem sc_law_judged : FnScope ["_law_land", "_law_many", "_law_item", "_law_form_here", "_law_due", "_law_side", "_law_passed"] ["_law_land", "_law_many", "_law_item", "_law_form_here"] (defScope st_law_judged) := ⟨rfl, rfl, rfl, by decide +kernel, rfl, by decide +kernel, by decide +kernel⟩
def g_law_judged : FS := gSeq (gSet 4 (v2 eqD (vCall lenD (aCons (vVar 2) (aNil))) (vVar 1))) (gSeq (gFor (iSeq (vVar 2)) (nmG 5) (gIf (vOr (v2 ltD (vVar 5) (vC (.int 0))) (v2 gtD (vVar 5) (vC (.int 1)))) (gSet 4 (vC (.bl false))) (gNext))) (gSeq (gSet 6 (vCallP 2 0 [0, 1] sem_law_form [] (aCons (vVar 2) (aCons (vVar 3) (aNil))) (aNil))) (gSeq (gIf (vOr (v1 notD (vCallP 2 0 [0, 1] sem_law_truth [] (aCons (vCallP 2 0 [0, 1] sem_is_setting [] (aCons (vVar 0) (aCons (vVar 6) (aNil))) (aNil)) (aCons (vVar 4) (aNil))) (aNil))) (v2 neD (vVar 6) (vCallP 2 0 [0, 1] sem_law_form [] (aCons (vVar 2) (aCons (vVar 3) (aNil))) (aNil)))) (gRet (vC (.bl false))) (gNext)) (gRet (vCallP 2 0 [0, 1] sem_law_truth [] (aCons (vCallP 0 2 [1, 0] sem_is_setting [] aNil (aCons (vCallP 2 0 [0, 1] sem_law_form [] (aCons (vVar 2) (aCons (v2 subD (vC (.int 1)) (vVar 3)) (aNil))) (aNil)) (aCons (vVar 0) (aNil)))) (aCons (vVar 4) (aNil))) (aNil))))))
def sem_law_judged : List D → Option R := semF 7 g_law_judged
theorem ok_law_judged {P : Program} {w : World} {K : PySem.W.Frag} {mg : Str → Option Value} {base : Heap} (hy : Hyp K mg) : ∃ fd, FunD K d_law_judged.name d_law_judged.qual d_law_judged.params d_law_judged.body d_law_judged.scope (d_law_judged.dvs K) (d_law_judged.kws K) (He.fAd K d_law_judged.at_) fd ∧ FnOk P w K mg base (L2N.CX P w) 2 (He.fAd K d_law_judged.at_) fd ["_law_land", "_law_many", "_law_item", "_law_form_here"] (spF (tab K) 4 (sem_law_judged)) := by
  obtain ⟨fd_law_form, F_law_form, G_law_form⟩ := ok_law_form (P := P) (w := w) (base := base) hy
  obtain ⟨fd_law_truth, F_law_truth, G_law_truth⟩ := ok_law_truth (P := P) (w := w) (base := base) hy
  obtain ⟨fd_is_setting, F_is_setting, G_is_setting⟩ := ok_is_setting (P := P) (w := w) (base := base) hy
  have ab_law_form_2_ : ArgB K fd_law_form ["_law_numbers", "_law_form_here"] 2 [] [] [0, 1] := ArgB.given F_law_form (fun kV doc pm an cdv ct us ws l1 l2 => match us, l1, ws, l2 with | [_, _], _, [], _ => rfl)
  have ab_law_truth_2_ : ArgB K fd_law_truth ["_law_item", "_law_due"] 2 [] [] [0, 1] := ArgB.given F_law_truth (fun kV doc pm an cdv ct us ws l1 l2 => match us, l1, ws, l2 with | [_, _], _, [], _ => rfl)
  have ab_is_setting_2_ : ArgB K fd_is_setting ["valley", "value"] 2 [] [] [0, 1] := ArgB.given F_is_setting (fun kV doc pm an cdv ct us ws l1 l2 => match us, l1, ws, l2 with | [_, _], _, [], _ => rfl)
  have ab_is_setting_0_value_valley : ArgB K fd_is_setting ["valley", "value"] 0 ["value", "valley"] [] [1, 0] := ArgB.given F_is_setting (fun kV doc pm an cdv ct us ws l1 l2 => match us, l1, ws, l2 with | [], _, [_, _], _ => rfl)
  obtain ⟨fd, F⟩ := hy.says.fn (28) (d := d_law_judged) rfl
  exact ⟨fd, F, fn_ev F sc_law_judged fun cdv A outer s H E hr => (ss_cons (ss_set 4 (hN := sc_law_judged.nd) (he := ee_eq (hr := hr) (ha := ee_callB (hc := call_len_seq) (h := (o_len rfl)) (hm := (free_len hy)) (hv := by decide +kernel) (ha := ea_cons (ee_var 2) (ea_nil))) (hb := ee_var 1))) (ss_cons (ss_for (hp := (passes_of rfl)) (hc := rfl) (hi := ei_seq (he := ee_var 2)) (hg := eg_name 5 sc_law_judged.nd) (hb := ss_one (ss_if (eb_w (ew_or (eb_lt (ha := ee_var 5) (hb := ee_int)) (ew_or1 (eb_gt (ha := ee_var 5) (hb := ee_int))))) (ss_one (ss_set 4 (hN := sc_law_judged.nd) (he := ee_bl))) (ss_nil)))) (ss_cons (ss_set 6 (hN := sc_law_judged.nd) (he := ee_callP (F := G_law_form) (hr := hr.mono (by decide)) (hm := glo__law_form hy) (hk := F_law_form.kp) (hb := ab_law_form_2_) (tk := (L2N.takes_of rfl rfl rfl rfl)) (hp := rfl) (hmx := by decide) (hdd := fun _ => .nil) (ha := ea_cons (ee_var 2) (ea_cons (ee_var 3) (ea_nil))) (hkw := ek_nil))) (ss_cons (ss_if (eb_w (ew_or (eb_not (eb_val (ee_callP (F := G_law_truth) (hr := hr.mono (by decide)) (hm := glo__law_truth hy) (hk := F_law_truth.kp) (hb := ab_law_truth_2_) (tk := (L2N.takes_of rfl rfl rfl rfl)) (hp := rfl) (hmx := by decide) (hdd := fun _ => .nil) (ha := ea_cons (ee_callP (F := G_is_setting) (hr := hr.mono (by decide)) (hm := glo_is_setting hy) (hk := F_is_setting.kp) (hb := ab_is_setting_2_) (tk := (L2N.takes_of rfl rfl rfl rfl)) (hp := rfl) (hmx := by decide) (hdd := fun _ => .nil) (ha := ea_cons (ee_var 0) (ea_cons (ee_var 6) (ea_nil))) (hkw := ek_nil)) (ea_cons (ee_var 4) (ea_nil))) (hkw := ek_nil)))) (ew_or1 (eb_ne (hr := hr) (ha := ee_var 6) (hb := ee_callP (F := G_law_form) (hr := hr.mono (by decide)) (hm := glo__law_form hy) (hk := F_law_form.kp) (hb := ab_law_form_2_) (tk := (L2N.takes_of rfl rfl rfl rfl)) (hp := rfl) (hmx := by decide) (hdd := fun _ => .nil) (ha := ea_cons (ee_var 2) (ea_cons (ee_var 3) (ea_nil))) (hkw := ek_nil)))))) (ss_one (ss_ret (ee_bl))) (ss_nil)) (ss_one (ss_ret (ee_callP (F := G_law_truth) (hr := hr.mono (by decide)) (hm := glo__law_truth hy) (hk := F_law_truth.kp) (hb := ab_law_truth_2_) (tk := (L2N.takes_of rfl rfl rfl rfl)) (hp := rfl) (hmx := by decide) (hdd := fun _ => .nil) (ha := ea_cons (ee_callP0 (F := G_is_setting) (hr := hr.mono (by decide)) (hm := glo_is_setting hy) (hk := F_is_setting.kp) (hb := ab_is_setting_0_value_valley) (tk := (L2N.takes_of rfl rfl rfl rfl)) (hp := rfl) (hmx := by decide) (hdd := fun _ => .nil) (hkw := ek_cons (ee_callP (F := G_law_form) (hr := hr.mono (by decide)) (hm := glo__law_form hy) (hk := F_law_form.kp) (hb := ab_law_form_2_) (tk := (L2N.takes_of rfl rfl rfl rfl)) (hp := rfl) (hmx := by decide) (hdd := fun _ => .nil) (ha := ea_cons (ee_var 2) (ea_cons (ee_sub (ha := ee_int) (hb := ee_var 3)) (ea_nil))) (hkw := ek_nil)) (ek_cons (ee_var 0) (ek_nil)))) (ea_cons (ee_var 4) (ea_nil))) (hkw := ek_nil))))))))⟩
end LW
end

section
set_option maxHeartbeats 4000000
namespace LW
open PySem L2 EV
theorem sc_law : FnScope ["_law_script", "_law_drawn", "_law_mills", "_law_pairs", "_law_many", "_law_form_here", "_law_land", "_law_here", "_law_there", "_law_moves", "_law_passed", "_law_item", "_law_few"] ["_law_script"] (defScope st_law) := ⟨rfl, rfl, rfl, by decide +kernel, rfl, by decide +kernel, by decide +kernel⟩
def g_law : FS := gSeq (gSet 1 (vCallP 2 0 [0, 1] sem_law_ground [] (aCons (vVar 0) (aCons (vC (.int 0)) (aNil))) (aNil))) (gSeq (gSet 2 (v2 ixD (vVar 1) (vC (.int 0)))) (gSeq (gSet 3 (v2 ixD (vVar 1) (vC (.int 1)))) (gSeq (gSet 4 (vCall lenD (aCons (vVar 3) (aNil)))) (gSeq (gSet 5 (vCallP 2 0 [0, 1] sem_law_digits [] (aCons (vCallP 2 0 [0, 1] sem_law_cell [] (aCons (vVar 0) (aCons (vC (.int 3)) (aNil))) (aNil)) (aCons (vL (lenOk (aCons (vC (.int 6)) (aCons (vC (.int 2)) (aCons (vC (.int 2)) (aCons (vC (.int 2)) (aCons (vC (.int 488)) (aCons (vC (.int 4)) (aCons (vC (.int 48)) (aCons (vC (.int 13)) (aCons (vC (.int 2)) (aNil)))))))))))) (aNil))) (aNil))) (gSeq (gSet 6 (vCallP 2 0 [0, 1] sem_Valley__init [] (aCons (vVar 2) (aCons (vCallP 2 0 [0, 1] sem_law_handed [] (aCons (vVar 3) (aCons (v2 ixD (vVar 5) (vC (.int 0))) (aNil))) (aNil)) (aNil))) (aNil))) (gSeq (gSet 7 (vCall tupleD (aCons (vSlice (vCallP 2 0 [0, 1] sem_law_digits [] (aCons (vCallP 2 0 [0, 1] sem_law_cell [] (aCons (vVar 0) (aCons (vC (.int 4)) (aNil))) (aNil)) (aCons (vL (nRep (vL (lenOk (aCons (vC (.int 2)) (aNil)))) (vC (.int 48)))) (aNil))) (aNil)) (oNone) (oSome (vVar 4))) (aNil)))) (gSeq (gSet 8 (vCall tupleD (aCons (vSlice (vCallP 2 0 [0, 1] sem_law_digits [] (aCons (vCallP 2 0 [0, 1] sem_law_cell [] (aCons (vVar 0) (aCons (vC (.int 5)) (aNil))) (aNil)) (aCons (vL (nRep (vL (lenOk (aCons (vC (.int 2)) (aNil)))) (vC (.int 48)))) (aNil))) (aNil)) (oNone) (oSome (vVar 4))) (aNil)))) (gSeq (gSet 9 (vCallP 4 0 [0, 1, 2, 3] sem_law_row [] (aCons (vVar 0) (aCons (vC (.int 6)) (aCons (v2 ixD (vVar 5) (vC (.int 4))) (aCons (vVar 4) (aNil))))) (aNil))) (gSeq (gIf (v1 notD (vCallP 5 0 [0, 1, 2, 3, 4] sem_law_walked [] (aCons (vVar 6) (aCons (vVar 1) (aCons (vVar 7) (aCons (vVar 9) (aCons (vVar 5) (aNil)))))) (aNil))) (gRet (vC (.bl false))) (gNext)) (gSeq (gSet 10 (vCallP 2 0 [0, 1] sem_law_form [] (aCons (vVar 8) (aCons (v2 ixD (vVar 5) (vC (.int 2))) (aNil))) (aNil))) (gSeq (gIf (v1 notD (vCallP 2 0 [0, 1] sem_law_same [] (aCons (vCallP 2 0 [0, 1] sem_differing [] (aCons (vCallP 2 0 [0, 1] sem_law_form [] (aCons (vVar 7) (aCons (v2 ixD (vVar 5) (vC (.int 1))) (aNil))) (aNil)) (aCons (vVar 10) (aNil))) (aNil)) (aCons (vCallP 2 0 [0, 1] sem_law_differs [] (aCons (vVar 7) (aCons (vVar 8) (aNil))) (aNil)) (aNil))) (aNil))) (gRet (vC (.bl false))) (gNext)) (gSeq (gIf (vOr (v1 notD (vCallP 2 0 [0, 1] sem_law_same [] (aCons (vCallP 2 0 [0, 1] sem_differing [] (aCons (vVar 10) (aCons (vVar 7) (aNil))) (aNil)) (aCons (vCallP 2 0 [0, 1] sem_law_differs [] (aCons (vVar 7) (aCons (vVar 8) (aNil))) (aNil)) (aNil))) (aNil))) (v1 notD (vCallP 2 0 [0, 1] sem_law_same [] (aCons (vCallP 2 0 [0, 1] sem_differing [] (aCons (vVar 10) (aCons (vVar 8) (aNil))) (aNil)) (aCons (vL (lenOk (aNil))) (aNil))) (aNil)))) (gRet (vC (.bl false))) (gNext)) (gSeq (gFor (iSeq (vCallP 5 0 [0, 1, 2, 3, 4] sem_law_values [] (aCons (vVar 0) (aCons (vVar 4) (aCons (vVar 7) (aCons (vVar 8) (aCons (vVar 5) (aNil)))))) (aNil))) (nmG 11) (gIf (v1 notD (vCallP 4 0 [0, 1, 2, 3] sem_law_judged [] (aCons (vVar 6) (aCons (vVar 4) (aCons (vVar 11) (aCons (v2 ixD (vVar 5) (vC (.int 8))) (aNil))))) (aNil))) (gRet (vC (.bl false))) (gNext))) (gSeq (gSet 12 (vVar 3)) (gSeq (gIf (v2 gtD (vVar 4) (vC (.int 12))) (gSet 12 (vSlice (vVar 3) (oNone) (oSome (v2 ixD (vVar 5) (vC (.int 7)))))) (gNext)) (gSeq (gIf (v1 notD (vCallP 3 0 [0, 1, 2] sem_law_listed [] (aCons (vCallP 2 0 [0, 1] sem_Valley__init [] (aCons (vVar 2) (aCons (vVar 12) (aNil))) (aNil)) (aCons (vCall lenD (aCons (vVar 12) (aNil))) (aCons (vC (.bl false)) (aNil)))) (aNil))) (gRet (vC (.bl false))) (gNext)) (gSeq (gIf (vOr (v2 neD (vVar 10) (vCallP 2 0 [0, 1] sem_law_form [] (aCons (vVar 8) (aCons (v2 ixD (vVar 5) (vC (.int 2))) (aNil))) (aNil))) (v1 notD (vCallP 5 0 [0, 1, 2, 3, 4] sem_law_walked [] (aCons (vVar 6) (aCons (vVar 1) (aCons (vVar 8) (aCons (vVar 9) (aCons (vVar 5) (aNil)))))) (aNil)))) (gRet (vC (.bl false))) (gNext)) (gRet (vAnd (vCallP 5 0 [0, 1, 2, 3, 4] sem_law_walked [] (aCons (vVar 6) (aCons (vVar 1) (aCons (vVar 7) (aCons (vVar 9) (aCons (vVar 5) (aNil)))))) (aNil)) (vOr (v2 gtD (vVar 4) (vC (.int 7))) (vCallP 3 0 [0, 1, 2] sem_law_listed [] (aCons (vVar 6) (aCons (vVar 4) (aCons (vC (.bl true)) (aNil)))) (aNil))))))))))))))))))))))
def sem_law : List D → Option R := semF 13 g_law
theorem ok_law {P : Program} {w : World} {K : PySem.W.Frag} {mg : Str → Option Value} {base : Heap} (hy : Hyp K mg) : ∃ fd, FunD K d_law.name d_law.qual d_law.params d_law.body d_law.scope (d_law.dvs K) (d_law.kws K) (He.fAd K d_law.at_) fd ∧ FnOk P w K mg base (L2N.CX P w) 7 (He.fAd K d_law.at_) fd ["_law_script"] (spF (tab K) 1 (sem_law)) := by
  obtain ⟨fd_law_ground, F_law_ground, G_law_ground⟩ := ok_law_ground (P := P) (w := w) (base := base) hy
  obtain ⟨fd_law_digits, F_law_digits, G_law_digits⟩ := ok_law_digits (P := P) (w := w) (base := base) hy
  obtain ⟨fd_law_cell, F_law_cell, G_law_cell⟩ := ok_law_cell (P := P) (w := w) (base := base) hy
  obtain ⟨fd_Valley__init, F_Valley__init, G_Valley__init⟩ := ok_Valley__init (P := P) (w := w) (base := base) hy
  obtain ⟨fd_law_handed, F_law_handed, G_law_handed⟩ := ok_law_handed (P := P) (w := w) (base := base) hy
  obtain ⟨fd_law_row, F_law_row, G_law_row⟩ := ok_law_row (P := P) (w := w) (base := base) hy
  obtain ⟨fd_law_walked, F_law_walked, G_law_walked⟩ := ok_law_walked (P := P) (w := w) (base := base) hy
  obtain ⟨fd_law_form, F_law_form, G_law_form⟩ := ok_law_form (P := P) (w := w) (base := base) hy
  obtain ⟨fd_law_same, F_law_same, G_law_same⟩ := ok_law_same (P := P) (w := w) (base := base) hy
  obtain ⟨fd_law_differs, F_law_differs, G_law_differs⟩ := ok_law_differs (P := P) (w := w) (base := base) hy
  obtain ⟨fd_differing, F_differing, G_differing⟩ := ok_differing (P := P) (w := w) (base := base) hy
  obtain ⟨fd_law_values, F_law_values, G_law_values⟩ := ok_law_values (P := P) (w := w) (base := base) hy
  obtain ⟨fd_law_judged, F_law_judged, G_law_judged⟩ := ok_law_judged (P := P) (w := w) (base := base) hy
  obtain ⟨fd_law_listed, F_law_listed, G_law_listed⟩ := ok_law_listed (P := P) (w := w) (base := base) hy
  have ab_law_ground_2_ : ArgB K fd_law_ground ["_law_script", "_law_at"] 2 [] [] [0, 1] := ArgB.given F_law_ground (fun kV doc pm an cdv ct us ws l1 l2 => match us, l1, ws, l2 with | [_, _], _, [], _ => rfl)
  have ab_law_digits_2_ : ArgB K fd_law_digits ["_law_cell_here", "_law_sizes"] 2 [] [] [0, 1] := ArgB.given F_law_digits (fun kV doc pm an cdv ct us ws l1 l2 => match us, l1, ws, l2 with | [_, _], _, [], _ => rfl)
  have ab_law_cell_2_ : ArgB K fd_law_cell ["_law_script", "_law_k"] 2 [] [] [0, 1] := ArgB.given F_law_cell (fun kV doc pm an cdv ct us ws l1 l2 => match us, l1, ws, l2 with | [_, _], _, [], _ => rfl)
  have ab_Valley__init_2_ : ArgB K fd_Valley__init ["self", "mills", "sluices"] 3 [] [] [0, 1, 2] := ArgB.unused F_Valley__init (List.cons_ne_nil _ _) (fun T kV doc pm an cdv ct us its ws l1 l3 l2 => match us, l1, its, l3, ws, l2 with | [_, _, _], _, [_], _, [], _ => ⟨_, rfl, rfl⟩)
  have ab_law_handed_2_ : ArgB K fd_law_handed ["_law_rows", "_law_form_here"] 2 [] [] [0, 1] := ArgB.given F_law_handed (fun kV doc pm an cdv ct us ws l1 l2 => match us, l1, ws, l2 with | [_, _], _, [], _ => rfl)
  have ab_law_row_4_ : ArgB K fd_law_row ["_law_script", "_law_at", "_law_size", "_law_many"] 4 [] [] [0, 1, 2, 3] := ArgB.given F_law_row (fun kV doc pm an cdv ct us ws l1 l2 => match us, l1, ws, l2 with | [_, _, _, _], _, [], _ => rfl)
  have ab_law_walked_5_ : ArgB K fd_law_walked ["_law_land", "_law_drawn", "_law_state", "_law_moves", "_law_form_here"] 5 [] [] [0, 1, 2, 3, 4] := ArgB.given F_law_walked (fun kV doc pm an cdv ct us ws l1 l2 => match us, l1, ws, l2 with | [_, _, _, _, _], _, [], _ => rfl)
  have ab_law_form_2_ : ArgB K fd_law_form ["_law_numbers", "_law_form_here"] 2 [] [] [0, 1] := ArgB.given F_law_form (fun kV doc pm an cdv ct us ws l1 l2 => match us, l1, ws, l2 with | [_, _], _, [], _ => rfl)
  have ab_law_same_2_ : ArgB K fd_law_same ["_law_item", "_law_expected"] 2 [] [] [0, 1] := ArgB.given F_law_same (fun kV doc pm an cdv ct us ws l1 l2 => match us, l1, ws, l2 with | [_, _], _, [], _ => rfl)
  have ab_law_differs_2_ : ArgB K fd_law_differs ["_law_here", "_law_there"] 2 [] [] [0, 1] := ArgB.given F_law_differs (fun kV doc pm an cdv ct us ws l1 l2 => match us, l1, ws, l2 with | [_, _], _, [], _ => rfl)
  have ab_differing_2_ : ArgB K fd_differing ["one", "two"] 2 [] [] [0, 1] := ArgB.given F_differing (fun kV doc pm an cdv ct us ws l1 l2 => match us, l1, ws, l2 with | [_, _], _, [], _ => rfl)
  have ab_law_values_5_ : ArgB K fd_law_values ["_law_script", "_law_many", "_law_here", "_law_there", "_law_row_here"] 5 [] [] [0, 1, 2, 3, 4] := ArgB.given F_law_values (fun kV doc pm an cdv ct us ws l1 l2 => match us, l1, ws, l2 with | [_, _, _, _, _], _, [], _ => rfl)
  have ab_law_judged_4_ : ArgB K fd_law_judged ["_law_land", "_law_many", "_law_item", "_law_form_here"] 4 [] [] [0, 1, 2, 3] := ArgB.given F_law_judged (fun kV doc pm an cdv ct us ws l1 l2 => match us, l1, ws, l2 with | [_, _, _, _], _, [], _ => rfl)
  have ab_law_listed_3_ : ArgB K fd_law_listed ["_law_land", "_law_many", "_law_by_name"] 3 [] [] [0, 1, 2] := ArgB.given F_law_listed (fun kV doc pm an cdv ct us ws l1 l2 => match us, l1, ws, l2 with | [_, _, _], _, [], _ => rfl)
  obtain ⟨fd, F⟩ := hy.says.fn (29) (d := d_law) rfl
  exact ⟨fd, F, fn_ev F sc_law fun cdv A outer s H E hr => (ss_cons (ss_set 1 (hN := sc_law.nd) (he := ee_callP (F := G_law_ground) (hr := hr.mono (by decide)) (hm := glo__law_ground hy) (hk := F_law_ground.kp) (hb := ab_law_ground_2_) (tk := (L2N.takes_of rfl rfl rfl rfl)) (hp := rfl) (hmx := by decide) (hdd := fun _ => .nil) (ha := ea_cons (ee_var 0) (ea_cons (ee_int) (ea_nil))) (hkw := ek_nil))) (ss_cons (ss_set 2 (hN := sc_law.nd) (he := ee_ix (ha := ee_var 1) (hb := ee_int))) (ss_cons (ss_set 3 (hN := sc_law.nd) (he := ee_ix (ha := ee_var 1) (hb := ee_int))) (ss_cons (ss_set 4 (hN := sc_law.nd) (he := ee_callB (hc := call_len_seq) (h := (o_len rfl)) (hm := (free_len hy)) (hv := by decide +kernel) (ha := ea_cons (ee_var 3) (ea_nil)))) (ss_cons (ss_set 5 (hN := sc_law.nd) (he := ee_callP (F := G_law_digits) (hr := hr.mono (by decide)) (hm := glo__law_digits hy) (hk := F_law_digits.kp) (hb := ab_law_digits_2_) (tk := (L2N.takes_of rfl rfl rfl rfl)) (hp := rfl) (hmx := by decide) (hdd := fun _ => .nil) (ha := ea_cons (ee_callP (F := G_law_cell) (hr := hr.mono (by decide)) (hm := glo__law_cell hy) (hk := F_law_cell.kp) (hb := ab_law_cell_2_) (tk := (L2N.takes_of rfl rfl rfl rfl)) (hp := rfl) (hmx := by decide) (hdd := fun _ => .nil) (ha := ea_cons (ee_var 0) (ea_cons (ee_int) (ea_nil))) (hkw := ek_nil)) (ea_cons (en_ee (en_lst (ea_cons (ee_int) (ea_cons (ee_int) (ea_cons (ee_int) (ea_cons (ee_int) (ea_cons (ee_int) (ea_cons (ee_int) (ea_cons (ee_int) (ea_cons (ee_int) (ea_cons (ee_int) (ea_nil)))))))))))) (ea_nil))) (hkw := ek_nil))) (ss_cons (ss_set 6 (hN := sc_law.nd) (he := ee_makeP (hs := semI_obj) (M := mk_Valley hy) (F := G_Valley__init) (hr := hr.mono (by decide)) (hm := glo_Valley hy) (hb := ab_Valley__init_2_) (tk := (L2N.takes_of rfl rfl rfl rfl)) (hp := rfl) (hmx := by decide) (hdd := fun _ => .nil) (ha := ea_cons (ee_var 2) (ea_cons (ee_callP (F := G_law_handed) (hr := hr.mono (by decide)) (hm := glo__law_handed hy) (hk := F_law_handed.kp) (hb := ab_law_handed_2_) (tk := (L2N.takes_of rfl rfl rfl rfl)) (hp := rfl) (hmx := by decide) (hdd := fun _ => .nil) (ha := ea_cons (ee_var 3) (ea_cons (ee_ix (ha := ee_var 5) (hb := ee_int)) (ea_nil))) (hkw := ek_nil)) (ea_nil))) (hkw := ek_nil))) (ss_cons (ss_set 7 (hN := sc_law.nd) (he := ee_callT (hc := call_tuple_of) (h := (o_tuple rfl)) (hm := (free_tuple hy)) (hv := by decide +kernel) (ha := ea_cons (ee_slice (ha := ee_callP (F := G_law_digits) (hr := hr.mono (by decide)) (hm := glo__law_digits hy) (hk := F_law_digits.kp) (hb := ab_law_digits_2_) (tk := (L2N.takes_of rfl rfl rfl rfl)) (hp := rfl) (hmx := by decide) (hdd := fun _ => .nil) (ha := ea_cons (ee_callP (F := G_law_cell) (hr := hr.mono (by decide)) (hm := glo__law_cell hy) (hk := F_law_cell.kp) (hb := ab_law_cell_2_) (tk := (L2N.takes_of rfl rfl rfl rfl)) (hp := rfl) (hmx := by decide) (hdd := fun _ => .nil) (ha := ea_cons (ee_var 0) (ea_cons (ee_int) (ea_nil))) (hkw := ek_nil)) (ea_cons (en_ee (en_rep (ha := en_ee (en_lst (ea_cons (ee_int) (ea_nil)))) (hb := ee_int))) (ea_nil))) (hkw := ek_nil)) (hl := eo_none) (hu := (eo_some (ee_var 4)))) (ea_nil)))) (ss_cons (ss_set 8 (hN := sc_law.nd) (he := ee_callT (hc := call_tuple_of) (h := (o_tuple rfl)) (hm := (free_tuple hy)) (hv := by decide +kernel) (ha := ea_cons (ee_slice (ha := ee_callP (F := G_law_digits) (hr := hr.mono (by decide)) (hm := glo__law_digits hy) (hk := F_law_digits.kp) (hb := ab_law_digits_2_) (tk := (L2N.takes_of rfl rfl rfl rfl)) (hp := rfl) (hmx := by decide) (hdd := fun _ => .nil) (ha := ea_cons (ee_callP (F := G_law_cell) (hr := hr.mono (by decide)) (hm := glo__law_cell hy) (hk := F_law_cell.kp) (hb := ab_law_cell_2_) (tk := (L2N.takes_of rfl rfl rfl rfl)) (hp := rfl) (hmx := by decide) (hdd := fun _ => .nil) (ha := ea_cons (ee_var 0) (ea_cons (ee_int) (ea_nil))) (hkw := ek_nil)) (ea_cons (en_ee (en_rep (ha := en_ee (en_lst (ea_cons (ee_int) (ea_nil)))) (hb := ee_int))) (ea_nil))) (hkw := ek_nil)) (hl := eo_none) (hu := (eo_some (ee_var 4)))) (ea_nil)))) (ss_cons (ss_set 9 (hN := sc_law.nd) (he := ee_callP (F := G_law_row) (hr := hr.mono (by decide)) (hm := glo__law_row hy) (hk := F_law_row.kp) (hb := ab_law_row_4_) (tk := (L2N.takes_of rfl rfl rfl rfl)) (hp := rfl) (hmx := by decide) (hdd := fun _ => .nil) (ha := ea_cons (ee_var 0) (ea_cons (ee_int) (ea_cons (ee_ix (ha := ee_var 5) (hb := ee_int)) (ea_cons (ee_var 4) (ea_nil))))) (hkw := ek_nil))) (ss_cons (ss_if (eb_not (eb_val (ee_callP (F := G_law_walked) (hr := hr.mono (by decide)) (hm := glo__law_walked hy) (hk := F_law_walked.kp) (hb := ab_law_walked_5_) (tk := (L2N.takes_of rfl rfl rfl rfl)) (hp := rfl) (hmx := by decide) (hdd := fun _ => .nil) (ha := ea_cons (ee_var 6) (ea_cons (ee_var 1) (ea_cons (ee_var 7) (ea_cons (ee_var 9) (ea_cons (ee_var 5) (ea_nil)))))) (hkw := ek_nil)))) (ss_one (ss_ret (ee_bl))) (ss_nil)) (ss_cons (ss_set 10 (hN := sc_law.nd) (he := ee_callP (F := G_law_form) (hr := hr.mono (by decide)) (hm := glo__law_form hy) (hk := F_law_form.kp) (hb := ab_law_form_2_) (tk := (L2N.takes_of rfl rfl rfl rfl)) (hp := rfl) (hmx := by decide) (hdd := fun _ => .nil) (ha := ea_cons (ee_var 8) (ea_cons (ee_ix (ha := ee_var 5) (hb := ee_int)) (ea_nil))) (hkw := ek_nil))) (ss_cons (ss_if (eb_not (eb_val (ee_callP (F := G_law_same) (hr := hr.mono (by decide)) (hm := glo__law_same hy) (hk := F_law_same.kp) (hb := ab_law_same_2_) (tk := (L2N.takes_of rfl rfl rfl rfl)) (hp := rfl) (hmx := by decide) (hdd := fun _ => .nil) (ha := ea_cons (ee_callP (F := G_differing) (hr := hr.mono (by decide)) (hm := glo_differing hy) (hk := F_differing.kp) (hb := ab_differing_2_) (tk := (L2N.takes_of rfl rfl rfl rfl)) (hp := rfl) (hmx := by decide) (hdd := fun _ => .nil) (ha := ea_cons (ee_callP (F := G_law_form) (hr := hr.mono (by decide)) (hm := glo__law_form hy) (hk := F_law_form.kp) (hb := ab_law_form_2_) (tk := (L2N.takes_of rfl rfl rfl rfl)) (hp := rfl) (hmx := by decide) (hdd := fun _ => .nil) (ha := ea_cons (ee_var 7) (ea_cons (ee_ix (ha := ee_var 5) (hb := ee_int)) (ea_nil))) (hkw := ek_nil)) (ea_cons (ee_var 10) (ea_nil))) (hkw := ek_nil)) (ea_cons (ee_callP (F := G_law_differs) (hr := hr.mono (by decide)) (hm := glo__law_differs hy) (hk := F_law_differs.kp) (hb := ab_law_differs_2_) (tk := (L2N.takes_of rfl rfl rfl rfl)) (hp := rfl) (hmx := by decide) (hdd := fun _ => .nil) (ha := ea_cons (ee_var 7) (ea_cons (ee_var 8) (ea_nil))) (hkw := ek_nil)) (ea_nil))) (hkw := ek_nil)))) (ss_one (ss_ret (ee_bl))) (ss_nil)) (ss_cons (ss_if (eb_w (ew_or (eb_not (eb_val (ee_callP (F := G_law_same) (hr := hr.mono (by decide)) (hm := glo__law_same hy) (hk := F_law_same.kp) (hb := ab_law_same_2_) (tk := (L2N.takes_of rfl rfl rfl rfl)) (hp := rfl) (hmx := by decide) (hdd := fun _ => .nil) (ha := ea_cons (ee_callP (F := G_differing) (hr := hr.mono (by decide)) (hm := glo_differing hy) (hk := F_differing.kp) (hb := ab_differing_2_) (tk := (L2N.takes_of rfl rfl rfl rfl)) (hp := rfl) (hmx := by decide) (hdd := fun _ => .nil) (ha := ea_cons (ee_var 10) (ea_cons (ee_var 7) (ea_nil))) (hkw := ek_nil)) (ea_cons (ee_callP (F := G_law_differs) (hr := hr.mono (by decide)) (hm := glo__law_differs hy) (hk := F_law_differs.kp) (hb := ab_law_differs_2_) (tk := (L2N.takes_of rfl rfl rfl rfl)) (hp := rfl) (hmx := by decide) (hdd := fun _ => .nil) (ha := ea_cons (ee_var 7) (ea_cons (ee_var 8) (ea_nil))) (hkw := ek_nil)) (ea_nil))) (hkw := ek_nil)))) (ew_or1 (eb_not (eb_val (ee_callP (F := G_law_same) (hr := hr.mono (by decide)) (hm := glo__law_same hy) (hk := F_law_same.kp) (hb := ab_law_same_2_) (tk := (L2N.takes_of rfl rfl rfl rfl)) (hp := rfl) (hmx := by decide) (hdd := fun _ => .nil) (ha := ea_cons (ee_callP (F := G_differing) (hr := hr.mono (by decide)) (hm := glo_differing hy) (hk := F_differing.kp) (hb := ab_differing_2_) (tk := (L2N.takes_of rfl rfl rfl rfl)) (hp := rfl) (hmx := by decide) (hdd := fun _ => .nil) (ha := ea_cons (ee_var 10) (ea_cons (ee_var 8) (ea_nil))) (hkw := ek_nil)) (ea_cons (en_ee (en_lst (ea_nil))) (ea_nil))) (hkw := ek_nil))))))) (ss_one (ss_ret (ee_bl))) (ss_nil)) (ss_cons (ss_for (hp := (passes_of rfl)) (hc := rfl) (hi := ei_seq (he := ee_callP (F := G_law_values) (hr := hr.mono (by decide)) (hm := glo__law_values hy) (hk := F_law_values.kp) (hb := ab_law_values_5_) (tk := (L2N.takes_of rfl rfl rfl rfl)) (hp := rfl) (hmx := by decide) (hdd := fun _ => .nil) (ha := ea_cons (ee_var 0) (ea_cons (ee_var 4) (ea_cons (ee_var 7) (ea_cons (ee_var 8) (ea_cons (ee_var 5) (ea_nil)))))) (hkw := ek_nil))) (hg := eg_name 11 sc_law.nd) (hb := ss_one (ss_if (eb_not (eb_val (ee_callP (F := G_law_judged) (hr := hr.mono (by decide)) (hm := glo__law_judged hy) (hk := F_law_judged.kp) (hb := ab_law_judged_4_) (tk := (L2N.takes_of rfl rfl rfl rfl)) (hp := rfl) (hmx := by decide) (hdd := fun _ => .nil) (ha := ea_cons (ee_var 6) (ea_cons (ee_var 4) (ea_cons (ee_var 11) (ea_cons (ee_ix (ha := ee_var 5) (hb := ee_int)) (ea_nil))))) (hkw := ek_nil)))) (ss_one (ss_ret (ee_bl))) (ss_nil)))) (ss_cons (ss_set 12 (hN := sc_law.nd) (he := ee_var 3)) (ss_cons (ss_if (eb_gt (ha := ee_var 4) (hb := ee_int)) (ss_one (ss_set 12 (hN := sc_law.nd) (he := ee_slice (ha := ee_var 3) (hl := eo_none) (hu := (eo_some (ee_ix (ha := ee_var 5) (hb := ee_int))))))) (ss_nil)) (ss_cons (ss_if (eb_not (eb_val (ee_callP (F := G_law_listed) (hr := hr.mono (by decide)) (hm := glo__law_listed hy) (hk := F_law_listed.kp) (hb := ab_law_listed_3_) (tk := (L2N.takes_of rfl rfl rfl rfl)) (hp := rfl) (hmx := by decide) (hdd := fun _ => .nil) (ha := ea_cons (ee_makeP (hs := semI_obj) (M := mk_Valley hy) (F := G_Valley__init) (hr := hr.mono (by decide)) (hm := glo_Valley hy) (hb := ab_Valley__init_2_) (tk := (L2N.takes_of rfl rfl rfl rfl)) (hp := rfl) (hmx := by decide) (hdd := fun _ => .nil) (ha := ea_cons (ee_var 2) (ea_cons (ee_var 12) (ea_nil))) (hkw := ek_nil)) (ea_cons (ee_callB (hc := call_len_seq) (h := (o_len rfl)) (hm := (free_len hy)) (hv := by decide +kernel) (ha := ea_cons (ee_var 12) (ea_nil))) (ea_cons (ee_bl) (ea_nil)))) (hkw := ek_nil)))) (ss_one (ss_ret (ee_bl))) (ss_nil)) (ss_cons (ss_if (eb_w (ew_or (eb_ne (hr := hr) (ha := ee_var 10) (hb := ee_callP (F := G_law_form) (hr := hr.mono (by decide)) (hm := glo__law_form hy) (hk := F_law_form.kp) (hb := ab_law_form_2_) (tk := (L2N.takes_of rfl rfl rfl rfl)) (hp := rfl) (hmx := by decide) (hdd := fun _ => .nil) (ha := ea_cons (ee_var 8) (ea_cons (ee_ix (ha := ee_var 5) (hb := ee_int)) (ea_nil))) (hkw := ek_nil))) (ew_or1 (eb_not (eb_val (ee_callP (F := G_law_walked) (hr := hr.mono (by decide)) (hm := glo__law_walked hy) (hk := F_law_walked.kp) (hb := ab_law_walked_5_) (tk := (L2N.takes_of rfl rfl rfl rfl)) (hp := rfl) (hmx := by decide) (hdd := fun _ => .nil) (ha := ea_cons (ee_var 6) (ea_cons (ee_var 1) (ea_cons (ee_var 8) (ea_cons (ee_var 9) (ea_cons (ee_var 5) (ea_nil)))))) (hkw := ek_nil))))))) (ss_one (ss_ret (ee_bl))) (ss_nil)) (ss_one (ss_ret (ee_and (ee_callP (F := G_law_walked) (hr := hr.mono (by decide)) (hm := glo__law_walked hy) (hk := F_law_walked.kp) (hb := ab_law_walked_5_) (tk := (L2N.takes_of rfl rfl rfl rfl)) (hp := rfl) (hmx := by decide) (hdd := fun _ => .nil) (ha := ea_cons (ee_var 6) (ea_cons (ee_var 1) (ea_cons (ee_var 7) (ea_cons (ee_var 9) (ea_cons (ee_var 5) (ea_nil)))))) (hkw := ek_nil)) (ee_one (ee_or (ee_gt (ha := ee_var 4) (hb := ee_int)) (ee_one (ee_callP (F := G_law_listed) (hr := hr.mono (by decide)) (hm := glo__law_listed hy) (hk := F_law_listed.kp) (hb := ab_law_listed_3_) (tk := (L2N.takes_of rfl rfl rfl rfl)) (hp := rfl) (hmx := by decide) (hdd := fun _ => .nil) (ha := ea_cons (ee_var 6) (ea_cons (ee_var 4) (ea_cons (ee_bl) (ea_nil)))) (hkw := ek_nil))))))))))))))))))))))))))⟩
end LW
end

section
set_option maxHeartbeats 4000000
namespace LW
open PySem L2 EV
local macro_rules | `(tactic| get_elem_tactic_extensible) => `(tactic| first
  | ((with_reducible apply Ev.var); exact rfl)
  | with_reducible exact Ev.c
  | assumption
  | ((with_reducible apply Ev.add) <;> get_elem_tactic_extensible)
  | ((with_reducible apply Ev.sub) <;> get_elem_tactic_extensible)
  | ((with_reducible apply Ev.mulR) <;> get_elem_tactic_extensible)
  | ((with_reducible apply Ev.mulL) <;> get_elem_tactic_extensible)
  | ((with_reducible apply Ev.mod) <;> get_elem_tactic_extensible)
  | ((with_reducible apply Ev.fdiv) <;> get_elem_tactic_extensible)
  | ((with_reducible apply Ev.pow) <;> get_elem_tactic_extensible)
  | ((with_reducible apply Ev.neg) <;> get_elem_tactic_extensible)
  | ((with_reducible apply Ev.lt) <;> get_elem_tactic_extensible)
  | ((with_reducible apply Ev.le) <;> get_elem_tactic_extensible)
  | ((with_reducible apply Ev.gt) <;> get_elem_tactic_extensible)
  | ((with_reducible apply Ev.ge) <;> get_elem_tactic_extensible)
  | ((with_reducible apply Ev.eqI) <;> get_elem_tactic_extensible)
  | ((with_reducible apply Ev.neI) <;> get_elem_tactic_extensible)
  | ((with_reducible apply Ev.isN) <;> get_elem_tactic_extensible)
  | ((with_reducible apply Ev.notN) <;> get_elem_tactic_extensible)
  | ((with_reducible apply Ev.notP) <;> get_elem_tactic_extensible)
  | ((with_reducible apply Ev.andP) <;> get_elem_tactic_extensible)
  | ((with_reducible apply Ev.orP) <;> get_elem_tactic_extensible)
  | ((with_reducible apply Ev.int_) <;> get_elem_tactic_extensible)
  | ((with_reducible apply Ev.intB) <;> get_elem_tactic_extensible)
  | ((with_reducible apply Ev.lenL) <;> get_elem_tactic_extensible)
  | ((with_reducible apply Ev.lenT) <;> get_elem_tactic_extensible)
  | ((with_reducible apply Ev.lenS) <;> get_elem_tactic_extensible)
  | ((with_reducible apply Ev.min_) <;> get_elem_tactic_extensible)
  | ((with_reducible apply Ev.max_) <;> get_elem_tactic_extensible)
  | ((with_reducible apply Ev.abs_) <;> get_elem_tactic_extensible)
  | ((with_reducible apply Ev.tupleL) <;> get_elem_tactic_extensible)
  | ((with_reducible apply Ev.tupleT) <;> get_elem_tactic_extensible)
  | ((with_reducible apply EvL.listL) <;> get_elem_tactic_extensible)
  | ((with_reducible apply EvL.listT) <;> get_elem_tactic_extensible)
  | ((with_reducible apply Ev.ixL) <;> get_elem_tactic_extensible)
  | ((with_reducible apply Ev.ixT) <;> get_elem_tactic_extensible)
  | ((with_reducible apply Ev.ixM) <;> get_elem_tactic_extensible)
  | ((with_reducible apply Ev.ixMT) <;> get_elem_tactic_extensible)
  | ((with_reducible apply Ev.tup) <;> get_elem_tactic_extensible)
  | ((with_reducible apply Ev.vL) <;> get_elem_tactic_extensible)
  | with_reducible exact EvL.nil
  | ((with_reducible apply EvL.cons) <;> get_elem_tactic_extensible)
  | ((with_reducible apply EvL.lenOk) <;> get_elem_tactic_extensible)
  | ((with_reducible apply EvL.range1) <;> get_elem_tactic_extensible)
  | ((with_reducible apply EvL.seqL) <;> get_elem_tactic_extensible)
  | ((with_reducible apply EvL.seqT) <;> get_elem_tactic_extensible)
  | ((with_reducible apply EvL.seqS) <;> get_elem_tactic_extensible)
  | (intro; get_elem_tactic_extensible)
  | exact (show GetElem?.getElem? (List.cons _ _) _ = some _ from rfl)
  | omega
  | (simp only [List.length_map, List.length_append, List.length_replicate, List.length_cons, List.length_nil, List.length_range] <;> omega))
/-- a row of digits -/
def RowOk (row sizes : List Int) : Prop := row.length = sizes.length ∧ ∀ k : Int, 0 ≤ k → k < row.length → 0 ≤ at_ row k ∧ at_ row k < at_ sizes k
theorem at_append {xs : List Int} {x : Int} {k : Int} (h0 : 0 ≤ k) (h : k < xs.length) : at_ (xs ++ [x]) k = at_ xs k := by
  have h1 := at_get h0 h
  unfold at_ at *
  rw [List.getD_eq_getElem?_getD, List.getElem?_append_left (by omega), h1]
  rfl
theorem at_last {xs : List Int} {x : Int} {k : Int} (h : k = xs.length) : at_ (xs ++ [x]) k = x := by
  subst h
  unfold at_
  simp
theorem row_grow {row sizes : List Int} {n : Nat} {z : Int} (h : row.length = n) (hr : ∀ k : Int, 0 ≤ k → k < row.length → 0 ≤ at_ row k ∧ at_ row k < at_ sizes k) (hz : 0 ≤ z ∧ z < at_ sizes n) : (row ++ [z]).length = n + 1 ∧ ∀ k : Int, 0 ≤ k → k < (row ++ [z]).length → 0 ≤ at_ (row ++ [z]) k ∧ at_ (row ++ [z]) k < at_ sizes k := by
  refine ⟨by simp [h], fun k h0 hl => ?_⟩
  rw [List.length_append, List.length_singleton] at hl
  by_cases hk : k < row.length
  · rw [at_append h0 hk]
    exact hr k h0 hk
  · have e : k = row.length := by omega
    rw [at_last e, e, h]
    exact hz
def pairD (p : Int × Int) : D := .tup [.int p.1, .int p.2]
def PairsOk (mills : Int) (ps : List (Int × Int)) : Prop := ∀ p ∈ ps, 0 ≤ p.1 ∧ p.1 < mills ∧ 0 ≤ p.2 ∧ p.2 < mills ∧ p.1 ≠ p.2
theorem PairsOk.snoc {mills : Int} {ps : List (Int × Int)} {p : Int × Int} (h : PairsOk mills ps) (hp : 0 ≤ p.1 ∧ p.1 < mills ∧ 0 ≤ p.2 ∧ p.2 < mills ∧ p.1 ≠ p.2) : PairsOk mills (ps ++ [p]) := fun q hq => by
  rcases List.mem_append.mp hq with hq | hq
  · exact h q hq
  · rw [List.mem_singleton.mp hq]; exact hp
/-- the second end is another one -/
theorem mod_ne {a b m : Int} (ha : 0 ≤ a ∧ a < m) (hb : 0 ≤ b ∧ b < m - 1) : 0 ≤ (a + 1 + b) % m ∧ (a + 1 + b) % m < m ∧ a ≠ (a + 1 + b) % m := by
  have h0 := Int.emod_nonneg (a + 1 + b) (show m ≠ 0 by omega)
  have h1 := Int.emod_lt_of_pos (a + 1 + b) (show 0 < m by omega)
  refine ⟨h0, h1, fun e => ?_⟩
  by_cases h : a + 1 + b < m
  · rw [Int.emod_eq_of_lt (by omega) h] at e
    omega
  · have e2 : (a + 1 + b) % m = a + 1 + b - m := by
      have := Int.sub_emod_right (a + 1 + b) m
      rw [← Int.emod_eq_of_lt (a := a + 1 + b - m) (b := m) (by omega) (by omega), Int.sub_emod_right]
    rw [e2] at e
    omega
def tbMills : List D := (List.replicate 2 [.int 3, .int 3, .int 4, .int 2, .int 4, .int 3, .int 5, .int 3, .int 4, .int 3, .int 2, .int 4]).flatten
def tbMany : List D := (List.replicate 2 [.int 4, .int 5, .int 3, .int 6, .int 5, .int 4, .int 7, .int 5, .int 4, .int 6, .int 5, .int 2]).flatten
theorem range0_map (n : Nat) : rangeD 0 n = (List.range n).map fun k => D.int ((k : Nat) : Int) := by
  unfold rangeD
  congr 1
  funext k
  rw [Int.zero_add]
theorem filterMap_some {α β : Type} (f : α → β) (xs : List α) : xs.filterMap (fun x => some (f x)) = xs.map f := by
  induction xs with
  | nil => rfl
  | cons x xs ih => simp [List.filterMap_cons, ih]
theorem map_zero (n : Nat) : (List.range n).map (fun _ => D.int 0) = (List.replicate n (0 : Int)).map D.int := by
  rw [List.map_replicate]
  apply List.ext_getElem
  · simp
  · intro i h1 h2
    simp
/-- [e for k in range(n)] -/
theorem EvL.lcr {fi : FL} {fe : FE} {v : Nat} {vs : List Nat} {ρ : EV.Env} {n : Nat} (o : Nat → D) (hi : EvL fi ρ (rangeD 0 n)) (hl : n ≤ 90000) (h : ∀ k, k < n → Ev fe ((mask (wipeE ρ vs)).set v (.v (.int (k : Nat)))) (o k)) : EvL (nLc fi (nmG v) vYes fe vs) ρ ((List.range n).map o) := by
  have q := EvL.lc (fi := fi) (fg := nmG v) (ft := vYes) (fe := fe) (vs := vs) (ρ := ρ) (List.range n) (fun k => D.int ((k : Nat) : Int)) (fun k => some (o k)) (by rw [← range0_map]; exact hi) (by simpa using hl) (fun k hk => item_yes rfl (h k (List.mem_range.mp hk)))
  rw [filterMap_some] at q
  exact q
/-- the counts -/
def NNs (n : Nat) (cs : List Int) : Prop := cs.length = n ∧ ∀ c ∈ cs, 0 ≤ c
theorem NNs.at {n : Nat} {cs : List Int} (h : NNs n cs) {k : Int} (h0 : 0 ≤ k) (h1 : k < n) : 0 ≤ at_ cs k := h.2 _ (at_mem h0 (by rw [h.1]; exact h1))
theorem map_set (cs : List Int) (k : Nat) (c : Int) : (cs.map D.int).set k (.int c) = (cs.set k c).map D.int := by rw [List.map_set]
theorem NNs.set {n : Nat} {cs : List Int} (h : NNs n cs) {k : Nat} {c : Int} (hc : 0 ≤ c) : NNs n (cs.set k c) := ⟨by rw [List.length_set]; exact h.1, fun x hx => by
  rcases List.mem_or_eq_of_mem_set hx with hx | hx
  · exact h.2 x hx
  · rw [hx]; exact hc⟩
def Bits (n : Nat) (bs : List Int) : Prop := bs.length = n ∧ ∀ b ∈ bs, b = 0 ∨ b = 1
theorem Bits.at {n : Nat} {bs : List Int} (h : Bits n bs) {k : Int} (h0 : 0 ≤ k) (h1 : k < n) : at_ bs k = 0 ∨ at_ bs k = 1 := h.2 _ (at_mem h0 (by rw [h.1]; exact h1))
def letD (l : List Int) : D := .tup (l.map D.int)
def Pos (o : Option Int) : Prop := ∀ x, o = some x → 0 ≤ x
def lets4 : List (List Int) := [[0, 1], [0], [1], []]
structure WOk (mills : Int) (ps : List (Int × Int)) (low : List Int) (high : List (Option Int)) (lets : List (List Int)) : Prop where
  m1 : 1 ≤ mills
  m2 : mills ≤ 24
  pl : ps.length ≤ 48
  ok : PairsOk mills ps
  lo : NNs mills.toNat low
  hl : high.length = mills.toNat
  hp : ∀ h ∈ high, Pos h
  ll : lets.length = ps.length
  lp : ∀ l ∈ lets, l ∈ lets4
theorem enum_get {ds : List D} {k : Nat} {d : D} (h : (enumFrom 0 ds)[k]? = some d) : ∃ e, ds[k]? = some e ∧ d = .tup [.int (k : Nat), e] := by
  have hl := (List.getElem?_eq_some_iff.mp h).1
  rw [enumFrom_length] at hl
  have q := enumFrom_get ds 0 k ds[k] (List.getElem?_eq_getElem hl)
  rw [h, Nat.zero_add] at q
  exact ⟨_, List.getElem?_eq_getElem hl, Option.some.inj q⟩
def landD (mills : Int) (ps : List (Int × Int)) : D := .obj 7 [.int mills, .tup (ps.map pairD)]
theorem sem_ins {ci n : Nat} {g : FS} {ds : List D} {fs : List D} (h : Run g (Sl.ins ci [] :: (ds.map Sl.v ++ List.replicate (n - 1 - ds.length) Sl.no)) fun o => ∃ ρ, o = .nx ρ ∧ ρ[(0 : Nat)]? = some (.ins ci fs)) : semI ci n g ds = some (.ok (.obj ci fs)) := by
  obtain ⟨o, e, ρ, rfl, h0⟩ := h
  unfold semI
  rw [e]
  simp only [h0, if_true]
mutual
theorem eqv_refl : ∀ (n : Nat) (d : D), D.pl n d = true → D.eqv d d = true
  | _, .non, _ => by simp [D.eqv]
  | _, .bl b, _ => by simp [D.eqv]
  | _, .int i, _ => by simp [D.eqv]
  | _, .str s, _ => by simp [D.eqv]
  | n + 1, .tup xs, h => by
    simp only [D.eqv]
    exact eqvs_refl n xs (by simpa [D.pl] using h)
  | n + 1, .lst xs, h => by
    simp only [D.eqv]
    exact eqvs_refl n xs (by simpa [D.pl] using h)
  | 0, .tup _, h => by simp [D.pl] at h
  | 0, .lst _, h => by simp [D.pl] at h
  | n, .obj _ _, h => by cases n <;> simp [D.pl] at h
  | n, .scr _, h => by cases n <;> simp [D.pl] at h
theorem eqvs_refl : ∀ (n : Nat) (xs : List D), D.pls n xs = true → D.eqvs xs xs = true
  | _, [], _ => by simp [D.eqvs]
  | n, x :: xs, h => by
    rw [D.pls, Bool.and_eq_true] at h
    simp only [D.eqvs, Bool.and_eq_true]
    exact ⟨eqv_refl n x h.1, eqvs_refl n xs h.2⟩
end
theorem pls_map {α : Type} {n : Nat} {A : α → D} (h : ∀ x, D.pl n (A x) = true) (xs : List α) : D.pls n (xs.map A) = true := pls_all.mpr fun d hd => by
  obtain ⟨x, _, rfl⟩ := List.mem_map.mp hd
  exact h x
theorem pl_int (n : Nat) (i : Int) : D.pl n (.int i) = true := by cases n <;> rfl
theorem pl_tup {n : Nat} {xs : List D} (h : D.pls n xs = true) : D.pl (n + 1) (.tup xs) = true := by simpa [D.pl] using h
theorem pl_lst {n : Nat} {xs : List D} (h : D.pls n xs = true) : D.pl (n + 1) (.lst xs) = true := by simpa [D.pl] using h
theorem any_int (x : Int) : ∀ G : List Int, ((G.map D.int).any fun z => D.eqv z (.int x)) = decide (x ∈ G)
  | [] => by simp
  | g :: G => by
    rw [List.map_cons, List.any_cons, any_int x G]
    simp only [D.eqv]
    rw [Bool.eq_iff_iff]
    simp only [Bool.or_eq_true, beq_iff_eq, decide_eq_true_eq, List.mem_cons]
    constructor
    · rintro (h | h)
      · exact .inl h.symm
      · exact .inr h
    · rintro (h | h)
      · exact .inl h.symm
      · exact .inr h
theorem in_ints {f fb : FE} {ρ : EV.Env} {x : Int} {G : List Int} {V : D} (ha : Ev f ρ (.int x)) (hb : Ev fb ρ V) (hV : V = .lst (G.map D.int) ∨ V = .tup (G.map D.int)) : Ev (v2 inD f fb) ρ (.bl (decide (x ∈ G))) := by
  have := Ev.in_ ha hb hV (pl_int 8 x) (pls_map (pl_int 8) G)
  rw [any_int] at this
  exact this
def mE (p : Int × Int) (s : Int) : Int := if s = 0 then p.1 else p.2
theorem pair_at {f fb : FE} {ρ : EV.Env} {p : Int × Int} {s : Int} (ha : Ev f ρ (pairD p)) (hb : Ev fb ρ (.int s)) (hs : s = 0 ∨ s = 1) : Ev (v2 ixD f fb) ρ (.int (mE p s)) := by
  rcases hs with rfl | rfl
  · exact Ev.ixT (ds := [.int p.1, .int p.2]) ha hb (by omega) rfl
  · exact Ev.ixT (ds := [.int p.1, .int p.2]) ha hb (by omega) rfl
theorem filterMap_if {α : Type} (f : α → D) (q : α → Prop) [DecidablePred q] (xs : List α) : xs.filterMap (fun x => if q x then some (f x) else none) = (xs.filter fun x => decide (q x)).map f := by
  induction xs with
  | nil => rfl
  | cons x xs ih =>
    by_cases h : q x
    · simp [List.filterMap_cons, List.filter_cons, h, ih]
    · simp [List.filterMap_cons, List.filter_cons, h, ih]
theorem NNs.snoc {n : Nat} {cs : List Int} (h : NNs n cs) {c : Int} (hc : 0 ≤ c) : NNs (n + 1) (cs ++ [c]) := ⟨by simp [h.1], fun x hx => by
  rcases List.mem_append.mp hx with hx | hx
  · exact h.2 x hx
  · rw [List.mem_singleton.mp hx]; exact hc⟩
theorem map_snoc {α : Type} (A : α → D) (xs : List α) (x : α) : xs.map A ++ [A x] = (xs ++ [x]).map A := by rw [List.map_append]; rfl
theorem Pos.some {c : Int} (h : 0 ≤ c) : Pos (some c) := fun x e => by cases e; exact h
theorem pures_map {α : Type} {A : α → D} (h : ∀ x, (A x).pure = true) (xs : List α) : D.pures (xs.map A) = true := pures_all.mpr fun d hd => by
  obtain ⟨x, _, rfl⟩ := List.mem_map.mp hd
  exact h x
theorem WOk.high {mills : Int} {ps : List (Int × Int)} {low : List Int} {high high' : List (Option Int)} {lets : List (List Int)} (w : WOk mills ps low high lets) (h1 : high'.length = mills.toNat) (h2 : ∀ h ∈ high', Pos h) : WOk mills ps low high' lets := { w with hl := h1, hp := h2 }
theorem cut_map (A : Int → D) (xs : List Int) (lo hi : Option Int) : cutD (xs.map A) lo hi = ((xs.drop (HT.sIx xs.length 0 lo)).take (HT.sIx xs.length xs.length hi - HT.sIx xs.length 0 lo)).map A := by
  unfold cutD
  rw [List.length_map, List.map_take, List.map_drop]
theorem slice_upto {f fk : FE} {ρ : EV.Env} {xs : List Int} {k : Int} (h : Ev f ρ (letD xs)) (hk : Ev fk ρ (.int k)) (h0 : 0 ≤ k) : Ev (vSlice f oNone (oSome fk)) ρ (letD (xs.take k.toNat)) := by
  unfold Ev vSlice
  rw [h]
  unfold oNone oSome
  rw [hk]
  show some (R.ok (D.tup (cutD (xs.map D.int) none (some k)))) = _
  rw [cut_map]
  have e : HT.sIx xs.length xs.length (some k) = min k.toNat xs.length := by
    show (if k < 0 then _ else _) = _
    rw [if_neg (by omega)]
  rw [e]
  show some (R.ok (D.tup (((xs.drop 0).take (min k.toNat xs.length - 0)).map D.int))) = _
  rw [List.drop_zero, Nat.sub_zero]
  congr 4
  rcases Nat.le_total k.toNat xs.length with h | h
  · rw [Nat.min_eq_left h]
  · rw [Nat.min_eq_right h, List.take_of_length_le h, List.take_length]
theorem slice_from {f fk : FE} {ρ : EV.Env} {xs : List Int} {k : Int} (h : Ev f ρ (letD xs)) (hk : Ev fk ρ (.int k)) (h0 : 0 ≤ k) : Ev (vSlice f (oSome fk) oNone) ρ (letD (xs.drop k.toNat)) := by
  unfold Ev vSlice
  rw [h]
  unfold oNone oSome
  rw [hk]
  show some (R.ok (D.tup (cutD (xs.map D.int) (some k) none))) = _
  rw [cut_map]
  have e : HT.sIx xs.length 0 (some k) = min k.toNat xs.length := by
    show (if k < 0 then _ else _) = _
    rw [if_neg (by omega)]
  rw [e]
  show some (R.ok (D.tup (((xs.drop (min k.toNat xs.length)).take (xs.length - min k.toNat xs.length)).map D.int))) = _
  congr 4
  rcases Nat.le_total k.toNat xs.length with h | h
  · rw [Nat.min_eq_left h, List.take_of_length_le (by rw [List.length_drop]; omega)]
  · rw [Nat.min_eq_right h, List.drop_length, List.drop_of_length_le h, List.take_nil]
theorem tup_map {f : FE} {ρ : EV.Env} {xs ys : List Int} {fb : FE} (ha : Ev f ρ (letD xs)) (hb : Ev fb ρ (letD ys)) (h : xs.length + ys.length ≤ 100000) : Ev (v2 addD f fb) ρ (letD (xs ++ ys)) := by
  show Ev _ _ (.tup ((xs ++ ys).map D.int))
  rw [List.map_append]
  exact Ev.addT ha hb (by rw [List.length_map, List.length_map]; exact h)
/-- a list or a tuple of the numbers -/
def SeqI (V : D) (ys : List Int) : Prop := V = .lst (ys.map D.int) ∨ V = .tup (ys.map D.int)
theorem SeqI.seq {V : D} {ys : List Int} (h : SeqI V ys) : seqD V = some (ys.map D.int) := by rcases h with rfl | rfl <;> rfl
theorem ne_self {fa fb : FE} {ρ : EV.Env} {d : D} (ha : Ev fa ρ d) (hb : Ev fb ρ d) (hp : D.pl 8 d = true) : Ev (v2 neD fa fb) ρ (.bl (decide False)) := by
  have := Ev.ne ha hb hp hp
  rw [eqv_refl 8 _ hp] at this
  exact this
theorem eq_self {fa fb : FE} {ρ : EV.Env} {d : D} (ha : Ev fa ρ d) (hb : Ev fb ρ d) (hp : D.pl 8 d = true) : Ev (v2 eqD fa fb) ρ (.bl (decide True)) := by
  have := Ev.eq ha hb hp hp
  rw [eqv_refl 8 _ hp] at this
  exact this
theorem SeqI.pl {V : D} {ys : List Int} (h : SeqI V ys) : D.pl 7 V = true := by
  rcases h with rfl | rfl
  · exact pl_lst (n := 6) (pls_map (pl_int 6) ys)
  · exact pl_tup (n := 6) (pls_map (pl_int 6) ys)
theorem SeqI.list {V : D} {ys : List Int} (h : SeqI V ys) {f : FE} {ρ : EV.Env} (e : Ev f ρ V) : Ev (vL (nCall listD (aCons f (aNil)))) ρ (.lst (ys.map D.int)) := by
  rcases h with rfl | rfl
  · exact Ev.vL (EvL.listL e)
  · exact Ev.vL (EvL.listT e)
end LW
end

section
set_option maxHeartbeats 4000000
namespace LW
open PySem L2 EV
local macro_rules | `(tactic| get_elem_tactic_extensible) => `(tactic| first
  | ((with_reducible apply Ev.var); exact rfl)
  | with_reducible exact Ev.c
  | assumption
  | ((with_reducible apply Ev.add) <;> get_elem_tactic_extensible)
  | ((with_reducible apply Ev.sub) <;> get_elem_tactic_extensible)
  | ((with_reducible apply Ev.mulR) <;> get_elem_tactic_extensible)
  | ((with_reducible apply Ev.mulL) <;> get_elem_tactic_extensible)
  | ((with_reducible apply Ev.mod) <;> get_elem_tactic_extensible)
  | ((with_reducible apply Ev.fdiv) <;> get_elem_tactic_extensible)
  | ((with_reducible apply Ev.pow) <;> get_elem_tactic_extensible)
  | ((with_reducible apply Ev.neg) <;> get_elem_tactic_extensible)
  | ((with_reducible apply Ev.lt) <;> get_elem_tactic_extensible)
  | ((with_reducible apply Ev.le) <;> get_elem_tactic_extensible)
  | ((with_reducible apply Ev.gt) <;> get_elem_tactic_extensible)
  | ((with_reducible apply Ev.ge) <;> get_elem_tactic_extensible)
  | ((with_reducible apply Ev.eqI) <;> get_elem_tactic_extensible)
  | ((with_reducible apply Ev.neI) <;> get_elem_tactic_extensible)
  | ((with_reducible apply Ev.isN) <;> get_elem_tactic_extensible)
  | ((with_reducible apply Ev.notN) <;> get_elem_tactic_extensible)
  | ((with_reducible apply Ev.notP) <;> get_elem_tactic_extensible)
  | ((with_reducible apply Ev.andP) <;> get_elem_tactic_extensible)
  | ((with_reducible apply Ev.orP) <;> get_elem_tactic_extensible)
  | ((with_reducible apply Ev.int_) <;> get_elem_tactic_extensible)
  | ((with_reducible apply Ev.intB) <;> get_elem_tactic_extensible)
  | ((with_reducible apply Ev.lenL) <;> get_elem_tactic_extensible)
  | ((with_reducible apply Ev.lenT) <;> get_elem_tactic_extensible)
  | ((with_reducible apply Ev.lenS) <;> get_elem_tactic_extensible)
  | ((with_reducible apply Ev.min_) <;> get_elem_tactic_extensible)
  | ((with_reducible apply Ev.max_) <;> get_elem_tactic_extensible)
  | ((with_reducible apply Ev.abs_) <;> get_elem_tactic_extensible)
  | ((with_reducible apply Ev.tupleL) <;> get_elem_tactic_extensible)
  | ((with_reducible apply Ev.tupleT) <;> get_elem_tactic_extensible)
  | ((with_reducible apply EvL.listL) <;> get_elem_tactic_extensible)
  | ((with_reducible apply EvL.listT) <;> get_elem_tactic_extensible)
  | ((with_reducible apply Ev.ixL) <;> get_elem_tactic_extensible)
  | ((with_reducible apply Ev.ixT) <;> get_elem_tactic_extensible)
  | ((with_reducible apply Ev.ixM) <;> get_elem_tactic_extensible)
  | ((with_reducible apply Ev.ixMT) <;> get_elem_tactic_extensible)
  | ((with_reducible apply Ev.tup) <;> get_elem_tactic_extensible)
  | ((with_reducible apply Ev.vL) <;> get_elem_tactic_extensible)
  | with_reducible exact EvL.nil
  | ((with_reducible apply EvL.cons) <;> get_elem_tactic_extensible)
  | ((with_reducible apply EvL.lenOk) <;> get_elem_tactic_extensible)
  | ((with_reducible apply EvL.range1) <;> get_elem_tactic_extensible)
  | ((with_reducible apply EvL.seqL) <;> get_elem_tactic_extensible)
  | ((with_reducible apply EvL.seqT) <;> get_elem_tactic_extensible)
  | ((with_reducible apply EvL.seqS) <;> get_elem_tactic_extensible)
  | (intro; get_elem_tactic_extensible)
  | exact (show GetElem?.getElem? (List.cons _ _) _ = some _ from rfl)
  | omega
  | (simp only [List.length_map, List.length_append, List.length_replicate, List.length_cons, List.length_nil, List.length_range] <;> omega))
section
variable {mills : Int} {ps : List (Int × Int)} {low : List Int} {high : List (Option Int)} {lets : List (List Int)}
theorem law_cell_ok (ns : List Int) (k : Int) (hk : 0 ≤ k) : ∃ z : Int, sem_law_cell [.scr ns, .int k] = some (.ok (.int z)) := by
  suffices H : Run g_law_cell [.v (.scr ns), .v (.int k), .no, .no] (Ret fun d => ∃ z : Int, d = .int z) by
    obtain ⟨d, h, z, rfl⟩ := sem_ret (n := 4) (ds := [.scr ns, .int k]) H
    exact ⟨z, h⟩
  refine Run.seq (Run.ifP (by get_elem_tactic_extensible) (fun h => ?_) fun h => ?_)
  · refine Run.ret (Ev.ixS (by get_elem_tactic_extensible) (by get_elem_tactic_extensible) hk (at_get hk h)) ⟨_, rfl⟩
  refine Run.next (Run.seq (Run.set (by get_elem_tactic_extensible) ?_))
  refine Run.seq (Run.for (fun _ ρ => ∃ (s : Int) (x : Sl), 0 ≤ s ∧ s < 1000003 ∧ ρ = [.v (.scr ns), .v (.int k), .v (.int s), x]) (by get_elem_tactic_extensible) ⟨17, .no, by omega, by omega, rfl⟩ (fun j d ρ hd hI => ?_) fun ρ hI => ?_)
  · obtain ⟨s, x, s0, s1, rfl⟩ := hI
    rw [List.getElem?_map] at hd
    obtain ⟨c, _, rfl⟩ := Option.map_eq_some_iff.mp hd
    exact ⟨_, rfl, Run.set (by get_elem_tactic_extensible) ⟨_, _, by omega, by omega, rfl⟩⟩
  · obtain ⟨s, x, s0, s1, rfl⟩ := hI
    exact Run.ret (by get_elem_tactic_extensible) ⟨_, rfl⟩

theorem law_digits_ok (z : Int) (sizes : List Int) (hs : ∀ s ∈ sizes, 0 < s ∧ s < 1073741824) (hl : sizes.length ≤ 1000) : ∃ row : List Int, sem_law_digits [.int z, .lst (sizes.map D.int)] = some (.ok (.lst (row.map D.int))) ∧ RowOk row sizes := by
  suffices H : Run g_law_digits [.v (.int z), .v (.lst (sizes.map D.int)), .no, .no, .no, .no, .no, .no] (Ret fun d => ∃ row : List Int, d = .lst (row.map D.int) ∧ RowOk row sizes) by
    obtain ⟨d, h, row, rfl, q⟩ := sem_ret (n := 8) (ds := [.int z, .lst (sizes.map D.int)]) H
    exact ⟨row, h, q⟩
  have at_s : ∀ k : Nat, k < sizes.length → 0 < at_ sizes k ∧ at_ sizes k < 1073741824 := fun k hk => hs _ (at_mem (by omega) (by omega))
  refine Run.seq (Run.own (ds := []) (by get_elem_tactic_extensible) (by simp) (Run.seq (Run.set (by get_elem_tactic_extensible) (Run.seq (Run.ifP (by get_elem_tactic_extensible) (fun h => ?_) fun h => ?_)))))
  · refine Run.seq (Run.set (by get_elem_tactic_extensible) (Run.seq (Run.for (fun n ρ => ∃ (row : List Int) (r : Int) (x : Sl), row.length = n ∧ (∀ k : Int, 0 ≤ k → k < row.length → 0 ≤ at_ row k ∧ at_ row k < at_ sizes k) ∧
      ρ = [.v (.int z), .v (.lst (sizes.map D.int)), .own (row.map D.int), .v (.int r), x, .no, .no, .no]) (by get_elem_tactic_extensible) ⟨[], _, .no, rfl, fun k h0 h1 => by simp at h1; omega, rfl⟩ (fun j d ρ hd hI => ?_) fun ρ hI => ?_)))
    · obtain ⟨row, r, x, e1, e2, rfl⟩ := hI
      rw [List.getElem?_map] at hd
      obtain ⟨c, hc, rfl⟩ := Option.map_eq_some_iff.mp hd
      have hj := (List.getElem?_eq_some_iff.mp hc).1
      have hb := at_s j hj
      have ec : at_ sizes j = c := by
        have := at_get (xs := sizes) (i := (j : Int)) (by omega) (by omega)
        rw [show ((j : Int)).toNat = j by omega, hc] at this
        exact (Option.some.inj this).symm
      rw [ec] at hb
      have g0 := Int.emod_nonneg r (show c ≠ 0 by omega)
      have g1 := Int.emod_lt_of_pos r hb.1
      refine ⟨_, rfl, Run.seq (Run.app (d := .int (r % c)) rfl (by get_elem_tactic_extensible) (by simp; omega) (Run.set (by get_elem_tactic_extensible) ?_))⟩
      obtain ⟨q1, q2⟩ := row_grow e1 e2 (z := r % c) (by rw [ec]; omega)
      exact ⟨row ++ [r % c], _, _, q1, q2, by rw [List.map_append]; rfl⟩
    · obtain ⟨row, r, x, e1, e2, rfl⟩ := hI
      refine Run.rel (Run.ret (by get_elem_tactic_extensible) ⟨row, rfl, by rw [e1, List.length_map], e2⟩)
  · refine Run.next (Run.seq (Run.set (by get_elem_tactic_extensible) (Run.seq (Run.for (fun n ρ => ∃ (row : List Int) (s : Int) (x y : Sl), 0 ≤ s ∧ s < 2147483647 ∧ row.length = n ∧ (∀ k : Int, 0 ≤ k → k < row.length → 0 ≤ at_ row k ∧ at_ row k < at_ sizes k) ∧
      ρ = [.v (.int z), .v (.lst (sizes.map D.int)), .own (row.map D.int), .v (.int z), .no, .v (.int s), x, y]) (EvL.range1 (Ev.lenL (Ev.var rfl)) (by rw [List.length_map]; omega)) ⟨[], _, .no, .no, by omega, by omega, rfl, fun k h0 h1 => by simp at h1; omega, rfl⟩ (fun j d ρ hd hI => ?_) fun ρ hI => ?_))))
    · obtain ⟨row, s, x, y, s0, s1, e1, e2, rfl⟩ := hI
      obtain ⟨rfl, hj⟩ := range0_get hd
      have hj : j < sizes.length := by rw [List.length_map] at hj; omega
      have hb := at_s j hj
      refine ⟨_, rfl, Run.seq (Run.set (by get_elem_tactic_extensible) (Run.seq (Run.set (by get_elem_tactic_extensible) ?_)))⟩
      have w0 := Int.emod_nonneg ((s * 48271 + 974711 * (j : Int) + 12345) % 2147483647 * ((s * 48271 + 974711 * (j : Int) + 12345) % 2147483647 / 65537 + 3) % 2147483629 / 19) (show at_ sizes j ≠ 0 by omega)
      have w1 := Int.emod_lt_of_pos ((s * 48271 + 974711 * (j : Int) + 12345) % 2147483647 * ((s * 48271 + 974711 * (j : Int) + 12345) % 2147483647 / 65537 + 3) % 2147483629 / 19) hb.1
      refine Run.app rfl (by get_elem_tactic_extensible) (by simp; omega) ?_
      obtain ⟨q1, q2⟩ := row_grow e1 e2 ⟨w0, w1⟩
      exact ⟨_, (s * 48271 + 974711 * (j : Int) + 12345) % 2147483647, _, _, by omega, by omega, q1, q2, by rw [List.map_append]; rfl⟩
    · obtain ⟨row, s, x, y, s0, s1, e1, e2, rfl⟩ := hI
      refine Run.rel (Run.ret (by get_elem_tactic_extensible) ⟨row, rfl, by rw [e1, rangeD_length]; simp, e2⟩)
def szOk (sizes : List Int) : Bool := sizes.all (fun s => decide (0 < s) && decide (s < 1073741824)) && decide (sizes.length ≤ 1000)
theorem dig_cell {fs fk fz : FE} {ρ : EV.Env} {ns : List Int} {k : Int} (sizes : List Int) (hs : Ev fs ρ (.scr ns)) (hk : Ev fk ρ (.int k)) (h0 : 0 ≤ k) (hz : Ev fz ρ (.lst (sizes.map D.int))) (hp : szOk sizes = true) :
    ∃ row : List Int, Ev (vCallP 2 0 [0, 1] sem_law_digits [] (aCons (vCallP 2 0 [0, 1] sem_law_cell [] (aCons fs (aCons fk (aNil))) (aNil)) (aCons fz (aNil))) (aNil)) ρ (.lst (row.map D.int)) ∧ RowOk row sizes := by
  obtain ⟨z, hc⟩ := law_cell_ok ns k h0
  unfold szOk at hp
  rw [Bool.and_eq_true] at hp
  obtain ⟨row, hd, ok⟩ := law_digits_ok z sizes (fun s h => by
    have := List.all_eq_true.mp hp.1 s h
    rw [Bool.and_eq_true] at this
    exact ⟨of_decide_eq_true this.1, of_decide_eq_true this.2⟩) (of_decide_eq_true hp.2)
  exact ⟨row, Ev.callP (ds := [.int z, .lst (sizes.map D.int)]) (EvL.cons (Ev.callP (ds := [.scr ns, .int k]) (EvL.cons hs (EvL.cons hk .nil)) .nil ⟨rfl, rfl⟩ hc) (EvL.cons hz .nil)) .nil ⟨rfl, rfl⟩ hd, ok⟩
theorem dig_run {fs fk fz : FE} {ρ : EV.Env} {ns : List Int} {k : Int} {i : Nat} {g2 : FS} {Q : Out → Prop} (sizes : List Int) (hs : Ev fs ρ (.scr ns)) (hk : Ev fk ρ (.int k)) (h0 : 0 ≤ k) (hz : Ev fz ρ (.lst (sizes.map D.int))) (hp : szOk sizes = true)
    (h : ∀ row : List Int, RowOk row sizes → Run g2 (ρ.set i (.v (.lst (row.map D.int)))) Q) :
    Run (gSeq (gSet i (vCallP 2 0 [0, 1] sem_law_digits [] (aCons (vCallP 2 0 [0, 1] sem_law_cell [] (aCons fs (aCons fk (aNil))) (aNil)) (aCons fz (aNil))) (aNil))) g2) ρ Q := by
  obtain ⟨row, e, ok⟩ := dig_cell sizes hs hk h0 hz hp
  exact Run.sset e (h row ok)
end
end LW
end

section
set_option maxHeartbeats 4000000
namespace LW
open PySem L2 EV
local macro_rules | `(tactic| get_elem_tactic_extensible) => `(tactic| first
  | ((with_reducible apply Ev.var); exact rfl)
  | with_reducible exact Ev.c
  | assumption
  | ((with_reducible apply Ev.add) <;> get_elem_tactic_extensible)
  | ((with_reducible apply Ev.sub) <;> get_elem_tactic_extensible)
  | ((with_reducible apply Ev.mulR) <;> get_elem_tactic_extensible)
  | ((with_reducible apply Ev.mulL) <;> get_elem_tactic_extensible)
  | ((with_reducible apply Ev.mod) <;> get_elem_tactic_extensible)
  | ((with_reducible apply Ev.fdiv) <;> get_elem_tactic_extensible)
  | ((with_reducible apply Ev.pow) <;> get_elem_tactic_extensible)
  | ((with_reducible apply Ev.neg) <;> get_elem_tactic_extensible)
  | ((with_reducible apply Ev.lt) <;> get_elem_tactic_extensible)
  | ((with_reducible apply Ev.le) <;> get_elem_tactic_extensible)
  | ((with_reducible apply Ev.gt) <;> get_elem_tactic_extensible)
  | ((with_reducible apply Ev.ge) <;> get_elem_tactic_extensible)
  | ((with_reducible apply Ev.eqI) <;> get_elem_tactic_extensible)
  | ((with_reducible apply Ev.neI) <;> get_elem_tactic_extensible)
  | ((with_reducible apply Ev.isN) <;> get_elem_tactic_extensible)
  | ((with_reducible apply Ev.notN) <;> get_elem_tactic_extensible)
  | ((with_reducible apply Ev.notP) <;> get_elem_tactic_extensible)
  | ((with_reducible apply Ev.andP) <;> get_elem_tactic_extensible)
  | ((with_reducible apply Ev.orP) <;> get_elem_tactic_extensible)
  | ((with_reducible apply Ev.int_) <;> get_elem_tactic_extensible)
  | ((with_reducible apply Ev.intB) <;> get_elem_tactic_extensible)
  | ((with_reducible apply Ev.lenL) <;> get_elem_tactic_extensible)
  | ((with_reducible apply Ev.lenT) <;> get_elem_tactic_extensible)
  | ((with_reducible apply Ev.lenS) <;> get_elem_tactic_extensible)
  | ((with_reducible apply Ev.min_) <;> get_elem_tactic_extensible)
  | ((with_reducible apply Ev.max_) <;> get_elem_tactic_extensible)
  | ((with_reducible apply Ev.abs_) <;> get_elem_tactic_extensible)
  | ((with_reducible apply Ev.tupleL) <;> get_elem_tactic_extensible)
  | ((with_reducible apply Ev.tupleT) <;> get_elem_tactic_extensible)
  | ((with_reducible apply EvL.listL) <;> get_elem_tactic_extensible)
  | ((with_reducible apply EvL.listT) <;> get_elem_tactic_extensible)
  | ((with_reducible apply Ev.ixL) <;> get_elem_tactic_extensible)
  | ((with_reducible apply Ev.ixT) <;> get_elem_tactic_extensible)
  | ((with_reducible apply Ev.ixM) <;> get_elem_tactic_extensible)
  | ((with_reducible apply Ev.ixMT) <;> get_elem_tactic_extensible)
  | ((with_reducible apply Ev.tup) <;> get_elem_tactic_extensible)
  | ((with_reducible apply Ev.vL) <;> get_elem_tactic_extensible)
  | with_reducible exact EvL.nil
  | ((with_reducible apply EvL.cons) <;> get_elem_tactic_extensible)
  | ((with_reducible apply EvL.lenOk) <;> get_elem_tactic_extensible)
  | ((with_reducible apply EvL.range1) <;> get_elem_tactic_extensible)
  | ((with_reducible apply EvL.seqL) <;> get_elem_tactic_extensible)
  | ((with_reducible apply EvL.seqT) <;> get_elem_tactic_extensible)
  | ((with_reducible apply EvL.seqS) <;> get_elem_tactic_extensible)
  | (intro; get_elem_tactic_extensible)
  | exact (show GetElem?.getElem? (List.cons _ _) _ = some _ from rfl)
  | omega
  | (simp only [List.length_map, List.length_append, List.length_replicate, List.length_cons, List.length_nil, List.length_range] <;> omega))
section
variable {mills : Int} {ps : List (Int × Int)} {low : List Int} {high : List (Option Int)} {lets : List (List Int)}
theorem law_small_ok (row : List Int) (hl : row.length = 17) (r0 : 0 ≤ at_ row 0 ∧ at_ row 0 < 24) (r1 : 0 ≤ at_ row 1 ∧ at_ row 1 < 24) : ∃ (mills : Int) (ps : List (Int × Int)), sem_law_small [.lst (row.map D.int)] = some (.ok (.lst [.int mills, .lst (ps.map pairD)])) ∧ 1 ≤ mills ∧ mills ≤ 5 ∧ ps.length ≤ 7 ∧ PairsOk mills ps := by
  suffices H : Run g_law_small [.v (.lst (row.map D.int)), .no, .no, .no, .no, .no, .no] (Ret fun d => ∃ (mills : Int) (ps : List (Int × Int)), d = .lst [.int mills, .lst (ps.map pairD)] ∧ 1 ≤ mills ∧ mills ≤ 5 ∧ ps.length ≤ 7 ∧ PairsOk mills ps) by
    obtain ⟨d, h, mills, ps, rfl, q⟩ := sem_ret (n := 7) (ds := [.lst (row.map D.int)]) H
    exact ⟨mills, ps, h, q⟩
  have lm : tbMills.length = 24 := rfl
  have lk : tbMany.length = 24 := rfl
  obtain ⟨m, hm, pm⟩ := tbl_get (tb := tbMills) (fun m => decide (2 ≤ m ∧ m ≤ 5)) (by decide) (i := at_ row 0 % 24) (by omega)
  obtain ⟨k, hk, pk⟩ := tbl_get (tb := tbMany) (fun m => decide (2 ≤ m ∧ m ≤ 7)) (by decide) (i := at_ row 1 % 24) (by omega)
  have pm := of_decide_eq_true pm
  have pk := of_decide_eq_true pk
  refine Run.cut (fun ρ => ρ = [.v (.lst (row.map D.int)), .v (.int m), .no, .no, .no, .no, .no]) (Run.set (Ev.ixL (ds := tbMills) (i := at_ row 0 % 24) (Ev.vL (EvL.rep (i := 2) (ds := [.int 3, .int 3, .int 4, .int 2, .int 4, .int 3, .int 5, .int 3, .int 4, .int 3, .int 2, .int 4]) (by get_elem_tactic_extensible) (by get_elem_tactic_extensible) (by simp))) (by get_elem_tactic_extensible) (by omega) hm) ⟨_, rfl, rfl⟩) fun ρ hρ => ?_
  subst hρ
  refine Run.cut (fun ρ => ∃ m, 1 ≤ m ∧ m ≤ 5 ∧ ρ = [.v (.lst (row.map D.int)), .v (.int m), .no, .no, .no, .no, .no]) (Run.ifP (by get_elem_tactic_extensible) (fun h => Run.set (by get_elem_tactic_extensible) ⟨_, rfl, 1, by omega, by omega, rfl⟩) fun h => Run.next ⟨_, rfl, m, by omega, by omega, rfl⟩) fun ρ hρ => ?_
  clear hm pm
  obtain ⟨m, m1, m5, rfl⟩ := hρ
  refine Run.cut (fun ρ => ρ = [.v (.lst (row.map D.int)), .v (.int m), .v (.int k), .no, .no, .no, .no]) (Run.set (Ev.ixL (ds := tbMany) (i := at_ row 1 % 24) (Ev.vL (EvL.rep (i := 2) (ds := [.int 4, .int 5, .int 3, .int 6, .int 5, .int 4, .int 7, .int 5, .int 4, .int 6, .int 5, .int 2]) (by get_elem_tactic_extensible) (by get_elem_tactic_extensible) (by simp))) (by get_elem_tactic_extensible) (by omega) hk) ⟨_, rfl, rfl⟩) fun ρ hρ => ?_
  subst hρ
  refine Run.cut (fun ρ => ∃ k, 0 ≤ k ∧ k ≤ 7 ∧ ρ = [.v (.lst (row.map D.int)), .v (.int m), .v (.int k), .no, .no, .no, .no]) (Run.ifP (by get_elem_tactic_extensible) (fun h => Run.set (by get_elem_tactic_extensible) ⟨_, rfl, 23 - at_ row 1, by omega, by omega, rfl⟩) fun h => Run.next ⟨_, rfl, k, by omega, by omega, rfl⟩) fun ρ hρ => ?_
  clear hk pk
  obtain ⟨k, k0, k7, rfl⟩ := hρ
  refine Run.seq (Run.own (ds := []) (by get_elem_tactic_extensible) (by simp) ?_)
  refine Run.cut (fun ρ => ∃ (ps : List (Int × Int)) (a b c : Sl), ps.length ≤ 7 ∧ PairsOk m ps ∧ ρ = [.v (.lst (row.map D.int)), .v (.int m), .v (.int k), .own (ps.map pairD), a, b, c]) ?_ fun ρ hρ => ?_
  · refine Run.ifP (by get_elem_tactic_extensible) (fun h => ?_) fun h => Run.next ⟨_, rfl, [], .no, .no, .no, by simp, fun p hp => by simp at hp, rfl⟩
    refine Run.for (fun n ρ => ∃ (ps : List (Int × Int)) (a b c : Sl), ps.length = n ∧ PairsOk m ps ∧ ρ = [.v (.lst (row.map D.int)), .v (.int m), .v (.int k), .own (ps.map pairD), a, b, c]) (EvL.range1 (j := k) (by get_elem_tactic_extensible) (by omega)) ⟨[], .no, .no, .no, rfl, fun p hp => by simp at hp, rfl⟩ (fun j d ρ hd hI => ?_) fun ρ hI => ?_
    · obtain ⟨ps, a, b, c, e1, ok, rfl⟩ := hI
      obtain ⟨rfl, hj⟩ := range0_get hd
      have j7 : j < 7 := by omega
      refine ⟨_, rfl, ?_⟩
      generalize ex : at_ row (3 + 2 * (j : Int)) = x
      generalize ey : at_ row (4 + 2 * (j : Int)) = y
      have hx0 := Int.emod_nonneg x (show m ≠ 0 by omega)
      have hx1 := Int.emod_lt_of_pos x (show 0 < m by omega)
      have hy0 := Int.emod_nonneg y (show m - 1 ≠ 0 by omega)
      have hy1 := Int.emod_lt_of_pos y (show 0 < m - 1 by omega)
      obtain ⟨z0, z1, z2⟩ := mod_ne (a := x % m) (b := y % (m - 1)) (m := m) ⟨hx0, hx1⟩ ⟨hy0, hy1⟩
      have eX : Ev (v2 modD (vCall intD (aCons (v2 ixD (vVar 0) (v2 addD (vC (.int 3)) (v2 mulD (vC (.int 2)) (vVar 4)))) (aNil))) (vVar 1)) [.v (.lst (row.map D.int)), .v (.int m), .v (.int k), .own (ps.map pairD), .v (.int j), b, c] (.int (x % m)) := by
        rw [← ex]; get_elem_tactic_extensible
      refine Run.seq (Run.set eX (Run.seq (Run.set (d := .int ((x % m + 1 + y % (m - 1)) % m)) (by rw [← ey]; get_elem_tactic_extensible) ?_)))
      refine Run.cut (fun ρ => ∃ f s : Int, 0 ≤ f ∧ f < m ∧ 0 ≤ s ∧ s < m ∧ f ≠ s ∧ ρ = [.v (.lst (row.map D.int)), .v (.int m), .v (.int k), .own (ps.map pairD), .v (.int j), .v (.int f), .v (.int s)]) ?_ fun ρ hρ => ?_
      · refine Run.ifP (by get_elem_tactic_extensible) (fun h => ?_) fun h => Run.next ⟨_, rfl, _, _, hx0, hx1, z0, z1, z2, rfl⟩
        obtain ⟨w0, w1, w2⟩ := mod_ne (a := (j : Int)) (b := 0) (m := m) ⟨by omega, h.2⟩ ⟨by omega, by omega⟩
        rw [Int.add_zero] at w0 w1 w2
        exact Run.seq (Run.set (by get_elem_tactic_extensible) (Run.set (by get_elem_tactic_extensible) ⟨_, rfl, (j : Int), _, by omega, h.2, w0, w1, w2, rfl⟩))
      obtain ⟨f, s, f0, f1, s0, s1, ne, rfl⟩ := hρ
      refine Run.cut (fun ρ => ∃ f s : Int, 0 ≤ f ∧ f < m ∧ 0 ≤ s ∧ s < m ∧ f ≠ s ∧ ρ = [.v (.lst (row.map D.int)), .v (.int m), .v (.int k), .own (ps.map pairD), .v (.int j), .v (.int f), .v (.int s)]) ?_ fun ρ hρ => ?_
      · refine Run.ifP (by get_elem_tactic_extensible) (fun h => ?_) fun h => Run.next ⟨_, rfl, _, _, f0, f1, s0, s1, ne, rfl⟩
        have hj1 : 1 ≤ j := by omega
        have hm := ok _ (at_mem (xs := ps) (i := (j : Int) - 1) (by omega) (by omega))
        exact Run.seq (Run.setA (d := .int (at_ ps ((j : Int) - 1)).2) (Ev.ixT (ds := [.int (at_ ps ((j : Int) - 1)).1, .int (at_ ps ((j : Int) - 1)).2]) (Ev.ixM (A := pairD) (by get_elem_tactic_extensible) (by get_elem_tactic_extensible) (by omega) (by omega)) (by get_elem_tactic_extensible) (by omega) rfl) rfl
          (Run.setA (d := .int (at_ ps ((j : Int) - 1)).1) (Ev.ixT (ds := [.int (at_ ps ((j : Int) - 1)).1, .int (at_ ps ((j : Int) - 1)).2]) (Ev.ixM (A := pairD) (by get_elem_tactic_extensible) (by get_elem_tactic_extensible) (by omega) (by omega)) (by get_elem_tactic_extensible) (by omega) rfl) rfl
            ⟨_, rfl, _, _, hm.2.2.1, hm.2.2.2.1, hm.1, hm.2.1, Ne.symm hm.2.2.2.2, rfl⟩))
      obtain ⟨f, s, f0, f1, s0, s1, ne, rfl⟩ := hρ
      exact Run.app (xs := ps.map pairD) rfl (by get_elem_tactic_extensible) (by simp; omega) ⟨ps ++ [(f, s)], _, _, _, by simp [e1], ok.snoc ⟨f0, f1, s0, s1, ne⟩, by rw [List.map_append]; rfl⟩
    · obtain ⟨ps, a, b, c, e1, ok, rfl⟩ := hI
      refine ⟨_, rfl, ps, a, b, c, ?_, ok, rfl⟩
      rw [e1, rangeD_length]; omega
  · obtain ⟨ps, a, b, c, p7, ok, rfl⟩ := hρ
    exact Run.rel (Run.ret (by get_elem_tactic_extensible) ⟨m, ps, rfl, m1, m5, p7, ok⟩)
end
end LW
end

section
set_option maxHeartbeats 4000000
namespace LW
open PySem L2 EV
local macro_rules | `(tactic| get_elem_tactic_extensible) => `(tactic| first
  | ((with_reducible apply Ev.var); exact rfl)
  | with_reducible exact Ev.c
  | assumption
  | ((with_reducible apply Ev.add) <;> get_elem_tactic_extensible)
  | ((with_reducible apply Ev.sub) <;> get_elem_tactic_extensible)
  | ((with_reducible apply Ev.mulR) <;> get_elem_tactic_extensible)
  | ((with_reducible apply Ev.mulL) <;> get_elem_tactic_extensible)
  | ((with_reducible apply Ev.mod) <;> get_elem_tactic_extensible)
  | ((with_reducible apply Ev.fdiv) <;> get_elem_tactic_extensible)
  | ((with_reducible apply Ev.pow) <;> get_elem_tactic_extensible)
  | ((with_reducible apply Ev.neg) <;> get_elem_tactic_extensible)
  | ((with_reducible apply Ev.lt) <;> get_elem_tactic_extensible)
  | ((with_reducible apply Ev.le) <;> get_elem_tactic_extensible)
  | ((with_reducible apply Ev.gt) <;> get_elem_tactic_extensible)
  | ((with_reducible apply Ev.ge) <;> get_elem_tactic_extensible)
  | ((with_reducible apply Ev.eqI) <;> get_elem_tactic_extensible)
  | ((with_reducible apply Ev.neI) <;> get_elem_tactic_extensible)
  | ((with_reducible apply Ev.isN) <;> get_elem_tactic_extensible)
  | ((with_reducible apply Ev.notN) <;> get_elem_tactic_extensible)
  | ((with_reducible apply Ev.notP) <;> get_elem_tactic_extensible)
  | ((with_reducible apply Ev.andP) <;> get_elem_tactic_extensible)
  | ((with_reducible apply Ev.orP) <;> get_elem_tactic_extensible)
  | ((with_reducible apply Ev.int_) <;> get_elem_tactic_extensible)
  | ((with_reducible apply Ev.intB) <;> get_elem_tactic_extensible)
  | ((with_reducible apply Ev.lenL) <;> get_elem_tactic_extensible)
  | ((with_reducible apply Ev.lenT) <;> get_elem_tactic_extensible)
  | ((with_reducible apply Ev.lenS) <;> get_elem_tactic_extensible)
  | ((with_reducible apply Ev.min_) <;> get_elem_tactic_extensible)
  | ((with_reducible apply Ev.max_) <;> get_elem_tactic_extensible)
  | ((with_reducible apply Ev.abs_) <;> get_elem_tactic_extensible)
  | ((with_reducible apply Ev.tupleL) <;> get_elem_tactic_extensible)
  | ((with_reducible apply Ev.tupleT) <;> get_elem_tactic_extensible)
  | ((with_reducible apply EvL.listL) <;> get_elem_tactic_extensible)
  | ((with_reducible apply EvL.listT) <;> get_elem_tactic_extensible)
  | ((with_reducible apply Ev.ixL) <;> get_elem_tactic_extensible)
  | ((with_reducible apply Ev.ixT) <;> get_elem_tactic_extensible)
  | ((with_reducible apply Ev.ixM) <;> get_elem_tactic_extensible)
  | ((with_reducible apply Ev.ixMT) <;> get_elem_tactic_extensible)
  | ((with_reducible apply Ev.tup) <;> get_elem_tactic_extensible)
  | ((with_reducible apply Ev.vL) <;> get_elem_tactic_extensible)
  | with_reducible exact EvL.nil
  | ((with_reducible apply EvL.cons) <;> get_elem_tactic_extensible)
  | ((with_reducible apply EvL.lenOk) <;> get_elem_tactic_extensible)
  | ((with_reducible apply EvL.range1) <;> get_elem_tactic_extensible)
  | ((with_reducible apply EvL.seqL) <;> get_elem_tactic_extensible)
  | ((with_reducible apply EvL.seqT) <;> get_elem_tactic_extensible)
  | ((with_reducible apply EvL.seqS) <;> get_elem_tactic_extensible)
  | (intro; get_elem_tactic_extensible)
  | exact (show GetElem?.getElem? (List.cons _ _) _ = some _ from rfl)
  | omega
  | (simp only [List.length_map, List.length_append, List.length_replicate, List.length_cons, List.length_nil, List.length_range] <;> omega))
section
variable {mills : Int} {ps : List (Int × Int)} {low : List Int} {high : List (Option Int)} {lets : List (List Int)}
def sz8 : List Int := (List.replicate 24 [24, 23]).flatten
theorem law_free_ok (ns : List Int) (at0 mills many : Int) (h0 : 0 ≤ at0) (m1 : 1 ≤ mills) (m24 : mills ≤ 24) (n0 : 0 ≤ many) (n48 : many ≤ 48) : ∃ ps : List (Int × Int), sem_law_free [.scr ns, .int at0, .int mills, .int many] = some (.ok (.lst (ps.map pairD))) ∧ ps.length ≤ 48 ∧ PairsOk mills ps := by
  suffices H : Run g_law_free [.v (.scr ns), .v (.int at0), .v (.int mills), .v (.int many), .no, .no, .no, .no] (Ret fun d => ∃ ps : List (Int × Int), d = .lst (ps.map pairD) ∧ ps.length ≤ 48 ∧ PairsOk mills ps) by
    obtain ⟨d, h, ps, rfl, q⟩ := sem_ret (n := 8) (ds := [.scr ns, .int at0, .int mills, .int many]) H
    exact ⟨ps, h, q⟩
  obtain ⟨r1, e1, o1⟩ := dig_cell (fs := vVar 0) (fk := vVar 1) (fz := vL (nRep (vL (lenOk (aCons (vC (.int 24)) (aCons (vC (.int 23)) (aNil))))) (vC (.int 24)))) (ρ := [.v (.scr ns), .v (.int at0), .v (.int mills), .v (.int many), .no, .no, .no, .no]) sz8 (Ev.var rfl) (Ev.var rfl) h0 rfl (by decide)
  obtain ⟨r2, e2, o2⟩ := dig_cell (fs := vVar 0) (fk := v2 addD (vVar 1) (vC (.int 1))) (fz := vL (nRep (vL (lenOk (aCons (vC (.int 24)) (aCons (vC (.int 23)) (aNil))))) (vC (.int 24)))) (ρ := [.v (.scr ns), .v (.int at0), .v (.int mills), .v (.int many), .no, .no, .no, .no]) sz8 (Ev.var rfl) (Ev.add (Ev.var rfl) Ev.c) (by omega) rfl (by decide)
  have l1 : r1.length = 48 := o1.1
  have l2 : r2.length = 48 := o2.1
  refine Run.sset (d := .lst ((r1 ++ r2).map D.int)) (by rw [List.map_append]; exact Ev.addL e1 e2 (by rw [List.length_map, List.length_map]; omega)) ?_
  have hl : (r1 ++ r2).length = 96 := by rw [List.length_append]; omega
  generalize r1 ++ r2 = row at hl ⊢
  refine Run.sown (ds := []) (by get_elem_tactic_extensible) (show (5 : Nat) < 8 by decide) ?_
  show Run (gSeq _ _) [.v (.scr ns), .v (.int at0), .v (.int mills), .v (.int many), .v (.lst (row.map D.int)), .own [], .no, .no] _
  refine Run.cut (fun ρ => ∃ (ps : List (Int × Int)) (a b : Sl), ps.length ≤ 48 ∧ PairsOk mills ps ∧ ρ = [.v (.scr ns), .v (.int at0), .v (.int mills), .v (.int many), .v (.lst (row.map D.int)), .own (ps.map pairD), a, b]) ?_ fun ρ hρ => ?_
  · refine Run.ifP (P := 1 < mills) (by get_elem_tactic_extensible) (fun h => ?_) fun h => Run.next ⟨_, rfl, [], .no, .no, by simp, fun p hp => by simp at hp, rfl⟩
    refine Run.for (fun n ρ => ∃ (ps : List (Int × Int)) (a b : Sl), ps.length = n ∧ PairsOk mills ps ∧ ρ = [.v (.scr ns), .v (.int at0), .v (.int mills), .v (.int many), .v (.lst (row.map D.int)), .own (ps.map pairD), a, b]) (EvL.range1 (j := many) (by get_elem_tactic_extensible) (by omega)) ⟨[], .no, .no, rfl, fun p hp => by simp at hp, rfl⟩ (fun j d ρ hd hI => ?_) fun ρ hI => ?_
    · obtain ⟨ps, a, b, e1, ok, rfl⟩ := hI
      obtain ⟨rfl, hj⟩ := range0_get hd
      have j48 : j < 48 := by omega
      refine ⟨_, rfl, ?_⟩
      generalize ex : at_ row (2 * (j : Int)) = x
      generalize ey : at_ row (2 * (j : Int) + 1) = y
      have hx0 := Int.emod_nonneg x (show mills ≠ 0 by omega)
      have hx1 := Int.emod_lt_of_pos x (show 0 < mills by omega)
      have hy0 := Int.emod_nonneg y (show mills - 1 ≠ 0 by omega)
      have hy1 := Int.emod_lt_of_pos y (show 0 < mills - 1 by omega)
      obtain ⟨z0, z1, z2⟩ := mod_ne (a := x % mills) (b := y % (mills - 1)) (m := mills) ⟨hx0, hx1⟩ ⟨hy0, hy1⟩
      refine Run.sset (d := .int (x % mills)) (by rw [← ex]; get_elem_tactic_extensible) ?_
      refine Run.app (xs := ps.map pairD) (d := pairD (x % mills, (x % mills + 1 + y % (mills - 1)) % mills)) rfl (by rw [← ey]; exact Ev.tup (EvL.cons (Ev.var rfl) (EvL.cons (by get_elem_tactic_extensible) .nil)) (by simp)) (by simp; omega) ⟨ps ++ [(x % mills, (x % mills + 1 + y % (mills - 1)) % mills)], _, _, by simp [e1], ok.snoc ⟨hx0, hx1, z0, z1, z2⟩, by rw [List.map_append]; rfl⟩
    · obtain ⟨ps, a, b, e1, ok, rfl⟩ := hI
      refine ⟨_, rfl, ps, a, b, ?_, ok, rfl⟩
      rw [e1, rangeD_length]; omega
  · obtain ⟨ps, a, b, p7, ok, rfl⟩ := hρ
    exact Run.rel (Run.ret (by get_elem_tactic_extensible) ⟨ps, rfl, p7, ok⟩)
def sz9 : List Int := [8, 32, 64]
def sz1 : List Int := [24, 24, 6, 12, 12, 12, 12, 12, 12, 12, 12, 12, 12, 12, 12, 12, 12]
theorem law_ground_ok (ns : List Int) (at0 : Int) (h0 : 0 ≤ at0) : ∃ (mills : Int) (ps : List (Int × Int)), sem_law_ground [.scr ns, .int at0] = some (.ok (.lst [.int mills, .lst (ps.map pairD)])) ∧ 1 ≤ mills ∧ mills ≤ 24 ∧ ps.length ≤ 48 ∧ PairsOk mills ps := by
  suffices H : Run g_law_ground [.v (.scr ns), .v (.int at0), .no, .no] (Ret fun d => ∃ (mills : Int) (ps : List (Int × Int)), d = .lst [.int mills, .lst (ps.map pairD)] ∧ 1 ≤ mills ∧ mills ≤ 24 ∧ ps.length ≤ 48 ∧ PairsOk mills ps) by
    obtain ⟨d, h, mills, ps, rfl, q⟩ := sem_ret (n := 4) (ds := [.scr ns, .int at0]) H
    exact ⟨mills, ps, h, q⟩
  refine dig_run sz9 (Ev.var rfl) (Ev.var rfl) h0 rfl (by decide) fun row ro => ?_
  have hl : row.length = 3 := ro.1
  have b1 := ro.2 1 (by omega) (by omega)
  have b2 := ro.2 2 (by omega) (by omega)
  have s1 : at_ sz9 1 = 32 := rfl
  have s2 : at_ sz9 2 = 64 := rfl
  refine Run.seq (Run.ifP (P := at_ row 0 < 6) (Ev.lt (Ev.ixM (A := D.int) (Ev.var rfl) Ev.c (by omega) (by omega)) Ev.c) (fun h => ?_) fun h => Run.next ?_)
  · obtain ⟨r, er, rr⟩ := dig_cell (fs := vVar 0) (fk := v2 addD (vVar 1) (vC (.int 1))) (fz := vL (nAdd (vL (lenOk (aCons (vC (.int 24)) (aCons (vC (.int 24)) (aCons (vC (.int 6)) (aNil)))))) (vL (nRep (vL (lenOk (aCons (vC (.int 12)) (aCons (vC (.int 12)) (aNil))))) (vC (.int 7)))))) (ρ := [.v (.scr ns), .v (.int at0), .v (.lst (row.map D.int)), .no]) sz1 (Ev.var rfl) (Ev.add (Ev.var rfl) Ev.c) (by omega) rfl (by decide)
    have l1 : r.length = 17 := rr.1
    have c0 := rr.2 0 (by omega) (by omega)
    have c1 := rr.2 1 (by omega) (by omega)
    obtain ⟨mills, ps, hv, m1, m5, p7, ok⟩ := law_small_ok r l1 c0 c1
    exact Run.ret (Ev.callP (ds := [.lst (r.map D.int)]) (EvL.cons er .nil) .nil ⟨rfl, rfl⟩ hv) ⟨mills, ps, rfl, m1, by omega, by omega, ok⟩
  · refine Run.sset (d := .int (min 24 (1 + at_ row 1))) (Ev.min_ Ev.c (Ev.add Ev.c (Ev.ixM (A := D.int) (Ev.var rfl) Ev.c (by omega) (by omega)))) ?_
    obtain ⟨ps, hp, pl, ok⟩ := law_free_ok ns (at0 + 1) (min 24 (1 + at_ row 1)) (min 48 (at_ row 2)) (by omega) (by omega) (by omega) (by omega) (by omega)
    refine Run.ret (d := .lst [.int (min 24 (1 + at_ row 1)), .lst (ps.map pairD)]) (Ev.vL (EvL.lenOk (EvL.cons (Ev.var rfl) (EvL.cons (Ev.callP (ds := [.scr ns, .int (at0 + 1), .int (min 24 (1 + at_ row 1)), .int (min 48 (at_ row 2))]) (EvL.cons (Ev.var rfl) (EvL.cons (Ev.add (Ev.var rfl) Ev.c) (EvL.cons (Ev.var rfl) (EvL.cons (Ev.min_ Ev.c (Ev.ixM (A := D.int) (Ev.var rfl) Ev.c (by omega) (by omega))) .nil)))) .nil ⟨rfl, rfl⟩ hp) .nil)) (by simp))) ⟨_, ps, rfl, by omega, by omega, pl, ok⟩
end
end LW
end

section
set_option maxHeartbeats 4000000
namespace LW
open PySem L2 EV
local macro_rules | `(tactic| get_elem_tactic_extensible) => `(tactic| first
  | ((with_reducible apply Ev.var); exact rfl)
  | with_reducible exact Ev.c
  | assumption
  | ((with_reducible apply Ev.add) <;> get_elem_tactic_extensible)
  | ((with_reducible apply Ev.sub) <;> get_elem_tactic_extensible)
  | ((with_reducible apply Ev.mulR) <;> get_elem_tactic_extensible)
  | ((with_reducible apply Ev.mulL) <;> get_elem_tactic_extensible)
  | ((with_reducible apply Ev.mod) <;> get_elem_tactic_extensible)
  | ((with_reducible apply Ev.fdiv) <;> get_elem_tactic_extensible)
  | ((with_reducible apply Ev.pow) <;> get_elem_tactic_extensible)
  | ((with_reducible apply Ev.neg) <;> get_elem_tactic_extensible)
  | ((with_reducible apply Ev.lt) <;> get_elem_tactic_extensible)
  | ((with_reducible apply Ev.le) <;> get_elem_tactic_extensible)
  | ((with_reducible apply Ev.gt) <;> get_elem_tactic_extensible)
  | ((with_reducible apply Ev.ge) <;> get_elem_tactic_extensible)
  | ((with_reducible apply Ev.eqI) <;> get_elem_tactic_extensible)
  | ((with_reducible apply Ev.neI) <;> get_elem_tactic_extensible)
  | ((with_reducible apply Ev.isN) <;> get_elem_tactic_extensible)
  | ((with_reducible apply Ev.notN) <;> get_elem_tactic_extensible)
  | ((with_reducible apply Ev.notP) <;> get_elem_tactic_extensible)
  | ((with_reducible apply Ev.andP) <;> get_elem_tactic_extensible)
  | ((with_reducible apply Ev.orP) <;> get_elem_tactic_extensible)
  | ((with_reducible apply Ev.int_) <;> get_elem_tactic_extensible)
  | ((with_reducible apply Ev.intB) <;> get_elem_tactic_extensible)
  | ((with_reducible apply Ev.lenL) <;> get_elem_tactic_extensible)
  | ((with_reducible apply Ev.lenT) <;> get_elem_tactic_extensible)
  | ((with_reducible apply Ev.lenS) <;> get_elem_tactic_extensible)
  | ((with_reducible apply Ev.min_) <;> get_elem_tactic_extensible)
  | ((with_reducible apply Ev.max_) <;> get_elem_tactic_extensible)
  | ((with_reducible apply Ev.abs_) <;> get_elem_tactic_extensible)
  | ((with_reducible apply Ev.tupleL) <;> get_elem_tactic_extensible)
  | ((with_reducible apply Ev.tupleT) <;> get_elem_tactic_extensible)
  | ((with_reducible apply EvL.listL) <;> get_elem_tactic_extensible)
  | ((with_reducible apply EvL.listT) <;> get_elem_tactic_extensible)
  | ((with_reducible apply Ev.ixL) <;> get_elem_tactic_extensible)
  | ((with_reducible apply Ev.ixT) <;> get_elem_tactic_extensible)
  | ((with_reducible apply Ev.ixM) <;> get_elem_tactic_extensible)
  | ((with_reducible apply Ev.ixMT) <;> get_elem_tactic_extensible)
  | ((with_reducible apply Ev.tup) <;> get_elem_tactic_extensible)
  | ((with_reducible apply Ev.vL) <;> get_elem_tactic_extensible)
  | with_reducible exact EvL.nil
  | ((with_reducible apply EvL.cons) <;> get_elem_tactic_extensible)
  | ((with_reducible apply EvL.lenOk) <;> get_elem_tactic_extensible)
  | ((with_reducible apply EvL.range1) <;> get_elem_tactic_extensible)
  | ((with_reducible apply EvL.seqL) <;> get_elem_tactic_extensible)
  | ((with_reducible apply EvL.seqT) <;> get_elem_tactic_extensible)
  | ((with_reducible apply EvL.seqS) <;> get_elem_tactic_extensible)
  | (intro; get_elem_tactic_extensible)
  | exact (show GetElem?.getElem? (List.cons _ _) _ = some _ from rfl)
  | omega
  | (simp only [List.length_map, List.length_append, List.length_replicate, List.length_cons, List.length_nil, List.length_range] <;> omega))
section
variable {mills : Int} {ps : List (Int × Int)} {low : List Int} {high : List (Option Int)} {lets : List (List Int)}
end
end LW
end

section
set_option maxHeartbeats 4000000
namespace LW
open PySem L2 EV
local macro_rules | `(tactic| get_elem_tactic_extensible) => `(tactic| first
  | ((with_reducible apply Ev.var); exact rfl)
  | with_reducible exact Ev.c
  | assumption
  | ((with_reducible apply Ev.add) <;> get_elem_tactic_extensible)
  | ((with_reducible apply Ev.sub) <;> get_elem_tactic_extensible)
  | ((with_reducible apply Ev.mulR) <;> get_elem_tactic_extensible)
  | ((with_reducible apply Ev.mulL) <;> get_elem_tactic_extensible)
  | ((with_reducible apply Ev.mod) <;> get_elem_tactic_extensible)
  | ((with_reducible apply Ev.fdiv) <;> get_elem_tactic_extensible)
  | ((with_reducible apply Ev.pow) <;> get_elem_tactic_extensible)
  | ((with_reducible apply Ev.neg) <;> get_elem_tactic_extensible)
  | ((with_reducible apply Ev.lt) <;> get_elem_tactic_extensible)
  | ((with_reducible apply Ev.le) <;> get_elem_tactic_extensible)
  | ((with_reducible apply Ev.gt) <;> get_elem_tactic_extensible)
  | ((with_reducible apply Ev.ge) <;> get_elem_tactic_extensible)
  | ((with_reducible apply Ev.eqI) <;> get_elem_tactic_extensible)
  | ((with_reducible apply Ev.neI) <;> get_elem_tactic_extensible)
  | ((with_reducible apply Ev.isN) <;> get_elem_tactic_extensible)
  | ((with_reducible apply Ev.notN) <;> get_elem_tactic_extensible)
  | ((with_reducible apply Ev.notP) <;> get_elem_tactic_extensible)
  | ((with_reducible apply Ev.andP) <;> get_elem_tactic_extensible)
  | ((with_reducible apply Ev.orP) <;> get_elem_tactic_extensible)
  | ((with_reducible apply Ev.int_) <;> get_elem_tactic_extensible)
  | ((with_reducible apply Ev.intB) <;> get_elem_tactic_extensible)
  | ((with_reducible apply Ev.lenL) <;> get_elem_tactic_extensible)
  | ((with_reducible apply Ev.lenT) <;> get_elem_tactic_extensible)
  | ((with_reducible apply Ev.lenS) <;> get_elem_tactic_extensible)
  | ((with_reducible apply Ev.min_) <;> get_elem_tactic_extensible)
  | ((with_reducible apply Ev.max_) <;> get_elem_tactic_extensible)
  | ((with_reducible apply Ev.abs_) <;> get_elem_tactic_extensible)
  | ((with_reducible apply Ev.tupleL) <;> get_elem_tactic_extensible)
  | ((with_reducible apply Ev.tupleT) <;> get_elem_tactic_extensible)
  | ((with_reducible apply EvL.listL) <;> get_elem_tactic_extensible)
  | ((with_reducible apply EvL.listT) <;> get_elem_tactic_extensible)
  | ((with_reducible apply Ev.ixL) <;> get_elem_tactic_extensible)
  | ((with_reducible apply Ev.ixT) <;> get_elem_tactic_extensible)
  | ((with_reducible apply Ev.ixM) <;> get_elem_tactic_extensible)
  | ((with_reducible apply Ev.ixMT) <;> get_elem_tactic_extensible)
  | ((with_reducible apply Ev.tup) <;> get_elem_tactic_extensible)
  | ((with_reducible apply Ev.vL) <;> get_elem_tactic_extensible)
  | with_reducible exact EvL.nil
  | ((with_reducible apply EvL.cons) <;> get_elem_tactic_extensible)
  | ((with_reducible apply EvL.lenOk) <;> get_elem_tactic_extensible)
  | ((with_reducible apply EvL.range1) <;> get_elem_tactic_extensible)
  | ((with_reducible apply EvL.seqL) <;> get_elem_tactic_extensible)
  | ((with_reducible apply EvL.seqT) <;> get_elem_tactic_extensible)
  | ((with_reducible apply EvL.seqS) <;> get_elem_tactic_extensible)
  | (intro; get_elem_tactic_extensible)
  | exact (show GetElem?.getElem? (List.cons _ _) _ = some _ from rfl)
  | omega
  | (simp only [List.length_map, List.length_append, List.length_replicate, List.length_cons, List.length_nil, List.length_range] <;> omega))
section
variable {mills : Int} {ps : List (Int × Int)} {low : List Int} {high : List (Option Int)} {lets : List (List Int)}
theorem law_whole_int (i : Int) : sem_law_whole [.int i] = some (.ok (.bl true)) := rfl
/-- a list or a tuple of these -/
def SeqA {α : Type} (A : α → D) (V : D) (xs : List α) : Prop := V = .lst (xs.map A) ∨ V = .tup (xs.map A)
theorem SeqA.ix {α : Type} [Inhabited α] {A : α → D} {V : D} {xs : List α} (h : SeqA A V xs) {f fb : FE} {ρ : EV.Env} {i : Int} (ha : Ev f ρ V) (hb : Ev fb ρ (.int i)) (h0 : 0 ≤ i) (h1 : i < xs.length) : Ev (v2 ixD f fb) ρ (A (at_ xs i)) := by
  rcases h with rfl | rfl
  · exact Ev.ixM ha hb h0 h1
  · exact Ev.ixMT ha hb h0 h1
theorem SeqA.len {α : Type} {A : α → D} {V : D} {xs : List α} (h : SeqA A V xs) {f : FE} {ρ : EV.Env} (ha : Ev f ρ V) : Ev (vCall lenD (aCons f (aNil))) ρ (.int (xs.length : Nat)) := by
  rw [show (xs.length : Nat) = (xs.map A).length by rw [List.length_map]]
  rcases h with rfl | rfl
  · exact Ev.lenL ha
  · exact Ev.lenT ha
theorem neI_self {f fb : FE} {ρ : EV.Env} {i : Int} (ha : Ev f ρ (.int i)) (hb : Ev fb ρ (.int i)) : Ev (v2 neD f fb) ρ (.bl (decide False)) := ne_self ha hb (pl_int 8 i)
theorem range_n {f : FE} {ρ : EV.Env} {n : Nat} (h : Ev f ρ (.int (n : Nat))) (hn : n ≤ 90000) : EvL (iRange1 f) ρ (rangeD 0 n) := by
  have := EvL.range1 (f := f) (ρ := ρ) (j := (n : Nat)) h (by omega)
  exact this
theorem law_same_ok {xs : List Int} {E : D} (h : SeqA D.int E xs) (hn : xs.length ≤ 90000) : sem_law_same [.tup (xs.map D.int), E] = some (.ok (.bl true)) := by
  suffices H : Run g_law_same [.v (.tup (xs.map D.int)), .v E, .no] (Ret fun d => d = .bl true) by
    obtain ⟨d, h, rfl⟩ := sem_ret (n := 3) (ds := [.tup (xs.map D.int), E]) H
    exact h
  have hT : SeqA D.int (.tup (xs.map D.int)) xs := .inr rfl
  refine Run.seq (Run.ifP (P := ¬ True ∨ False) (Ev.orP (Ev.notP (P := True) (Ev.v1 (Ev.var rfl) rfl)) fun _ => neI_self (hT.len (Ev.var rfl)) (h.len (Ev.var rfl))) (fun h => ?_) fun _ => Run.next ?_)
  · rcases h with h | h
    · exact (h trivial).elim
    · exact h.elim
  refine Run.cut (fun ρ => ∃ a, ρ = [.v (.tup (xs.map D.int)), .v E, a]) ?_ fun ρ hρ => Run.ret Ev.c rfl
  refine Run.for (fun _ ρ => ∃ a, ρ = [.v (.tup (xs.map D.int)), .v E, a]) (range_n (h.len (Ev.var rfl)) hn) ⟨.no, rfl⟩ (fun k d ρ hd hI => ?_) fun ρ hI => ⟨_, rfl, hI⟩
  obtain ⟨a, rfl⟩ := hI
  obtain ⟨rfl, hk⟩ := range0_get hd
  refine ⟨_, rfl, Run.ifP (P := ¬ True ∨ False) (Ev.orP (Ev.notP (P := True) (Ev.callP (ds := [.int (at_ xs (k : Int))]) (EvL.cons (hT.ix (Ev.var rfl) (Ev.var rfl) (by omega) (by omega)) .nil) .nil ⟨rfl, rfl⟩ (law_whole_int _))) fun _ => neI_self (hT.ix (Ev.var rfl) (Ev.var rfl) (by omega) (by omega)) (h.ix (Ev.var rfl) (Ev.var rfl) (by omega) (by omega))) (fun h => ?_) fun _ => Run.next ⟨_, rfl⟩⟩
  rcases h with h | h
  · exact (h trivial).elim
  · exact h.elim
theorem law_same_rows_ok {xs : List (List Int)} {E : D} (h : SeqA letD E xs) (hn : xs.length ≤ 90000) (hx : ∀ x ∈ xs, x.length ≤ 90000) : sem_law_same_rows [.tup (xs.map letD), E] = some (.ok (.bl true)) := by
  suffices H : Run g_law_same_rows [.v (.tup (xs.map letD)), .v E, .no] (Ret fun d => d = .bl true) by
    obtain ⟨d, h, rfl⟩ := sem_ret (n := 3) (ds := [.tup (xs.map letD), E]) H
    exact h
  have hT : SeqA letD (.tup (xs.map letD)) xs := .inr rfl
  refine Run.seq (Run.ifP (P := ¬ True ∨ False) (Ev.orP (Ev.notP (P := True) (Ev.v1 (Ev.var rfl) rfl)) fun _ => neI_self (hT.len (Ev.var rfl)) (h.len (Ev.var rfl))) (fun h => ?_) fun _ => Run.next ?_)
  · rcases h with h | h
    · exact (h trivial).elim
    · exact h.elim
  refine Run.cut (fun ρ => ∃ a, ρ = [.v (.tup (xs.map letD)), .v E, a]) ?_ fun ρ hρ => Run.ret Ev.c rfl
  refine Run.for (fun _ ρ => ∃ a, ρ = [.v (.tup (xs.map letD)), .v E, a]) (range_n (h.len (Ev.var rfl)) hn) ⟨.no, rfl⟩ (fun k d ρ hd hI => ?_) fun ρ hI => ⟨_, rfl, hI⟩
  obtain ⟨a, rfl⟩ := hI
  obtain ⟨rfl, hk⟩ := range0_get hd
  have hs := law_same_ok (xs := at_ xs (k : Int)) (E := letD (at_ xs (k : Int))) (.inr rfl) (hx _ (at_mem (by omega) (by omega)))
  exact ⟨_, rfl, Run.ifP (Ev.notP (P := True) (Ev.callP (ds := [letD (at_ xs (k : Int)), letD (at_ xs (k : Int))]) (EvL.cons (hT.ix (Ev.var rfl) (Ev.var rfl) (by omega) (by omega)) (EvL.cons (h.ix (Ev.var rfl) (Ev.var rfl) (by omega) (by omega)) .nil)) .nil ⟨rfl, rfl⟩ hs)) (fun h => (h trivial).elim) fun _ => Run.next ⟨_, rfl⟩⟩
end
end LW
end

section
set_option maxHeartbeats 4000000
namespace LW
open PySem L2 EV
local macro_rules | `(tactic| get_elem_tactic_extensible) => `(tactic| first
  | ((with_reducible apply Ev.var); exact rfl)
  | with_reducible exact Ev.c
  | assumption
  | ((with_reducible apply Ev.add) <;> get_elem_tactic_extensible)
  | ((with_reducible apply Ev.sub) <;> get_elem_tactic_extensible)
  | ((with_reducible apply Ev.mulR) <;> get_elem_tactic_extensible)
  | ((with_reducible apply Ev.mulL) <;> get_elem_tactic_extensible)
  | ((with_reducible apply Ev.mod) <;> get_elem_tactic_extensible)
  | ((with_reducible apply Ev.fdiv) <;> get_elem_tactic_extensible)
  | ((with_reducible apply Ev.pow) <;> get_elem_tactic_extensible)
  | ((with_reducible apply Ev.neg) <;> get_elem_tactic_extensible)
  | ((with_reducible apply Ev.lt) <;> get_elem_tactic_extensible)
  | ((with_reducible apply Ev.le) <;> get_elem_tactic_extensible)
  | ((with_reducible apply Ev.gt) <;> get_elem_tactic_extensible)
  | ((with_reducible apply Ev.ge) <;> get_elem_tactic_extensible)
  | ((with_reducible apply Ev.eqI) <;> get_elem_tactic_extensible)
  | ((with_reducible apply Ev.neI) <;> get_elem_tactic_extensible)
  | ((with_reducible apply Ev.isN) <;> get_elem_tactic_extensible)
  | ((with_reducible apply Ev.notN) <;> get_elem_tactic_extensible)
  | ((with_reducible apply Ev.notP) <;> get_elem_tactic_extensible)
  | ((with_reducible apply Ev.andP) <;> get_elem_tactic_extensible)
  | ((with_reducible apply Ev.orP) <;> get_elem_tactic_extensible)
  | ((with_reducible apply Ev.int_) <;> get_elem_tactic_extensible)
  | ((with_reducible apply Ev.intB) <;> get_elem_tactic_extensible)
  | ((with_reducible apply Ev.lenL) <;> get_elem_tactic_extensible)
  | ((with_reducible apply Ev.lenT) <;> get_elem_tactic_extensible)
  | ((with_reducible apply Ev.lenS) <;> get_elem_tactic_extensible)
  | ((with_reducible apply Ev.min_) <;> get_elem_tactic_extensible)
  | ((with_reducible apply Ev.max_) <;> get_elem_tactic_extensible)
  | ((with_reducible apply Ev.abs_) <;> get_elem_tactic_extensible)
  | ((with_reducible apply Ev.tupleL) <;> get_elem_tactic_extensible)
  | ((with_reducible apply Ev.tupleT) <;> get_elem_tactic_extensible)
  | ((with_reducible apply EvL.listL) <;> get_elem_tactic_extensible)
  | ((with_reducible apply EvL.listT) <;> get_elem_tactic_extensible)
  | ((with_reducible apply Ev.ixL) <;> get_elem_tactic_extensible)
  | ((with_reducible apply Ev.ixT) <;> get_elem_tactic_extensible)
  | ((with_reducible apply Ev.ixM) <;> get_elem_tactic_extensible)
  | ((with_reducible apply Ev.ixMT) <;> get_elem_tactic_extensible)
  | ((with_reducible apply Ev.tup) <;> get_elem_tactic_extensible)
  | ((with_reducible apply Ev.vL) <;> get_elem_tactic_extensible)
  | with_reducible exact EvL.nil
  | ((with_reducible apply EvL.cons) <;> get_elem_tactic_extensible)
  | ((with_reducible apply EvL.lenOk) <;> get_elem_tactic_extensible)
  | ((with_reducible apply EvL.range1) <;> get_elem_tactic_extensible)
  | ((with_reducible apply EvL.seqL) <;> get_elem_tactic_extensible)
  | ((with_reducible apply EvL.seqT) <;> get_elem_tactic_extensible)
  | ((with_reducible apply EvL.seqS) <;> get_elem_tactic_extensible)
  | (intro; get_elem_tactic_extensible)
  | exact (show GetElem?.getElem? (List.cons _ _) _ = some _ from rfl)
  | omega
  | (simp only [List.length_map, List.length_append, List.length_replicate, List.length_cons, List.length_nil, List.length_range] <;> omega))
section
variable {mills : Int} {ps : List (Int × Int)} {low : List Int} {high : List (Option Int)} {lets : List (List Int)}
theorem frz_seq {α : Type} (sm : List D → Option R) (A B : α → D) (xs : List α) (hl : xs.length ≤ 90000) (h : ∀ x ∈ xs, sm [A x] = some (.ok (B x))) (S : D) (hS : S = .lst (xs.map A) ∨ S = .tup (xs.map A)) :
    semF 2 (g_frozen sm) [S] = some (.ok (.tup (xs.map B))) := by
  have hc : Ev (v1 (isD [.lst, .tup]) (vVar 0)) [.v S, .no] (.bl (decide True)) := by
    rcases hS with rfl | rfl <;> exact Ev.v1 (Ev.var rfl) rfl
  have hi : EvL (iSeq (vVar 0)) [.v S, .no] (xs.map A) := by
    rcases hS with rfl | rfl
    · exact EvL.seqL (Ev.var rfl)
    · exact EvL.seqT (Ev.var rfl)
  have hlc := EvL.lc (fi := iSeq (vVar 0)) (fg := nmG 1) (ft := vYes) (fe := vCallP 1 0 [0] sm [] (aCons (vVar 1) (aNil)) (aNil)) (vs := [1]) (ρ := [.v S, .no]) xs A (fun x => some (B x)) hi hl fun x hx =>
    item_yes (ρ1 := [.v S, .v (A x)]) rfl (Ev.callP (ds := [A x]) (EvL.cons (Ev.var rfl) .nil) .nil ⟨rfl, rfl⟩ (h x hx))
  rw [filterMap_some] at hlc
  suffices H : Run (g_frozen sm) [.v S, .no] (Ret fun d => d = .tup (xs.map B)) by
    obtain ⟨d, h, rfl⟩ := sem_ret (n := 2) (ds := [S]) H
    exact h
  exact Run.seq (Run.ifP hc (fun _ => Run.ret (Ev.tupleL (Ev.vL hlc)) rfl) fun h => (h trivial).elim)
theorem frz_int {sm : List D → Option R} (i : Int) : semF 2 (g_frozen sm) [.int i] = some (.ok (.int i)) := rfl
theorem check_pairs_ok (mills : Int) (ps : List (Int × Int)) (ok : PairsOk mills ps) : sem_check_pairs [.int mills, .tup (ps.map pairD)] = some (.ok .non) := by
  suffices H : Run g_check_pairs [.v (.int mills), .v (.tup (ps.map pairD)), .no, .no, .no] (Ret fun d => d = .non) by
    obtain ⟨d, h, rfl⟩ := sem_ret (n := 5) (ds := [.int mills, .tup (ps.map pairD)]) H
    exact h
  refine Run.for (fun _ ρ => ∃ a b c, ρ = [.v (.int mills), .v (.tup (ps.map pairD)), a, b, c]) (EvL.enumT (Ev.var rfl)) ⟨.no, .no, .no, rfl⟩ (fun k d ρ hd hI => ?_) fun ρ hI => rfl
  obtain ⟨a, b, c, rfl⟩ := hI
  obtain ⟨e, he, rfl⟩ := enum_get hd
  rw [List.getElem?_map] at he
  obtain ⟨p, hp, rfl⟩ := Option.map_eq_some_iff.mp he
  have hm := ok p (List.mem_of_getElem? hp)
  refine ⟨_, rfl, Run.ifP (P := p.1 < 0 ∨ mills ≤ p.1 ∨ p.2 < 0 ∨ mills ≤ p.2 ∨ p.1 = p.2) (by get_elem_tactic_extensible) (fun h => ?_) fun _ => Run.next ⟨_, _, _, rfl⟩⟩
  omega
def RowsI (n : Nat) (es : List D) (xs : List (List Int)) : Prop := es.length = n ∧ ∀ (k : Nat) (e : D) (x : List Int), es[k]? = some e → xs[k]? = some x → SeqA D.int e x
def RowsV (V : D) (xs : List (List Int)) : Prop := ∃ es : List D, (V = .lst es ∨ V = .tup es) ∧ RowsI xs.length es xs
theorem RowsI.snoc {n : Nat} {es : List D} {xs : List (List Int)} {e : D} {x : List Int} (h : RowsI n es xs) (hx : xs[n]? = some x) (he : SeqA D.int e x) : RowsI (n + 1) (es ++ [e]) xs := ⟨by simp [h.1], fun k e' x' h1 h2 => by
  have hl := h.1
  rcases Nat.lt_trichotomy k n with hk | hk | hk
  · rw [List.getElem?_append_left (by omega)] at h1
    exact h.2 k e' x' h1 h2
  · subst hk
    rw [List.getElem?_append_right (by omega), hl, Nat.sub_self] at h1
    rw [hx] at h2
    cases h1
    cases h2
    exact he
  · rw [List.getElem?_append_right (by omega), List.getElem?_eq_none (by simp; omega)] at h1
    cases h1⟩
theorem frozen_rows {V : D} {xs : List (List Int)} (hl : xs.length ≤ 90000) (hx : ∀ x ∈ xs, x.length ≤ 90000) (h : RowsV V xs) : sem_frozen [V] = some (.ok (.tup (xs.map letD))) := by
  obtain ⟨es, hV, hes⟩ := h
  have e1 : (es.zip xs).map Prod.fst = es := List.map_fst_zip (by have := hes.1; omega)
  have e2 : (es.zip xs).map Prod.snd = xs := List.map_snd_zip (by have := hes.1; omega)
  have hc : Ev (v1 (isD [.lst, .tup]) (vVar 0)) [.v V, .no] (.bl (decide True)) := by
    rcases hV with rfl | rfl <;> exact Ev.v1 (Ev.var rfl) rfl
  have hi : EvL (iSeq (vVar 0)) [.v V, .no] ((es.zip xs).map Prod.fst) := by
    rw [e1]
    rcases hV with rfl | rfl
    · exact EvL.seqL (Ev.var rfl)
    · exact EvL.seqT (Ev.var rfl)
  have hlc := EvL.lc (fi := iSeq (vVar 0)) (fg := nmG 1) (ft := vYes) (fe := vCallP 1 0 [0] sem_frozen_2 [] (aCons (vVar 1) (aNil)) (aNil)) (vs := [1]) (ρ := [.v V, .no]) (es.zip xs) Prod.fst (fun z => some (letD z.2)) hi (by rw [List.length_zip, hes.1]; omega) fun z hz => by
    obtain ⟨k, hk, rfl⟩ := List.mem_iff_getElem.mp hz
    rw [List.length_zip] at hk
    have hkx : k < xs.length := by omega
    have hke : k < es.length := by omega
    rw [List.getElem_zip]
    refine item_yes (ρ1 := [.v V, .v es[k]]) rfl (Ev.callP (ds := [es[k]]) (EvL.cons (Ev.var rfl) .nil) .nil ⟨rfl, rfl⟩ ?_)
    exact frz_seq sem_frozen_1 D.int D.int xs[k] (hx _ (List.getElem_mem hkx)) (fun y _ => frz_int y) _ (hes.2 k _ _ (List.getElem?_eq_getElem hke) (List.getElem?_eq_getElem hkx))
  rw [filterMap_some] at hlc
  have e3 : (es.zip xs).map (fun z => letD z.2) = xs.map letD := by
    have : (es.zip xs).map (fun z => letD z.2) = ((es.zip xs).map Prod.snd).map letD := by rw [List.map_map]; rfl
    rw [this, e2]
  rw [e3] at hlc
  suffices H : Run (g_frozen sem_frozen_2) [.v V, .no] (Ret fun d => d = .tup (xs.map letD)) by
    obtain ⟨d, h, rfl⟩ := sem_ret (n := 2) (ds := [V]) H
    exact h
  exact Run.seq (Run.ifP hc (fun _ => Run.ret (Ev.tupleL (Ev.vL hlc)) rfl) fun h => (h trivial).elim)
def pr2 (ps : List (Int × Int)) : List (List Int) := ps.map fun p => [p.1, p.2]
theorem pr2_map (ps : List (Int × Int)) : (pr2 ps).map letD = ps.map pairD := by
  unfold pr2
  rw [List.map_map]
  rfl
theorem pr2_len (ps : List (Int × Int)) : (pr2 ps).length = ps.length := List.length_map _
theorem pr2_row (ps : List (Int × Int)) : ∀ x ∈ pr2 ps, x.length ≤ 90000 := fun x hx => by
  obtain ⟨p, _, rfl⟩ := List.mem_map.mp hx
  simp
theorem Valley_okR {mills : Int} {ps : List (Int × Int)} {V : D} (ok : PairsOk mills ps) (hl : ps.length ≤ 1000) (hV : RowsV V (pr2 ps)) : sem_Valley__init [.int mills, V] = some (.ok (landD mills ps)) := by
  refine sem_ins (n := 4) (ds := [.int mills, V]) ?_
  show Run g_Valley__init [.ins 7 [], .v (.int mills), .v V, .no] _
  have ef := frozen_rows (by rw [pr2_len]; omega) (pr2_row ps) hV
  rw [pr2_map] at ef
  refine Run.sset (Ev.callP (ds := [V]) (EvL.cons (Ev.var rfl) .nil) .nil ⟨rfl, rfl⟩ ef) (Run.sdrop (Ev.callP (ds := [.int mills, .tup (ps.map pairD)]) (EvL.cons (Ev.var rfl) (EvL.cons (Ev.var rfl) .nil)) .nil ⟨rfl, rfl⟩ (check_pairs_ok mills ps ok)) ?_)
  exact Run.sfld (xs := []) rfl rfl (Ev.var rfl) (Run.fld (xs := [.int mills]) rfl rfl (Ev.var rfl) ⟨_, rfl, rfl⟩)
theorem SeqA.isNon {α : Type} {A : α → D} {V : D} {xs : List α} (h : SeqA A V xs) : V.isNon = false := by rcases h with rfl | rfl <;> rfl
theorem RowsV.isNon {V : D} {xs : List (List Int)} (h : RowsV V xs) : V.isNon = false := by
  obtain ⟨es, h, _⟩ := h
  rcases h with rfl | rfl <;> rfl
def formD {α : Type} (A : α → D) (xs : List α) (f : Int) : D := if f = 1 then .lst (xs.map A) else .tup (xs.map A)
theorem formD_seq {α : Type} (A : α → D) (xs : List α) (f : Int) : SeqA A (formD A xs f) xs := by
  unfold formD
  split
  · exact .inl rfl
  · exact .inr rfl
theorem law_form_ok {α : Type} {A : α → D} {V : D} {xs : List α} (h : SeqA A V xs) (f : Int) : sem_law_form [V, .int f] = some (.ok (formD A xs f)) := by
  suffices H : Run g_law_form [.v V, .v (.int f)] (Ret fun d => d = formD A xs f) by
    obtain ⟨d, h, rfl⟩ := sem_ret (n := 2) (ds := [V, .int f]) H
    exact h
  refine Run.seq (Run.ifP (P := f = 1) (by get_elem_tactic_extensible) (fun hf => ?_) fun hf => Run.next ?_)
  · refine Run.ret (d := .lst (xs.map A)) ?_ (by show D.lst _ = formD A xs f; unfold formD; rw [if_pos hf])
    rcases h with rfl | rfl
    · exact Ev.vL (EvL.listL (Ev.var rfl))
    · exact Ev.vL (EvL.listT (Ev.var rfl))
  · refine Run.ret (d := .tup (xs.map A)) ?_ (by show D.tup _ = formD A xs f; unfold formD; rw [if_neg hf])
    rcases h with rfl | rfl
    · exact Ev.tupleL (Ev.var rfl)
    · exact Ev.tupleT (Ev.var rfl)
theorem law_handed_ok (xs : List (List Int)) (f : Int) (hl : xs.length ≤ 1000) : ∃ V, sem_law_handed [.lst (xs.map letD), .int f] = some (.ok V) ∧ RowsV V xs := by
  suffices H : Run g_law_handed [.v (.lst (xs.map letD)), .v (.int f), .no, .no] (Ret fun d => RowsV d xs) by
    obtain ⟨d, h, q⟩ := sem_ret (n := 4) (ds := [.lst (xs.map letD), .int f]) H
    exact ⟨d, h, q⟩
  have hS : SeqA letD (.lst (xs.map letD)) xs := .inl rfl
  refine Run.sown (ds := []) (by get_elem_tactic_extensible) (show (2 : Nat) < 4 by decide) ?_
  refine Run.cut (fun ρ => ∃ es a, RowsI xs.length es xs ∧ ρ = [.v (.lst (xs.map letD)), .v (.int f), .own es, a]) ?_ fun ρ hρ => ?_
  · refine Run.for (fun n ρ => ∃ es a, RowsI n es xs ∧ ρ = [.v (.lst (xs.map letD)), .v (.int f), .own es, a]) (range_n (hS.len (Ev.var rfl)) (by omega)) ⟨[], .no, ⟨rfl, fun k e x h => by simp at h⟩, rfl⟩ (fun k d ρ hd hI => ?_) fun ρ hI => ?_
    · obtain ⟨es, a, hes, rfl⟩ := hI
      obtain ⟨rfl, hk⟩ := range0_get hd
      have hx : xs[k]? = some (at_ xs (k : Int)) := by
        have := at_get (xs := xs) (i := (k : Int)) (by omega) (by omega)
        rw [Int.toNat_natCast] at this
        exact this
      have q := hS.ix (f := vVar 0) (fb := vVar 3) (ρ := [.v (.lst (xs.map letD)), .v (.int f), .own es, .v (.int k)]) (i := (k : Int)) (Ev.var rfl) (Ev.var rfl) (by omega) (by omega)
      refine ⟨_, rfl, Run.ifP (P := f = 0 ∨ f = 3 ∨ (f = 2 ∨ f = 5) ∧ (k : Int) / 2 * 2 = (k : Int)) (Ev.orP (Ev.eqI (Ev.var rfl) Ev.c) fun _ => Ev.orP (Ev.eqI (Ev.var rfl) Ev.c) fun _ => Ev.andP (Ev.orP (Ev.eqI (Ev.var rfl) Ev.c) fun _ => Ev.eqI (Ev.var rfl) Ev.c) fun _ => Ev.eqI (Ev.mulR (Ev.fdiv (Ev.var rfl) Ev.c (by omega)) Ev.c (by omega)) (Ev.var rfl)) (fun _ => ?_) fun _ => ?_⟩
      · exact Run.app rfl (Ev.tupleT q) (by have := hes.1; omega) ⟨_, _, hes.snoc hx (.inr rfl), rfl⟩
      · exact Run.app rfl (Ev.vL (EvL.listT q)) (by have := hes.1; omega) ⟨_, _, hes.snoc hx (.inl rfl), rfl⟩
    · obtain ⟨es, a, hes, rfl⟩ := hI
      rw [rangeD_length] at hes
      exact ⟨_, rfl, es, a, hes, rfl⟩
  · obtain ⟨es, a, hes, rfl⟩ := hρ
    refine Run.seq (Run.ifP (P := 3 ≤ f) (by get_elem_tactic_extensible) (fun _ => Run.rel (Run.ret (Ev.tupleL (Ev.var rfl)) ⟨es, .inr rfl, hes⟩)) fun _ => Run.next (Run.rel (Run.ret (Ev.var rfl) ⟨es, .inl rfl, hes⟩)))
end
end LW
end

section
set_option maxHeartbeats 4000000
namespace LW
open PySem L2 EV
local macro_rules | `(tactic| get_elem_tactic_extensible) => `(tactic| first
  | ((with_reducible apply Ev.var); exact rfl)
  | with_reducible exact Ev.c
  | assumption
  | ((with_reducible apply Ev.add) <;> get_elem_tactic_extensible)
  | ((with_reducible apply Ev.sub) <;> get_elem_tactic_extensible)
  | ((with_reducible apply Ev.mulR) <;> get_elem_tactic_extensible)
  | ((with_reducible apply Ev.mulL) <;> get_elem_tactic_extensible)
  | ((with_reducible apply Ev.mod) <;> get_elem_tactic_extensible)
  | ((with_reducible apply Ev.fdiv) <;> get_elem_tactic_extensible)
  | ((with_reducible apply Ev.pow) <;> get_elem_tactic_extensible)
  | ((with_reducible apply Ev.neg) <;> get_elem_tactic_extensible)
  | ((with_reducible apply Ev.lt) <;> get_elem_tactic_extensible)
  | ((with_reducible apply Ev.le) <;> get_elem_tactic_extensible)
  | ((with_reducible apply Ev.gt) <;> get_elem_tactic_extensible)
  | ((with_reducible apply Ev.ge) <;> get_elem_tactic_extensible)
  | ((with_reducible apply Ev.eqI) <;> get_elem_tactic_extensible)
  | ((with_reducible apply Ev.neI) <;> get_elem_tactic_extensible)
  | ((with_reducible apply Ev.isN) <;> get_elem_tactic_extensible)
  | ((with_reducible apply Ev.notN) <;> get_elem_tactic_extensible)
  | ((with_reducible apply Ev.notP) <;> get_elem_tactic_extensible)
  | ((with_reducible apply Ev.andP) <;> get_elem_tactic_extensible)
  | ((with_reducible apply Ev.orP) <;> get_elem_tactic_extensible)
  | ((with_reducible apply Ev.int_) <;> get_elem_tactic_extensible)
  | ((with_reducible apply Ev.intB) <;> get_elem_tactic_extensible)
  | ((with_reducible apply Ev.lenL) <;> get_elem_tactic_extensible)
  | ((with_reducible apply Ev.lenT) <;> get_elem_tactic_extensible)
  | ((with_reducible apply Ev.lenS) <;> get_elem_tactic_extensible)
  | ((with_reducible apply Ev.min_) <;> get_elem_tactic_extensible)
  | ((with_reducible apply Ev.max_) <;> get_elem_tactic_extensible)
  | ((with_reducible apply Ev.abs_) <;> get_elem_tactic_extensible)
  | ((with_reducible apply Ev.tupleL) <;> get_elem_tactic_extensible)
  | ((with_reducible apply Ev.tupleT) <;> get_elem_tactic_extensible)
  | ((with_reducible apply EvL.listL) <;> get_elem_tactic_extensible)
  | ((with_reducible apply EvL.listT) <;> get_elem_tactic_extensible)
  | ((with_reducible apply Ev.ixL) <;> get_elem_tactic_extensible)
  | ((with_reducible apply Ev.ixT) <;> get_elem_tactic_extensible)
  | ((with_reducible apply Ev.ixM) <;> get_elem_tactic_extensible)
  | ((with_reducible apply Ev.ixMT) <;> get_elem_tactic_extensible)
  | ((with_reducible apply Ev.tup) <;> get_elem_tactic_extensible)
  | ((with_reducible apply Ev.vL) <;> get_elem_tactic_extensible)
  | with_reducible exact EvL.nil
  | ((with_reducible apply EvL.cons) <;> get_elem_tactic_extensible)
  | ((with_reducible apply EvL.lenOk) <;> get_elem_tactic_extensible)
  | ((with_reducible apply EvL.range1) <;> get_elem_tactic_extensible)
  | ((with_reducible apply EvL.seqL) <;> get_elem_tactic_extensible)
  | ((with_reducible apply EvL.seqT) <;> get_elem_tactic_extensible)
  | ((with_reducible apply EvL.seqS) <;> get_elem_tactic_extensible)
  | (intro; get_elem_tactic_extensible)
  | exact (show GetElem?.getElem? (List.cons _ _) _ = some _ from rfl)
  | omega
  | (simp only [List.length_map, List.length_append, List.length_replicate, List.length_cons, List.length_nil, List.length_range] <;> omega))
section
variable {mills : Int} {ps : List (Int × Int)} {low : List Int} {high : List (Option Int)} {lets : List (List Int)}
def cntL (m : Nat) (ps : List (Int × Int)) (bs : List Int) : Nat → List Int
  | 0 => List.replicate m 0
  | n + 1 => (cntL m ps bs n).set (mE (at_ ps (n : Int)) (at_ bs (n : Int))).toNat (at_ (cntL m ps bs n) (mE (at_ ps (n : Int)) (at_ bs (n : Int))) + 1)
theorem mE_ok {mills : Int} {p : Int × Int} (h : 0 ≤ p.1 ∧ p.1 < mills ∧ 0 ≤ p.2 ∧ p.2 < mills ∧ p.1 ≠ p.2) (s : Int) : 0 ≤ mE p s ∧ mE p s < mills := by
  unfold mE
  split
  · exact ⟨h.1, h.2.1⟩
  · exact ⟨h.2.2.1, h.2.2.2.1⟩
theorem cntL_len (m : Nat) (ps : List (Int × Int)) (bs : List Int) : ∀ n, (cntL m ps bs n).length = m
  | 0 => by simp [cntL]
  | n + 1 => by rw [cntL, List.length_set, cntL_len m ps bs n]
theorem zip2_get {α β : Type} [Inhabited α] [Inhabited β] {A : α → D} {B : β → D} {xs : List α} {ys : List β} {k : Nat} {d : D} (h : (zipW2 (xs.map A) (ys.map B))[k]? = some d) : d = .tup [A (at_ xs (k : Int)), B (at_ ys (k : Int))] ∧ k < xs.length ∧ k < ys.length := by
  have hl := (List.getElem?_eq_some_iff.mp h).1
  rw [zipW2_length, List.length_map, List.length_map] at hl
  have g1 := at_get (xs := xs) (i := (k : Int)) (by omega) (by omega)
  have g2 := at_get (xs := ys) (i := (k : Int)) (by omega) (by omega)
  rw [Int.toNat_natCast] at g1 g2
  have q := zipW2_get (xs.map A) (ys.map B) k (A (at_ xs (k : Int))) (B (at_ ys (k : Int))) (by rw [List.getElem?_map, g1]; rfl) (by rw [List.getElem?_map, g2]; rfl)
  rw [h] at q
  exact ⟨Option.some.inj q, by omega, by omega⟩
theorem SeqA.seqD {α : Type} {A : α → D} {V : D} {xs : List α} (h : SeqA A V xs) : EV.seqD V = some (xs.map A) := by rcases h with rfl | rfl <;> rfl
theorem EvL.zip2 {α β : Type} {A : α → D} {B : β → D} {V U : D} {xs : List α} {ys : List β} {fa fb : FE} {ρ : EV.Env} (ha : Ev fa ρ V) (hb : Ev fb ρ U) (hV : SeqA A V xs) (hU : SeqA B U ys) : EvL (iZip2 fa fb) ρ (zipW2 (xs.map A) (ys.map B)) := by
  unfold EvL iZip2
  rw [ha, hb]
  show (EV.seqD V).bind _ = _
  rw [hV.seqD]
  show (EV.seqD U).map _ = _
  rw [hU.seqD]
  rfl
theorem enum_map {α : Type} [Inhabited α] (A : α → D) (xs : List α) : enumFrom 0 (xs.map A) = (List.range xs.length).map fun k : Nat => D.tup [.int (k : Nat), A (at_ xs (k : Int))] := by
  apply List.ext_getElem?
  intro i
  by_cases h : i < xs.length
  · have g1 := at_get (xs := xs) (i := (i : Int)) (by omega) (by omega)
    rw [Int.toNat_natCast] at g1
    rw [enumFrom_get (xs.map A) 0 i (A (at_ xs (i : Int))) (by rw [List.getElem?_map, g1]; rfl), List.getElem?_map, List.getElem?_range h, Nat.zero_add]
    rfl
  · rw [List.getElem?_eq_none (by rw [enumFrom_length, List.length_map]; omega), List.getElem?_eq_none (by rw [List.length_map, List.length_range]; omega)]
theorem EvL.enumS {α : Type} [Inhabited α] {A : α → D} {V : D} {xs : List α} {f : FE} {ρ : EV.Env} (h : SeqA A V xs) (e : Ev f ρ V) : EvL (iEnum f) ρ ((List.range xs.length).map fun k : Nat => D.tup [.int (k : Nat), A (at_ xs (k : Int))]) := by
  rw [← enum_map]
  rcases h with rfl | rfl
  · exact EvL.enumL e
  · exact EvL.enumT e
/-- the numbers below n that pass, as ints -/
def pickL (n : Nat) (q : Nat → Bool) : List Int := ((List.range n).filter q).map fun k : Nat => (k : Int)
theorem pickL_of {n : Nat} {q : Nat → Prop} [DecidablePred q] : (List.range n).filterMap (fun k : Nat => if q k then some (D.int (k : Nat)) else none) = (pickL n fun k => decide (q k)).map D.int := by
  rw [filterMap_if (fun k : Nat => D.int (k : Nat)) q]
  unfold pickL
  rw [List.map_map]
  rfl
theorem pickL_nil {n : Nat} {q : Nat → Bool} : pickL n q = [] ↔ ∀ k, k < n → q k = false := by
  unfold pickL
  rw [List.map_eq_nil_iff, List.filter_eq_nil_iff]
  constructor
  · intro h k hk
    have := h k (List.mem_range.mpr hk)
    simpa using this
  · intro h k hk
    rw [h k (List.mem_range.mp hk)]
    simp
theorem pickL_len (n : Nat) (q : Nat → Bool) : (pickL n q).length ≤ n := by
  unfold pickL
  rw [List.length_map]
  refine Nat.le_trans (List.length_filter_le _ _) ?_
  rw [List.length_range]
  exact Nat.le_refl n
end
end LW
end

section
set_option maxHeartbeats 4000000
namespace LW
open PySem L2 EV
local macro_rules | `(tactic| get_elem_tactic_extensible) => `(tactic| first
  | ((with_reducible apply Ev.var); exact rfl)
  | with_reducible exact Ev.c
  | assumption
  | ((with_reducible apply Ev.add) <;> get_elem_tactic_extensible)
  | ((with_reducible apply Ev.sub) <;> get_elem_tactic_extensible)
  | ((with_reducible apply Ev.mulR) <;> get_elem_tactic_extensible)
  | ((with_reducible apply Ev.mulL) <;> get_elem_tactic_extensible)
  | ((with_reducible apply Ev.mod) <;> get_elem_tactic_extensible)
  | ((with_reducible apply Ev.fdiv) <;> get_elem_tactic_extensible)
  | ((with_reducible apply Ev.pow) <;> get_elem_tactic_extensible)
  | ((with_reducible apply Ev.neg) <;> get_elem_tactic_extensible)
  | ((with_reducible apply Ev.lt) <;> get_elem_tactic_extensible)
  | ((with_reducible apply Ev.le) <;> get_elem_tactic_extensible)
  | ((with_reducible apply Ev.gt) <;> get_elem_tactic_extensible)
  | ((with_reducible apply Ev.ge) <;> get_elem_tactic_extensible)
  | ((with_reducible apply Ev.eqI) <;> get_elem_tactic_extensible)
  | ((with_reducible apply Ev.neI) <;> get_elem_tactic_extensible)
  | ((with_reducible apply Ev.isN) <;> get_elem_tactic_extensible)
  | ((with_reducible apply Ev.notN) <;> get_elem_tactic_extensible)
  | ((with_reducible apply Ev.notP) <;> get_elem_tactic_extensible)
  | ((with_reducible apply Ev.andP) <;> get_elem_tactic_extensible)
  | ((with_reducible apply Ev.orP) <;> get_elem_tactic_extensible)
  | ((with_reducible apply Ev.int_) <;> get_elem_tactic_extensible)
  | ((with_reducible apply Ev.intB) <;> get_elem_tactic_extensible)
  | ((with_reducible apply Ev.lenL) <;> get_elem_tactic_extensible)
  | ((with_reducible apply Ev.lenT) <;> get_elem_tactic_extensible)
  | ((with_reducible apply Ev.lenS) <;> get_elem_tactic_extensible)
  | ((with_reducible apply Ev.min_) <;> get_elem_tactic_extensible)
  | ((with_reducible apply Ev.max_) <;> get_elem_tactic_extensible)
  | ((with_reducible apply Ev.abs_) <;> get_elem_tactic_extensible)
  | ((with_reducible apply Ev.tupleL) <;> get_elem_tactic_extensible)
  | ((with_reducible apply Ev.tupleT) <;> get_elem_tactic_extensible)
  | ((with_reducible apply EvL.listL) <;> get_elem_tactic_extensible)
  | ((with_reducible apply EvL.listT) <;> get_elem_tactic_extensible)
  | ((with_reducible apply Ev.ixL) <;> get_elem_tactic_extensible)
  | ((with_reducible apply Ev.ixT) <;> get_elem_tactic_extensible)
  | ((with_reducible apply Ev.ixM) <;> get_elem_tactic_extensible)
  | ((with_reducible apply Ev.ixMT) <;> get_elem_tactic_extensible)
  | ((with_reducible apply Ev.tup) <;> get_elem_tactic_extensible)
  | ((with_reducible apply Ev.vL) <;> get_elem_tactic_extensible)
  | with_reducible exact EvL.nil
  | ((with_reducible apply EvL.cons) <;> get_elem_tactic_extensible)
  | ((with_reducible apply EvL.lenOk) <;> get_elem_tactic_extensible)
  | ((with_reducible apply EvL.range1) <;> get_elem_tactic_extensible)
  | ((with_reducible apply EvL.seqL) <;> get_elem_tactic_extensible)
  | ((with_reducible apply EvL.seqT) <;> get_elem_tactic_extensible)
  | ((with_reducible apply EvL.seqS) <;> get_elem_tactic_extensible)
  | (intro; get_elem_tactic_extensible)
  | exact (show GetElem?.getElem? (List.cons _ _) _ = some _ from rfl)
  | omega
  | (simp only [List.length_map, List.length_append, List.length_replicate, List.length_cons, List.length_nil, List.length_range] <;> omega))
section
variable {mills : Int} {ps : List (Int × Int)} {low : List Int} {high : List (Option Int)} {lets : List (List Int)}
theorem law_fed_eq (m1 : 1 ≤ mills) (m2 : mills ≤ 1000) (ok : PairsOk mills ps) (hp : ps.length ≤ 1000) {bs : List Int} {V : D} (hb : Bits ps.length bs) (hV : SeqA D.int V bs) : sem_law_fed [.int mills, .lst (ps.map pairD), V] = some (.ok (.lst ((cntL mills.toNat ps bs ps.length).map D.int))) := by
  suffices H : Run g_law_fed [.v (.int mills), .v (.lst (ps.map pairD)), .v V, .no, .no, .no] (Ret fun d => d = .lst ((cntL mills.toNat ps bs ps.length).map D.int)) by
    obtain ⟨d, h, rfl⟩ := sem_ret (n := 6) (ds := [.int mills, .lst (ps.map pairD), V]) H
    exact h
  have hbl : bs.length = ps.length := hb.1
  refine Run.seq (Run.own (EvL.lcr (fun _ => .int 0) (EvL.range1 (j := mills) (Ev.var rfl) (by omega)) (by omega) fun k hk => by get_elem_tactic_extensible) (by simp) ?_)
  rw [map_zero]
  refine Run.seq (Run.for (fun n ρ => ∃ a b, ρ = [.v (.int mills), .v (.lst (ps.map pairD)), .v V, .own ((cntL mills.toNat ps bs n).map D.int), a, b]) (EvL.range1 (j := ((ps.map pairD).length : Nat)) (Ev.lenL (Ev.var rfl)) (by rw [List.length_map]; omega)) ⟨.no, .no, rfl⟩ (fun k d ρ hd hI => ?_) fun ρ hI => ?_)
  · obtain ⟨a, b, rfl⟩ := hI
    obtain ⟨rfl, hk⟩ := range0_get hd
    have hk : k < ps.length := by rw [List.length_map] at hk; omega
    have hm := ok _ (at_mem (xs := ps) (i := (k : Int)) (by omega) (by omega))
    have hr := mE_ok hm (at_ bs (k : Int))
    have hcl := cntL_len mills.toNat ps bs k
    refine ⟨_, rfl, Run.sset (pair_at (Ev.ixM (A := pairD) (Ev.var rfl) (Ev.var rfl) (by omega) (by omega)) (hV.ix (Ev.var rfl) (Ev.var rfl) (by omega) (by omega)) (hb.at (k := (k : Int)) (by omega) (by omega))) ?_⟩
    exact Run.setIxA (xs := (cntL mills.toNat ps bs k).map D.int) (k := mE (at_ ps (k : Int)) (at_ bs (k : Int))) (d := .int (at_ (cntL mills.toNat ps bs k) (mE (at_ ps (k : Int)) (at_ bs (k : Int))) + 1)) rfl (Ev.add (Ev.ixM (A := D.int) (Ev.var rfl) (Ev.var rfl) hr.1 (by omega)) Ev.c) rfl (Ev.var rfl) hr.1 (by rw [List.length_map]; omega) ⟨_, _, by rw [cntL, ← map_set]; rfl⟩
  · obtain ⟨a, b, rfl⟩ := hI
    rw [rangeD_length, Int.toNat_natCast, List.length_map]
    exact Run.rel (Run.ret (Ev.var rfl) rfl)
theorem pick_lc {n : Nat} {fi : FL} {ft : FE} {v : Nat} {ρ : EV.Env} (q : Nat → Prop) [DecidablePred q] (hi : EvL fi ρ (rangeD 0 n)) (hn : n ≤ 90000) (ht : ∀ k : Nat, k < n → Ev ft ((mask (wipeE ρ [v])).set v (.v (.int (k : Nat)))) (.bl (decide (q k)))) (hv : ∀ d, Ev (vVar v) ((mask (wipeE ρ [v])).set v (.v d)) d) :
    EvL (nLc fi (nmG v) ft (vVar v) [v]) ρ ((pickL n fun k => decide (q k)).map D.int) := by
  have h := EvL.lc (fi := fi) (fg := nmG v) (ft := ft) (fe := vVar v) (vs := [v]) (ρ := ρ) (List.range n) (fun j => D.int ((j : Nat) : Int)) (fun j => if q j then some (.int (j : Nat)) else none) (by rw [← range0_map]; exact hi) (by rw [List.length_range]; omega) fun j hj => item_if rfl (ht j (List.mem_range.mp hj)) fun _ => hv _
  rw [pickL_of] at h
  exact h
theorem formD_pl (bs : List Int) (f : Int) : D.pl 8 (formD D.int bs f) = true := by
  unfold formD
  split
  · exact pl_lst (n := 7) (pls_map (pl_int 7) bs)
  · exact pl_tup (n := 7) (pls_map (pl_int 7) bs)
end
end LW
end

section
set_option maxHeartbeats 4000000
namespace LW
open PySem L2 EV
local macro_rules | `(tactic| get_elem_tactic_extensible) => `(tactic| first
  | ((with_reducible apply Ev.var); exact rfl)
  | with_reducible exact Ev.c
  | assumption
  | ((with_reducible apply Ev.add) <;> get_elem_tactic_extensible)
  | ((with_reducible apply Ev.sub) <;> get_elem_tactic_extensible)
  | ((with_reducible apply Ev.mulR) <;> get_elem_tactic_extensible)
  | ((with_reducible apply Ev.mulL) <;> get_elem_tactic_extensible)
  | ((with_reducible apply Ev.mod) <;> get_elem_tactic_extensible)
  | ((with_reducible apply Ev.fdiv) <;> get_elem_tactic_extensible)
  | ((with_reducible apply Ev.pow) <;> get_elem_tactic_extensible)
  | ((with_reducible apply Ev.neg) <;> get_elem_tactic_extensible)
  | ((with_reducible apply Ev.lt) <;> get_elem_tactic_extensible)
  | ((with_reducible apply Ev.le) <;> get_elem_tactic_extensible)
  | ((with_reducible apply Ev.gt) <;> get_elem_tactic_extensible)
  | ((with_reducible apply Ev.ge) <;> get_elem_tactic_extensible)
  | ((with_reducible apply Ev.eqI) <;> get_elem_tactic_extensible)
  | ((with_reducible apply Ev.neI) <;> get_elem_tactic_extensible)
  | ((with_reducible apply Ev.isN) <;> get_elem_tactic_extensible)
  | ((with_reducible apply Ev.notN) <;> get_elem_tactic_extensible)
  | ((with_reducible apply Ev.notP) <;> get_elem_tactic_extensible)
  | ((with_reducible apply Ev.andP) <;> get_elem_tactic_extensible)
  | ((with_reducible apply Ev.orP) <;> get_elem_tactic_extensible)
  | ((with_reducible apply Ev.int_) <;> get_elem_tactic_extensible)
  | ((with_reducible apply Ev.intB) <;> get_elem_tactic_extensible)
  | ((with_reducible apply Ev.lenL) <;> get_elem_tactic_extensible)
  | ((with_reducible apply Ev.lenT) <;> get_elem_tactic_extensible)
  | ((with_reducible apply Ev.lenS) <;> get_elem_tactic_extensible)
  | ((with_reducible apply Ev.min_) <;> get_elem_tactic_extensible)
  | ((with_reducible apply Ev.max_) <;> get_elem_tactic_extensible)
  | ((with_reducible apply Ev.abs_) <;> get_elem_tactic_extensible)
  | ((with_reducible apply Ev.tupleL) <;> get_elem_tactic_extensible)
  | ((with_reducible apply Ev.tupleT) <;> get_elem_tactic_extensible)
  | ((with_reducible apply EvL.listL) <;> get_elem_tactic_extensible)
  | ((with_reducible apply EvL.listT) <;> get_elem_tactic_extensible)
  | ((with_reducible apply Ev.ixL) <;> get_elem_tactic_extensible)
  | ((with_reducible apply Ev.ixT) <;> get_elem_tactic_extensible)
  | ((with_reducible apply Ev.ixM) <;> get_elem_tactic_extensible)
  | ((with_reducible apply Ev.ixMT) <;> get_elem_tactic_extensible)
  | ((with_reducible apply Ev.tup) <;> get_elem_tactic_extensible)
  | ((with_reducible apply Ev.vL) <;> get_elem_tactic_extensible)
  | with_reducible exact EvL.nil
  | ((with_reducible apply EvL.cons) <;> get_elem_tactic_extensible)
  | ((with_reducible apply EvL.lenOk) <;> get_elem_tactic_extensible)
  | ((with_reducible apply EvL.range1) <;> get_elem_tactic_extensible)
  | ((with_reducible apply EvL.seqL) <;> get_elem_tactic_extensible)
  | ((with_reducible apply EvL.seqT) <;> get_elem_tactic_extensible)
  | ((with_reducible apply EvL.seqS) <;> get_elem_tactic_extensible)
  | (intro; get_elem_tactic_extensible)
  | exact (show GetElem?.getElem? (List.cons _ _) _ = some _ from rfl)
  | omega
  | (simp only [List.length_map, List.length_append, List.length_replicate, List.length_cons, List.length_nil, List.length_range] <;> omega))
section
variable {mills : Int} {ps : List (Int × Int)} {low : List Int} {high : List (Option Int)} {lets : List (List Int)}
theorem cut_mapA {α : Type} (A : α → D) (xs : List α) (lo hi : Option Int) : cutD (xs.map A) lo hi = ((xs.drop (HT.sIx xs.length 0 lo)).take (HT.sIx xs.length xs.length hi - HT.sIx xs.length 0 lo)).map A := by
  unfold cutD
  rw [List.length_map, List.map_take, List.map_drop]
theorem cut_upto {α : Type} (A : α → D) (xs : List α) {k : Int} (h0 : 0 ≤ k) : cutD (xs.map A) none (some k) = (xs.take k.toNat).map A := by
  rw [cut_mapA]
  have e : HT.sIx xs.length xs.length (some k) = min k.toNat xs.length := by
    show (if k < 0 then _ else _) = _
    rw [if_neg (by omega)]
  rw [e]
  show ((xs.drop 0).take (min k.toNat xs.length - 0)).map A = _
  rw [List.drop_zero, Nat.sub_zero]
  congr 1
  rcases Nat.le_total k.toNat xs.length with h | h
  · rw [Nat.min_eq_left h]
  · rw [Nat.min_eq_right h, List.take_of_length_le h, List.take_length]
theorem sliceL_upto {α : Type} {A : α → D} {f fk : FE} {ρ : EV.Env} {xs : List α} {k : Int} (h : Ev f ρ (.lst (xs.map A))) (hk : Ev fk ρ (.int k)) (h0 : 0 ≤ k) : Ev (vSlice f oNone (oSome fk)) ρ (.lst ((xs.take k.toNat).map A)) := by
  unfold Ev vSlice
  rw [h]
  unfold oNone oSome
  rw [hk]
  show some (R.ok (D.lst (cutD (xs.map A) none (some k)))) = _
  rw [cut_upto A xs h0]
theorem Bits.snoc {n : Nat} {bs : List Int} {b : Int} (h : Bits n bs) (hb : b = 0 ∨ b = 1) : Bits (n + 1) (bs ++ [b]) := ⟨by simp [h.1], fun x hx => by
  rcases List.mem_append.mp hx with hx | hx
  · exact h.2 x hx
  · rw [List.mem_singleton.mp hx]; exact hb⟩
theorem Bits.rep {n : Nat} {b : Int} (hb : b = 0 ∨ b = 1) : Bits n (List.replicate n b) := ⟨List.length_replicate, fun x hx => by rw [(List.mem_replicate.mp hx).2]; exact hb⟩
def SetsOk (n m : Nat) (ls : List (List Int)) : Prop := ls.length = m ∧ ∀ l ∈ ls, Bits n l
theorem SetsOk.snoc {n m : Nat} {ls : List (List Int)} {l : List Int} (h : SetsOk n m ls) (hl : Bits n l) : SetsOk n (m + 1) (ls ++ [l]) := ⟨by simp [h.1], fun x hx => by
  rcases List.mem_append.mp hx with hx | hx
  · exact h.2 x hx
  · rw [List.mem_singleton.mp hx]; exact hl⟩
theorem letD_snoc {f : FE} {ρ : EV.Env} {l : List Int} {b : Int} {fb : FE} (h : Ev f ρ (letD l)) (hb : Ev fb ρ (letD [b])) (hl : l.length ≤ 1000) : Ev (v2 addD f fb) ρ (letD (l ++ [b])) := tup_map h hb (by simp; omega)
theorem rep1 (b : D) : ∀ k : Nat, (List.replicate k [b]).flatten = List.replicate k b
  | 0 => rfl
  | k + 1 => by rw [List.replicate_succ, List.flatten_cons, rep1 b k, List.replicate_succ]; rfl
end
end LW
end

section
set_option maxHeartbeats 4000000
namespace LW
open PySem L2 EV
local macro_rules | `(tactic| get_elem_tactic_extensible) => `(tactic| first
  | ((with_reducible apply Ev.var); exact rfl)
  | with_reducible exact Ev.c
  | assumption
  | ((with_reducible apply Ev.add) <;> get_elem_tactic_extensible)
  | ((with_reducible apply Ev.sub) <;> get_elem_tactic_extensible)
  | ((with_reducible apply Ev.mulR) <;> get_elem_tactic_extensible)
  | ((with_reducible apply Ev.mulL) <;> get_elem_tactic_extensible)
  | ((with_reducible apply Ev.mod) <;> get_elem_tactic_extensible)
  | ((with_reducible apply Ev.fdiv) <;> get_elem_tactic_extensible)
  | ((with_reducible apply Ev.pow) <;> get_elem_tactic_extensible)
  | ((with_reducible apply Ev.neg) <;> get_elem_tactic_extensible)
  | ((with_reducible apply Ev.lt) <;> get_elem_tactic_extensible)
  | ((with_reducible apply Ev.le) <;> get_elem_tactic_extensible)
  | ((with_reducible apply Ev.gt) <;> get_elem_tactic_extensible)
  | ((with_reducible apply Ev.ge) <;> get_elem_tactic_extensible)
  | ((with_reducible apply Ev.eqI) <;> get_elem_tactic_extensible)
  | ((with_reducible apply Ev.neI) <;> get_elem_tactic_extensible)
  | ((with_reducible apply Ev.isN) <;> get_elem_tactic_extensible)
  | ((with_reducible apply Ev.notN) <;> get_elem_tactic_extensible)
  | ((with_reducible apply Ev.notP) <;> get_elem_tactic_extensible)
  | ((with_reducible apply Ev.andP) <;> get_elem_tactic_extensible)
  | ((with_reducible apply Ev.orP) <;> get_elem_tactic_extensible)
  | ((with_reducible apply Ev.int_) <;> get_elem_tactic_extensible)
  | ((with_reducible apply Ev.intB) <;> get_elem_tactic_extensible)
  | ((with_reducible apply Ev.lenL) <;> get_elem_tactic_extensible)
  | ((with_reducible apply Ev.lenT) <;> get_elem_tactic_extensible)
  | ((with_reducible apply Ev.lenS) <;> get_elem_tactic_extensible)
  | ((with_reducible apply Ev.min_) <;> get_elem_tactic_extensible)
  | ((with_reducible apply Ev.max_) <;> get_elem_tactic_extensible)
  | ((with_reducible apply Ev.abs_) <;> get_elem_tactic_extensible)
  | ((with_reducible apply Ev.tupleL) <;> get_elem_tactic_extensible)
  | ((with_reducible apply Ev.tupleT) <;> get_elem_tactic_extensible)
  | ((with_reducible apply EvL.listL) <;> get_elem_tactic_extensible)
  | ((with_reducible apply EvL.listT) <;> get_elem_tactic_extensible)
  | ((with_reducible apply Ev.ixL) <;> get_elem_tactic_extensible)
  | ((with_reducible apply Ev.ixT) <;> get_elem_tactic_extensible)
  | ((with_reducible apply Ev.ixM) <;> get_elem_tactic_extensible)
  | ((with_reducible apply Ev.ixMT) <;> get_elem_tactic_extensible)
  | ((with_reducible apply Ev.tup) <;> get_elem_tactic_extensible)
  | ((with_reducible apply Ev.vL) <;> get_elem_tactic_extensible)
  | with_reducible exact EvL.nil
  | ((with_reducible apply EvL.cons) <;> get_elem_tactic_extensible)
  | ((with_reducible apply EvL.lenOk) <;> get_elem_tactic_extensible)
  | ((with_reducible apply EvL.range1) <;> get_elem_tactic_extensible)
  | ((with_reducible apply EvL.seqL) <;> get_elem_tactic_extensible)
  | ((with_reducible apply EvL.seqT) <;> get_elem_tactic_extensible)
  | ((with_reducible apply EvL.seqS) <;> get_elem_tactic_extensible)
  | (intro; get_elem_tactic_extensible)
  | exact (show GetElem?.getElem? (List.cons _ _) _ = some _ from rfl)
  | omega
  | (simp only [List.length_map, List.length_append, List.length_replicate, List.length_cons, List.length_nil, List.length_range] <;> omega))
section
variable {mills : Int} {ps : List (Int × Int)} {low : List Int} {high : List (Option Int)} {lets : List (List Int)}
def EvX (f : FE) (ρ : EV.Env) (x : Xn) : Prop := f ρ = some (.ex x)
theorem EvX.callP {n m : Nat} {perm : List Nat} {sem : List D → Option R} {dds ds es : List D} {fs fk : FL} {ρ : EV.Env} {x : Xn} (h : EvL fs ρ ds) (hk : EvL fk ρ es) (hl : ds.length = n ∧ es.length = m) (e : sem (pick perm (ds ++ es ++ dds)) = some (.ex x)) : EvX (vCallP n m perm sem dds fs fk) ρ x := by
  unfold EvX vCallP
  rw [h, RL1_ok, hk, RL1_ok, if_pos hl, e]
/-- the end of a def, with its error -/
def Fin (r : R) : Out → Prop
  | .rt d => r = .ok d
  | .nx _ => r = .ok .non
  | .rs x _ => r = .ex x
  | .rl xs => r = .ok (.lst xs)
  | _ => False
theorem sem_fin {n : Nat} {g : FS} {ds : List D} {r : R} (h : Run g (ds.map Sl.v ++ List.replicate (n - ds.length) Sl.no) (Fin r)) : semF n g ds = some r := by
  obtain ⟨o, e, q⟩ := h
  unfold semF
  rw [e]
  cases o with
  | nx ρ => cases (show r = .ok .non from q); rfl
  | rt d => cases (show r = .ok d from q); rfl
  | rs x ρ => cases (show r = .ex x from q); rfl
  | rl xs => cases (show r = .ok (.lst xs) from q); rfl
  | bk ρ => exact False.elim q
  | ct ρ => exact False.elim q
/-! ### a setting is in a season -/
theorem Run.ifF {fc : FE} {g1 g2 : FS} {ρ : EV.Env} {Q : Out → Prop} (e : Ev fc ρ (.bl false)) (h : Run g2 ρ Q) : Run (gIf fc g1 g2) ρ Q := Run.ifP (P := False) e (fun z => z.elim) fun _ => h
theorem Ev.andT {fa fb : FE} {ρ : EV.Env} {d : D} (ha : Ev fa ρ (.bl true)) (hb : Ev fb ρ d) : Ev (vAnd fa fb) ρ d := by
  unfold Ev vAnd
  rw [ha]
  exact hb
theorem EvL.seqA {α : Type} {A : α → D} {V : D} {xs : List α} {f : FE} {ρ : EV.Env} (h : SeqA A V xs) (e : Ev f ρ V) : EvL (iSeq f) ρ (xs.map A) := by
  rcases h with rfl | rfl
  · exact EvL.seqL e
  · exact EvL.seqT e
theorem EvL.listA {α : Type} {A : α → D} {V : D} {xs : List α} {f : FE} {ρ : EV.Env} (h : SeqA A V xs) (e : Ev f ρ V) : EvL (nCall listD (aCons f aNil)) ρ (xs.map A) := by
  rcases h with rfl | rfl
  · exact EvL.listL e
  · exact EvL.listT e
theorem rowsLet (lets : List (List Int)) : RowsV (.lst (lets.map letD)) lets := ⟨lets.map letD, .inl rfl, by simp, fun k e x h1 h2 => by
  rw [List.getElem?_map, h2] at h1
  cases h1
  exact .inr rfl⟩
end
end LW
end

section
set_option maxHeartbeats 4000000
namespace LW
open PySem L2 EV
local macro_rules | `(tactic| get_elem_tactic_extensible) => `(tactic| first
  | ((with_reducible apply Ev.var); exact rfl)
  | with_reducible exact Ev.c
  | assumption
  | ((with_reducible apply Ev.add) <;> get_elem_tactic_extensible)
  | ((with_reducible apply Ev.sub) <;> get_elem_tactic_extensible)
  | ((with_reducible apply Ev.mulR) <;> get_elem_tactic_extensible)
  | ((with_reducible apply Ev.mulL) <;> get_elem_tactic_extensible)
  | ((with_reducible apply Ev.mod) <;> get_elem_tactic_extensible)
  | ((with_reducible apply Ev.fdiv) <;> get_elem_tactic_extensible)
  | ((with_reducible apply Ev.pow) <;> get_elem_tactic_extensible)
  | ((with_reducible apply Ev.neg) <;> get_elem_tactic_extensible)
  | ((with_reducible apply Ev.lt) <;> get_elem_tactic_extensible)
  | ((with_reducible apply Ev.le) <;> get_elem_tactic_extensible)
  | ((with_reducible apply Ev.gt) <;> get_elem_tactic_extensible)
  | ((with_reducible apply Ev.ge) <;> get_elem_tactic_extensible)
  | ((with_reducible apply Ev.eqI) <;> get_elem_tactic_extensible)
  | ((with_reducible apply Ev.neI) <;> get_elem_tactic_extensible)
  | ((with_reducible apply Ev.isN) <;> get_elem_tactic_extensible)
  | ((with_reducible apply Ev.notN) <;> get_elem_tactic_extensible)
  | ((with_reducible apply Ev.notP) <;> get_elem_tactic_extensible)
  | ((with_reducible apply Ev.andP) <;> get_elem_tactic_extensible)
  | ((with_reducible apply Ev.orP) <;> get_elem_tactic_extensible)
  | ((with_reducible apply Ev.int_) <;> get_elem_tactic_extensible)
  | ((with_reducible apply Ev.intB) <;> get_elem_tactic_extensible)
  | ((with_reducible apply Ev.lenL) <;> get_elem_tactic_extensible)
  | ((with_reducible apply Ev.lenT) <;> get_elem_tactic_extensible)
  | ((with_reducible apply Ev.lenS) <;> get_elem_tactic_extensible)
  | ((with_reducible apply Ev.min_) <;> get_elem_tactic_extensible)
  | ((with_reducible apply Ev.max_) <;> get_elem_tactic_extensible)
  | ((with_reducible apply Ev.abs_) <;> get_elem_tactic_extensible)
  | ((with_reducible apply Ev.tupleL) <;> get_elem_tactic_extensible)
  | ((with_reducible apply Ev.tupleT) <;> get_elem_tactic_extensible)
  | ((with_reducible apply EvL.listL) <;> get_elem_tactic_extensible)
  | ((with_reducible apply EvL.listT) <;> get_elem_tactic_extensible)
  | ((with_reducible apply Ev.ixL) <;> get_elem_tactic_extensible)
  | ((with_reducible apply Ev.ixT) <;> get_elem_tactic_extensible)
  | ((with_reducible apply Ev.ixM) <;> get_elem_tactic_extensible)
  | ((with_reducible apply Ev.ixMT) <;> get_elem_tactic_extensible)
  | ((with_reducible apply Ev.tup) <;> get_elem_tactic_extensible)
  | ((with_reducible apply Ev.vL) <;> get_elem_tactic_extensible)
  | with_reducible exact EvL.nil
  | ((with_reducible apply EvL.cons) <;> get_elem_tactic_extensible)
  | ((with_reducible apply EvL.lenOk) <;> get_elem_tactic_extensible)
  | ((with_reducible apply EvL.range1) <;> get_elem_tactic_extensible)
  | ((with_reducible apply EvL.seqL) <;> get_elem_tactic_extensible)
  | ((with_reducible apply EvL.seqT) <;> get_elem_tactic_extensible)
  | ((with_reducible apply EvL.seqS) <;> get_elem_tactic_extensible)
  | (intro; get_elem_tactic_extensible)
  | exact (show GetElem?.getElem? (List.cons _ _) _ = some _ from rfl)
  | omega
  | (simp only [List.length_map, List.length_append, List.length_replicate, List.length_cons, List.length_nil, List.length_range] <;> omega))
def growS (ls : List (List Int)) : List (List Int) := ls.flatMap fun l => [l ++ [0], l ++ [1]]
def allS : Nat → List (List Int)
  | 0 => [[]]
  | n + 1 => growS (allS n)
theorem growS_snoc (ls : List (List Int)) (l : List Int) : growS (ls ++ [l]) = growS ls ++ [l ++ [0]] ++ [l ++ [1]] := by
  unfold growS
  rw [List.flatMap_append, List.append_assoc]
  rfl
theorem growS_len (ls : List (List Int)) : (growS ls).length = ls.length * 2 := by
  induction ls with
  | nil => rfl
  | cons l r ih =>
    show ([l ++ [0], l ++ [1]] ++ growS r).length = _
    rw [List.length_append, ih, List.length_cons]
    simp
    omega
theorem allS_len : ∀ n, (allS n).length = 2 ^ n
  | 0 => rfl
  | n + 1 => by rw [allS, growS_len, allS_len n, Nat.pow_succ]
theorem allS_bits : ∀ n, ∀ l ∈ allS n, Bits n l
  | 0, l, h => by
    have e : l = [] := by simpa [allS] using h
    subst e
    exact ⟨rfl, fun x hx => by simp at hx⟩
  | n + 1, l, h => by
    unfold allS growS at h
    obtain ⟨k, hk, hl⟩ := List.mem_flatMap.mp h
    have hb := allS_bits n k hk
    rcases List.mem_cons.mp hl with e | hl
    · rw [e]; exact hb.snoc (.inl rfl)
    · rw [List.mem_singleton.mp hl]; exact hb.snoc (.inr rfl)
theorem mod_in {x m : Int} (hm : 0 < m) : 0 ≤ x % m ∧ x % m < m := ⟨Int.emod_nonneg _ (by omega), Int.emod_lt_of_pos _ hm⟩
theorem take_at {α : Type} {xs : List α} {k : Nat} {x : α} (h : xs[k]? = some x) : xs.take (k + 1) = xs.take k ++ [x] := by rw [List.take_succ, h]; rfl
section
variable {mills : Int} {ps : List (Int × Int)}
theorem fed_ok (m1 : 1 ≤ mills) (m2 : mills ≤ 1000) (ok : PairsOk mills ps) (hp : ps.length ≤ 1000) {bs : List Int} {V : D} (hb : Bits ps.length bs) (hV : SeqA D.int V bs) : sem_fed [landD mills ps, V] = some (.ok (.tup ((cntL mills.toNat ps bs ps.length).map D.int))) := by
  suffices H : Run g_fed [.v (landD mills ps), .v V, .no, .no, .no, .no, .no] (Ret fun d => d = .tup ((cntL mills.toNat ps bs ps.length).map D.int)) by
    obtain ⟨d, h, rfl⟩ := sem_ret (n := 7) (ds := [landD mills ps, V]) H
    exact h
  have hbl : bs.length = ps.length := hb.1
  refine Run.seq (Run.own (EvL.lcr (fun _ => .int 0) (EvL.range1 (j := mills) (Ev.v1 (Ev.var rfl) rfl) (by omega)) (by omega) fun k hk => by get_elem_tactic_extensible) (by simp) ?_)
  rw [map_zero]
  show Run (gSeq _ _) [.v (landD mills ps), .v V, .own ((List.replicate mills.toNat (0 : Int)).map D.int), .no, .no, .no, .no] _
  refine Run.cut (fun ρ => ∃ a b c, ρ = [.v (landD mills ps), .v V, .own ((cntL mills.toNat ps bs ps.length).map D.int), a, b, c, .no]) ?_ fun ρ hρ => ?_
  · refine Run.for (fun n ρ => ∃ a b c, ρ = [.v (landD mills ps), .v V, .own ((cntL mills.toNat ps bs n).map D.int), a, b, c, .no]) (EvL.zip2 (Ev.v1 (Ev.var rfl) rfl) (Ev.var rfl) (.inr (rfl : D.tup (ps.map pairD) = _)) hV) ⟨.no, .no, .no, rfl⟩ (fun k d ρ hd hI => ?_) fun ρ hI => ?_
    · obtain ⟨a, b, c, rfl⟩ := hI
      obtain ⟨rfl, hk, hk2⟩ := zip2_get hd
      have hm := ok _ (at_mem (xs := ps) (i := (k : Int)) (by omega) (by omega))
      have hr := mE_ok hm (at_ bs (k : Int))
      have hcl := cntL_len mills.toNat ps bs k
      refine ⟨_, rfl, Run.sset (pair_at (Ev.var rfl) (Ev.var rfl) (hb.at (k := (k : Int)) (by omega) (by omega))) ?_⟩
      exact Run.setIxA (xs := (cntL mills.toNat ps bs k).map D.int) (k := mE (at_ ps (k : Int)) (at_ bs (k : Int))) (d := .int (at_ (cntL mills.toNat ps bs k) (mE (at_ ps (k : Int)) (at_ bs (k : Int))) + 1)) rfl (Ev.add (Ev.ixM (A := D.int) (Ev.var rfl) (Ev.var rfl) hr.1 (by omega)) Ev.c) rfl (Ev.var rfl) hr.1 (by rw [List.length_map]; omega) ⟨_, _, _, by rw [cntL, ← map_set]; rfl⟩
    · obtain ⟨a, b, c, rfl⟩ := hI
      rw [zipW2_length, List.length_map, List.length_map, hbl, Nat.min_self]
      exact ⟨_, rfl, a, b, c, rfl⟩
  · obtain ⟨a, b, c, rfl⟩ := hρ
    exact Run.rel (Run.ret (Ev.tupleL (Ev.var rfl)) rfl)
end
theorem law_settings_big (n : Nat) (hn : n ≤ 12) : sem_law_settings [.int (n : Nat)] = some (.ok (.lst ((allS n).map letD))) := by
  refine sem_fin (n := 5) (ds := [.int (n : Nat)]) ?_
  refine Run.sset (d := .lst ([[]].map letD)) rfl ?_
  refine Run.seq (Run.for (fun k ρ => ∃ a b c, ρ = [.v (.int (n : Nat)), .v (.lst ((allS k).map letD)), a, b, c]) (range_n (n := n) (Ev.var rfl) (by omega)) ⟨.no, .no, .no, rfl⟩ (fun k d ρ hd hI => ?_) fun ρ hI => ?_)
  · obtain ⟨a, b, c, rfl⟩ := hI
    obtain ⟨rfl, hk⟩ := range0_get hd
    have hp : 2 ^ k ≤ 2048 := Nat.le_trans (Nat.pow_le_pow_right (n := 2) (by omega) (show k ≤ 11 by omega)) (by decide)
    have hln := allS_len k
    have hbk := allS_bits k
    show ∃ ρ1, _ ∧ Run _ ρ1 (Turn' (fun ρ => ∃ a b c, ρ = [.v (.int (n : Nat)), .v (.lst ((growS (allS k)).map letD)), a, b, c]) _)
    generalize allS k = ls at hln hbk ⊢
    refine ⟨_, rfl, Run.sown (ds := []) rfl (show (3 : Nat) < 5 by decide) ?_⟩
    show Run (gSeq _ _) [.v (.int (n : Nat)), .v (.lst (ls.map letD)), .v (.int k), .own [], c] _
    refine Run.cut (fun ρ => ∃ (c : Sl), ρ = [.v (.int (n : Nat)), .v (.lst (ls.map letD)), .v (.int k), .own ((growS ls).map letD), c]) ?_ fun ρ hρ => ?_
    · refine Run.for (fun i ρ => ∃ (c : Sl), ρ = [.v (.int (n : Nat)), .v (.lst (ls.map letD)), .v (.int k), .own ((growS (ls.take i)).map letD), c]) (EvL.seqL (Ev.var rfl)) ⟨_, rfl⟩ (fun i d ρ hd hI => ?_) fun ρ hI => ?_
      · obtain ⟨c, rfl⟩ := hI
        rw [List.getElem?_map] at hd
        obtain ⟨l, hl, rfl⟩ := Option.map_eq_some_iff.mp hd
        have hi := (List.getElem?_eq_some_iff.mp hl).1
        have hb := hbk l (List.mem_of_getElem? hl)
        have hbl := hb.1
        have hgl : (growS (ls.take i)).length = i * 2 := by rw [growS_len, List.length_take]; omega
        have et : ls.take (i + 1) = ls.take i ++ [l] := by rw [List.take_succ, hl]; rfl
        rw [et, growS_snoc]
        generalize growS (ls.take i) = R at hgl ⊢
        refine ⟨_, rfl, Run.sapp (xs := R.map letD) (d := letD (l ++ [0])) rfl (letD_snoc (Ev.var rfl) rfl (by omega)) (by rw [List.length_map]; omega) ?_⟩
        rw [map_snoc]
        exact Run.app (xs := (R ++ [l ++ [0]]).map letD) (d := letD (l ++ [1])) rfl (letD_snoc (Ev.var rfl) rfl (by omega)) (by simp; omega) ⟨_, by rw [map_snoc]; rfl⟩
      · obtain ⟨c, rfl⟩ := hI
        rw [List.length_map, List.take_length]
        exact ⟨_, rfl, c, rfl⟩
    · obtain ⟨c, rfl⟩ := hρ
      refine Run.thenRel (Run.ownA (EvL.listL (Ev.var rfl)) (pures_map (fun x => by exact pures_map (fun y => rfl) x) _) (show (1 : Nat) < 5 by decide) ?_)
      exact ⟨_, _, _, rfl⟩
  · obtain ⟨a, b, c, rfl⟩ := hI
    rw [rangeD_length]
    exact Run.ret (Ev.var rfl) rfl
/-- one sluice turned over, a row of them -/
def flipL (g : List Int) (k : Int) : List Int := g.set k.toNat (1 - at_ g k)
theorem at_setA {α : Type} [Inhabited α] {xs : List α} {i k : Int} {v : α} (h0 : 0 ≤ i) (k0 : 0 ≤ k) (hk : k < xs.length) : at_ (xs.set i.toNat v) k = if i = k then v else at_ xs k := by
  have g := at_get (xs := xs.set i.toNat v) (i := k) k0 (by rw [List.length_set]; exact hk)
  by_cases e : i = k
  · subst e
    rw [List.getElem?_set_self (by omega)] at g
    rw [if_pos rfl]
    exact (Option.some.inj g).symm
  · rw [List.getElem?_set_ne (by omega)] at g
    have g2 := at_get (xs := xs) k0 hk
    rw [g2] at g
    rw [if_neg e]
    exact (Option.some.inj g).symm
theorem flip_bits {n : Nat} {g : List Int} (h : Bits n g) {k : Int} (h0 : 0 ≤ k) (h1 : k < n) : Bits n (flipL g k) := ⟨by unfold flipL; rw [List.length_set]; exact h.1, fun x hx => by
  rcases List.mem_or_eq_of_mem_set hx with hx | e
  · exact h.2 x hx
  · have := h.at h0 h1
    omega⟩
theorem flips_bits {n : Nat} : ∀ {ks : List Int} {g : List Int}, Bits n g → (∀ k ∈ ks, 0 ≤ k ∧ k < (n : Int)) → Bits n (ks.foldl flipL g)
  | [], _, h, _ => h
  | k :: ks, g, h, hk => flips_bits (ks := ks) (g := flipL g k) (flip_bits h (hk k List.mem_cons_self).1 (hk k List.mem_cons_self).2) fun x hx => hk x (List.mem_cons_of_mem _ hx)
theorem flip_flip {n : Nat} {g : List Int} (h : Bits n g) {k : Int} (h0 : 0 ≤ k) (h1 : k < n) : flipL (flipL g k) k = g := by
  have hl := h.1
  have e : at_ (flipL g k) k = 1 - at_ g k := by
    unfold flipL
    rw [at_setA (xs := g) h0 h0 (by omega), if_pos rfl]
  unfold flipL at e ⊢
  rw [e, List.set_set]
  have q := at_get (xs := g) h0 (by omega)
  apply List.ext_getElem?
  intro i
  rw [List.getElem?_set]
  split
  · rename_i z
    rw [← z, if_pos (by omega), q]
    congr 1
    omega
  · rfl
theorem flips_back {n : Nat} : ∀ {ks : List Int} {g : List Int}, Bits n g → (∀ k ∈ ks, 0 ≤ k ∧ k < (n : Int)) → ks.reverse.foldl flipL (ks.foldl flipL g) = g
  | [], _, _, _ => rfl
  | k :: ks, g, h, hk => by
    have k0 := hk k List.mem_cons_self
    show ((k :: ks).reverse).foldl flipL (ks.foldl flipL (flipL g k)) = g
    rw [List.reverse_cons, List.foldl_append, flips_back (ks := ks) (g := flipL g k) (flip_bits h k0.1 k0.2) fun x hx => hk x (List.mem_cons_of_mem _ hx)]
    exact flip_flip h k0.1 k0.2
theorem rev_range (xs : List Int) : (List.range xs.length).map (fun k => at_ xs ((xs.length : Int) - 1 - (k : Nat))) = xs.reverse := by
  apply List.ext_getElem?
  intro i
  rw [List.getElem?_map]
  by_cases h : i < xs.length
  · rw [List.getElem?_range h, List.getElem?_reverse h]
    show some (at_ xs ((xs.length : Int) - 1 - (i : Nat))) = _
    rw [show (xs.length : Int) - 1 - (i : Nat) = ((xs.length - 1 - i : Nat) : Int) by omega]
    have q := at_get (xs := xs) (i := ((xs.length - 1 - i : Nat) : Int)) (by omega) (by omega)
    rw [Int.toNat_natCast] at q
    exact q.symm
  · rw [List.getElem?_eq_none (by rw [List.length_range]; omega), List.getElem?_eq_none (by rw [List.length_reverse]; omega)]
    rfl
theorem turned_ok {n : Nat} (hn : n ≤ 1000) {g ks : List Int} {V U : D} (hV : SeqA D.int V g) (hU : SeqA D.int U ks) (hb : Bits n g) (hk : ∀ k ∈ ks, 0 ≤ k ∧ k < (n : Int)) : sem_turned [V, U] = some (.ok (letD (ks.foldl flipL g))) := by
  have hgl := hb.1
  refine sem_fin (n := 5) (ds := [V, U]) ?_
  have q := EvL.lc (fi := iSeq (vVar 0)) (fg := nmG 4) (ft := vYes) (fe := vVar 4) (vs := [4]) (ρ := [.v V, .v U, .no, .no, .no]) g D.int (fun x => some (D.int x)) (EvL.seqA hV (Ev.var rfl)) (by omega) fun x _ => item_yes rfl (Ev.var rfl)
  rw [filterMap_some] at q
  refine Run.sown q (show (2 : Nat) < 5 by decide) ?_
  refine Run.seq (Run.for (fun j ρ => Bits n ((ks.take j).foldl flipL g) ∧ ∃ a, ρ = [.v V, .v U, .own (((ks.take j).foldl flipL g).map D.int), a, .no]) (EvL.seqA hU (Ev.var rfl)) ⟨hb, .no, rfl⟩ (fun j d ρ hd hI => ?_) fun ρ hI => ?_)
  · obtain ⟨hB, a, rfl⟩ := hI
    rw [List.getElem?_map] at hd
    obtain ⟨k, hk1, rfl⟩ := Option.map_eq_some_iff.mp hd
    have kr := hk k (List.mem_of_getElem? hk1)
    rw [take_at hk1, List.foldl_append]
    generalize (ks.take j).foldl flipL g = h at hB
    have hhl := hB.1
    refine ⟨_, rfl, Run.setIxA (xs := h.map D.int) (k := k) (d := .int (1 - at_ h k)) rfl (Ev.sub Ev.c (Ev.ixM (A := D.int) (Ev.var rfl) (Ev.var rfl) kr.1 (by omega))) rfl (Ev.var rfl) kr.1 (by rw [List.length_map]; omega) ⟨flip_bits hB kr.1 kr.2, .v (.int k), ?_⟩⟩
    show _ = [Sl.v V, Sl.v U, Sl.own ((flipL h k).map D.int), Sl.v (.int k), Sl.no]
    unfold flipL
    rw [List.map_set]
    rfl
  · obtain ⟨hB, a, rfl⟩ := hI
    rw [List.length_map, List.take_length]
    exact Run.rel (Run.ret (Ev.tupleL (Ev.var rfl)) rfl)
theorem law_turns_ok {n : Nat} (hn : n ≤ 1000) {g ks : List Int} {V U : D} (hV : SeqA D.int V g) (hU : SeqA D.int U ks) (hb : Bits n g) (hk : ∀ k ∈ ks, 0 ≤ k ∧ k < (n : Int)) : sem_law_turns [V, U] = some (.ok (letD (ks.foldl flipL g))) := by
  have hgl := hb.1
  refine sem_fin (n := 4) (ds := [V, U]) ?_
  refine Run.sown (ds := g.map D.int) (EvL.listA hV (Ev.var rfl)) (show (2 : Nat) < 4 by decide) ?_
  refine Run.seq (Run.for (fun j ρ => Bits n ((ks.take j).foldl flipL g) ∧ ∃ a, ρ = [.v V, .v U, .own (((ks.take j).foldl flipL g).map D.int), a]) (EvL.seqA hU (Ev.var rfl)) ⟨hb, .no, rfl⟩ (fun j d ρ hd hI => ?_) fun ρ hI => ?_)
  · obtain ⟨hB, a, rfl⟩ := hI
    rw [List.getElem?_map] at hd
    obtain ⟨k, hk1, rfl⟩ := Option.map_eq_some_iff.mp hd
    have kr := hk k (List.mem_of_getElem? hk1)
    rw [take_at hk1, List.foldl_append]
    generalize (ks.take j).foldl flipL g = h at hB
    have hhl := hB.1
    refine ⟨_, rfl, Run.setIxA (xs := h.map D.int) (k := k) (d := .int (1 - at_ h k)) rfl (Ev.sub Ev.c (Ev.ixM (A := D.int) (Ev.var rfl) (Ev.var rfl) kr.1 (by omega))) rfl (Ev.var rfl) kr.1 (by rw [List.length_map]; omega) ⟨flip_bits hB kr.1 kr.2, .v (.int k), ?_⟩⟩
    show _ = [Sl.v V, Sl.v U, Sl.own ((flipL h k).map D.int), Sl.v (.int k)]
    unfold flipL
    rw [List.map_set]
    rfl
  · obtain ⟨hB, a, rfl⟩ := hI
    rw [List.length_map, List.take_length]
    exact Run.rel (Run.ret (Ev.tupleL (Ev.var rfl)) rfl)
def diffL (n : Nat) (a b : List Int) : List Int := pickL n fun k => decide (at_ a (k : Int) ≠ at_ b (k : Int))
theorem differing_ok {n : Nat} (hn : n ≤ 1000) {a b : List Int} {V U : D} (hV : SeqA D.int V a) (hU : SeqA D.int U b) (ha : a.length = n) (hb : b.length = n) : sem_differing [V, U] = some (.ok (letD (diffL n a b))) := by
  refine sem_fin (n := 4) (ds := [V, U]) (Run.ret (Ev.tupleL (Ev.vL ?_)) rfl)
  have q := EvL.lc (fi := iEnum (vVar 0)) (fg := tupG (lenG 2 (consG (nmG 2) (consG (nmG 3) (nilG))))) (ft := v2 neD (vVar 3) (v2 ixD (vVar 1) (vVar 2))) (fe := vVar 2) (vs := [2, 3]) (ρ := [.v V, .v U, .no, .no]) (List.range a.length) (fun k : Nat => D.tup [.int (k : Nat), .int (at_ a (k : Int))]) (fun k => if at_ a (k : Int) ≠ at_ b (k : Int) then some (.int (k : Nat)) else none) (EvL.enumS (A := D.int) hV (Ev.var rfl)) (by rw [List.length_range]; omega) fun k hk => by
    have hk := List.mem_range.mp hk
    exact item_if rfl (Ev.neI (Ev.var rfl) (hU.ix (A := D.int) (Ev.var rfl) (Ev.var rfl) (by omega) (by omega))) fun _ => Ev.var rfl
  rw [pickL_of, ha] at q
  exact q
theorem law_differs_ok {n : Nat} (hn : n ≤ 1000) {a b : List Int} (ha : a.length = n) (hb : b.length = n) : sem_law_differs [letD a, letD b] = some (.ok (.lst ((diffL n a b).map D.int))) := by
  refine sem_fin (n := 3) (ds := [letD a, letD b]) (Run.ret (Ev.vL ?_) rfl)
  exact pick_lc (n := n) (fi := iRange1 (vCall lenD (aCons (vVar 0) (aNil)))) (ft := v2 neD (v2 ixD (vVar 0) (vVar 2)) (v2 ixD (vVar 1) (vVar 2))) (v := 2) (ρ := [.v (letD a), .v (letD b), .no]) (fun k => at_ a (k : Int) ≠ at_ b (k : Int)) (range_n (by have z := Ev.lenT (fa := vVar 0) (ρ := [.v (letD a), .v (letD b), .no]) (ds := a.map D.int) (Ev.var rfl); rw [List.length_map, ha] at z; exact z) (by omega)) (by omega) (fun k hk => Ev.neI (Ev.ixMT (A := D.int) (Ev.var rfl) (Ev.var rfl) (by omega) (by omega)) (Ev.ixMT (A := D.int) (Ev.var rfl) (Ev.var rfl) (by omega) (by omega))) (fun d => Ev.var rfl)
theorem diff_self (n : Nat) (a : List Int) : diffL n a a = [] := by
  unfold diffL
  rw [pickL_nil]
  exact fun k _ => decide_eq_false fun h => h rfl
theorem law_truth_ok (b : Bool) : sem_law_truth [.bl b, .bl b] = some (.ok (.bl true)) := by
  cases b <;> rfl
section
variable {mills : Int} {ps : List (Int × Int)}
theorem feeds_ok (ok : PairsOk mills ps) {bs : List Int} {V : D} (hb : Bits ps.length bs) (hV : SeqA D.int V bs) {k : Int} (h0 : 0 ≤ k) (h1 : k < ps.length) : sem_feeds [landD mills ps, V, .int k] = some (.ok (.int (mE (at_ ps k) (at_ bs k)))) := by
  have hl := hb.1
  exact sem_fin (n := 3) (ds := [landD mills ps, V, .int k]) (Run.ret (pair_at (Ev.ixMT (A := pairD) (Ev.v1 (Ev.var rfl) rfl) (Ev.var rfl) h0 h1) (hV.ix (A := D.int) (Ev.var rfl) (Ev.var rfl) h0 (by omega)) (hb.at h0 h1)) rfl)
end
end LW
end

section
set_option maxHeartbeats 4000000
namespace LW
open PySem L2 EV
local macro_rules | `(tactic| get_elem_tactic_extensible) => `(tactic| first
  | ((with_reducible apply Ev.var); exact rfl)
  | with_reducible exact Ev.c
  | assumption
  | ((with_reducible apply Ev.add) <;> get_elem_tactic_extensible)
  | ((with_reducible apply Ev.sub) <;> get_elem_tactic_extensible)
  | ((with_reducible apply Ev.mulR) <;> get_elem_tactic_extensible)
  | ((with_reducible apply Ev.mulL) <;> get_elem_tactic_extensible)
  | ((with_reducible apply Ev.mod) <;> get_elem_tactic_extensible)
  | ((with_reducible apply Ev.fdiv) <;> get_elem_tactic_extensible)
  | ((with_reducible apply Ev.pow) <;> get_elem_tactic_extensible)
  | ((with_reducible apply Ev.neg) <;> get_elem_tactic_extensible)
  | ((with_reducible apply Ev.lt) <;> get_elem_tactic_extensible)
  | ((with_reducible apply Ev.le) <;> get_elem_tactic_extensible)
  | ((with_reducible apply Ev.gt) <;> get_elem_tactic_extensible)
  | ((with_reducible apply Ev.ge) <;> get_elem_tactic_extensible)
  | ((with_reducible apply Ev.eqI) <;> get_elem_tactic_extensible)
  | ((with_reducible apply Ev.neI) <;> get_elem_tactic_extensible)
  | ((with_reducible apply Ev.isN) <;> get_elem_tactic_extensible)
  | ((with_reducible apply Ev.notN) <;> get_elem_tactic_extensible)
  | ((with_reducible apply Ev.notP) <;> get_elem_tactic_extensible)
  | ((with_reducible apply Ev.andP) <;> get_elem_tactic_extensible)
  | ((with_reducible apply Ev.orP) <;> get_elem_tactic_extensible)
  | ((with_reducible apply Ev.int_) <;> get_elem_tactic_extensible)
  | ((with_reducible apply Ev.intB) <;> get_elem_tactic_extensible)
  | ((with_reducible apply Ev.lenL) <;> get_elem_tactic_extensible)
  | ((with_reducible apply Ev.lenT) <;> get_elem_tactic_extensible)
  | ((with_reducible apply Ev.lenS) <;> get_elem_tactic_extensible)
  | ((with_reducible apply Ev.min_) <;> get_elem_tactic_extensible)
  | ((with_reducible apply Ev.max_) <;> get_elem_tactic_extensible)
  | ((with_reducible apply Ev.abs_) <;> get_elem_tactic_extensible)
  | ((with_reducible apply Ev.tupleL) <;> get_elem_tactic_extensible)
  | ((with_reducible apply Ev.tupleT) <;> get_elem_tactic_extensible)
  | ((with_reducible apply EvL.listL) <;> get_elem_tactic_extensible)
  | ((with_reducible apply EvL.listT) <;> get_elem_tactic_extensible)
  | ((with_reducible apply Ev.ixL) <;> get_elem_tactic_extensible)
  | ((with_reducible apply Ev.ixT) <;> get_elem_tactic_extensible)
  | ((with_reducible apply Ev.ixM) <;> get_elem_tactic_extensible)
  | ((with_reducible apply Ev.ixMT) <;> get_elem_tactic_extensible)
  | ((with_reducible apply Ev.tup) <;> get_elem_tactic_extensible)
  | ((with_reducible apply Ev.vL) <;> get_elem_tactic_extensible)
  | with_reducible exact EvL.nil
  | ((with_reducible apply EvL.cons) <;> get_elem_tactic_extensible)
  | ((with_reducible apply EvL.lenOk) <;> get_elem_tactic_extensible)
  | ((with_reducible apply EvL.range1) <;> get_elem_tactic_extensible)
  | ((with_reducible apply EvL.seqL) <;> get_elem_tactic_extensible)
  | ((with_reducible apply EvL.seqT) <;> get_elem_tactic_extensible)
  | ((with_reducible apply EvL.seqS) <;> get_elem_tactic_extensible)
  | (intro; get_elem_tactic_extensible)
  | exact (show GetElem?.getElem? (List.cons _ _) _ = some _ from rfl)
  | omega
  | (simp only [List.length_map, List.length_append, List.length_replicate, List.length_cons, List.length_nil, List.length_range] <;> omega))
def RunZ (g : GFS) (yd : List D) (ρ : EV.Env) (Q : List D → Out → Prop) : Prop := ∃ ys o, g yd ρ = some (ys, o) ∧ Q ys o
def AftZ (g2 : GFS) (Q : List D → Out → Prop) : List D → Out → Prop
  | yd, .nx ρ => RunZ g2 yd ρ Q
  | yd, o => Q yd o
section
variable {g : FS} {a b g1 g2 : GFS} {yd : List D} {ρ ρ' : EV.Env} {Q : List D → Out → Prop} {f fc : FE} {fl : FL} {fg : FG} {d : D} {ds : List D} {P : Prop}
theorem RunZ.nil (h : Q yd (.nx ρ)) : RunZ zNil yd ρ Q := ⟨_, _, rfl, h⟩
theorem RunZ.seq (h : RunZ a yd ρ (AftZ b Q)) : RunZ (zSeq a b) yd ρ Q := by
  obtain ⟨ys, o, e, q⟩ := h
  cases o with
  | nx ρ' =>
    obtain ⟨ys2, o2, e2, q2⟩ := q
    exact ⟨ys2, o2, by unfold zSeq; rw [e]; exact e2, q2⟩
  | rt d => exact ⟨_, _, by unfold zSeq; rw [e], q⟩
  | bk d => exact ⟨_, _, by unfold zSeq; rw [e], q⟩
  | ct d => exact ⟨_, _, by unfold zSeq; rw [e], q⟩
  | rs d _ => exact ⟨_, _, by unfold zSeq; rw [e], q⟩
  | rl d => exact ⟨_, _, by unfold zSeq; rw [e], q⟩
theorem RunZ.pl (h : Run g ρ fun o => ∃ ρ', o = .nx ρ' ∧ Q yd (.nx ρ')) : RunZ (zPl g) yd ρ Q := by
  obtain ⟨o, e, ρ', rfl, q⟩ := h
  exact ⟨yd, .nx ρ', by unfold zPl; rw [e], q⟩
theorem RunZ.spl (h : Run g ρ fun o => ∃ ρ', o = .nx ρ' ∧ RunZ b yd ρ' Q) : RunZ (zSeq (zPl g) b) yd ρ Q := .seq (.pl (h.mono fun o ⟨ρ', e, q⟩ => ⟨ρ', e, q⟩))
theorem semG_ok {n : Nat} {g : GFS} {ds ys : List D} (h : RunZ g [] (ds.map Sl.v ++ List.replicate (n - ds.length) Sl.no) fun zs o => (∃ ρ, o = .nx ρ) ∧ zs = ys) : semG n g ds = some (.ok ys) := by
  obtain ⟨zs, o, e, ⟨ρ, rfl⟩, rfl⟩ := h
  unfold semG
  rw [e]
theorem zCall_r {n m : Nat} {perm : List Nat} {sem : List D → Option RL} {dds ds es : List D} {fs fk : FL} {r : RL} (h : EV.EvL fs ρ ds) (hk : EV.EvL fk ρ es) (hl : ds.length = n ∧ es.length = m) (e : sem (pick perm (ds ++ es ++ dds)) = some r) : zCallP n m perm sem dds fs fk ρ = some r := by
  unfold zCallP
  rw [show fs ρ = _ from h]
  show RLL (fk ρ) _ = _
  rw [show fk ρ = _ from hk]
  show (if ds.length = n ∧ es.length = m then _ else _) = _
  rw [if_pos hl, e]
theorem RunZ.frm (hn : noIns ρ = true) (e : EV.Ev f ρ (.lst ds)) (q : Q (yd ++ ds) (.nx ρ)) : RunZ (zFrom f) yd ρ Q := ⟨_, _, by
  unfold zFrom
  rw [if_pos hn, show f ρ = some (.ok (.lst ds)) from e], q⟩
theorem Run.forG {cs : List Nat} {b : FS} {Q : Out → Prop} (I : Nat → EV.Env → Prop) (e : fl ρ = some (.ok ds)) (h0 : I 0 ρ) (st : ∀ k d ρ, ds[k]? = some d → I k ρ → ∃ ρ1, fg d ρ = some ρ1 ∧ Run b ρ1 (Turn' (I (k + 1)) Q)) (hq : ∀ ρ, I ds.length ρ → Q (.nx ρ)) : Run (gForG cs fl fg b) ρ Q := by
  obtain ⟨o, e2, q⟩ := loop_run (fg := fg) (b := b) (Q := Q) I ds 0 ρ h0 (fun k d ρ hd hI => by
    rw [Nat.zero_add] at hI ⊢
    exact st k d ρ hd hI) (fun ρ h => hq ρ (by rw [Nat.zero_add] at h; exact h))
  exact ⟨o, by unfold gForG; rw [e]; exact e2, q⟩
end
theorem lcF2_of {α : Type} {fg : FG} {ft : FE} {fi1 : FL} {fg1 : FG} {ft1 fe : FE} {vs1 : List Nat} {ρ : EV.Env} (A : α → D) (f : α → List D) : ∀ xs : List α, (∀ x ∈ xs, ∃ ρ1 es, fg (A x) (mask ρ) = some ρ1 ∧ Ev ft ρ1 (.bl true) ∧ EvL fi1 ρ1 es ∧ lcF fg1 ft1 fe (wipeE ρ1 vs1) es = some (f x)) → lcF2 fg ft fi1 fg1 ft1 fe vs1 ρ (xs.map A) = some (xs.flatMap f)
  | [], _ => rfl
  | x :: xs, h => by
    obtain ⟨ρ1, es, h1, h2, h3, h4⟩ := h x List.mem_cons_self
    rw [List.map_cons, lcF2, h1]
    show (match ft ρ1 with
      | some (.ok (.bl true)) => _
      | some (.ok (.bl false)) => _
      | _ => _) = _
    rw [show ft ρ1 = some (.ok (.bl true)) from h2]
    show (match fi1 ρ1 with
        | some (.ok es) => _
        | _ => _) = _
    rw [show fi1 ρ1 = some (.ok es) from h3]
    show (match lcF fg1 ft1 fe (wipeE ρ1 vs1) es with
          | none => none
          | some r => _) = _
    rw [h4, lcF2_of A f xs fun y hy => h y (List.mem_cons_of_mem _ hy), List.flatMap_cons]
theorem EvL.lc2 {α : Type} {fi : FL} {fg : FG} {ft : FE} {fi1 : FL} {fg1 : FG} {ft1 fe : FE} {vs vs1 : List Nat} {ρ : EV.Env} (xs : List α) (A : α → D) (f : α → List D) (hi : EvL fi ρ (xs.map A)) (hl : (xs.flatMap f).length ≤ 100000) (h : ∀ x ∈ xs, ∃ ρ1 es, fg (A x) (mask (wipeE ρ vs)) = some ρ1 ∧ Ev ft ρ1 (.bl true) ∧ EvL fi1 ρ1 es ∧ lcF fg1 ft1 fe (wipeE ρ1 vs1) es = some (f x)) : EvL (nLc2 fi fg ft fi1 fg1 ft1 fe vs vs1) ρ (xs.flatMap f) := by
  unfold EvL nLc2
  rw [show fi ρ = some (.ok (xs.map A)) from hi]
  show (match lcF2 fg ft fi1 fg1 ft1 fe vs1 (wipeE ρ vs) (xs.map A) with
    | some rs => if rs.length ≤ 100000 then some (RL.ok rs) else none
    | none => none) = _
  rw [lcF2_of A f xs h]
  exact if_pos hl
theorem flatMap_map {α β γ : Type} (f : α → List β) (g : β → γ) : ∀ xs : List α, xs.flatMap (fun x => (f x).map g) = (xs.flatMap f).map g
  | [] => rfl
  | x :: xs => by rw [List.flatMap_cons, List.flatMap_cons, List.map_append, flatMap_map f g xs]
section
variable {mills : Int} {ps : List (Int × Int)}
theorem settings_ok (p12 : ps.length ≤ 12) : sem_settings [landD mills ps] = some (.ok ((allS ps.length).map letD)) := by
  refine semG_ok (n := 5) (ds := [landD mills ps]) ?_
  refine RunZ.spl (Run.set (d := .lst ([[]].map letD)) rfl ⟨_, rfl, ?_⟩)
  refine RunZ.spl (Run.for (fun k ρ => ∃ a : Sl, (a = .no ∨ ∃ d, a = .v d) ∧ ρ = [.v (landD mills ps), .v (.lst ((allS k).map letD)), a, .no, .no]) (EvL.seqT (Ev.v1 (d := .tup (ps.map pairD)) (Ev.var rfl) rfl)) ⟨.no, .inl rfl, rfl⟩ (fun k d ρ hd hI => ?_) fun ρ hI => ⟨_, rfl, ?_⟩)
  · obtain ⟨a, ha, rfl⟩ := hI
    have hk : k < ps.length := by
      have := (List.getElem?_eq_some_iff.mp hd).1
      rwa [List.length_map] at this
    have hp : 2 ^ k ≤ 2048 := Nat.le_trans (Nat.pow_le_pow_right (n := 2) (by omega) (show k ≤ 11 by omega)) (by decide)
    have hln := allS_len k
    have hbk := allS_bits k
    show ∃ ρ1, _ ∧ Run _ ρ1 (Turn' (fun ρ => ∃ a : Sl, (a = .no ∨ ∃ d, a = .v d) ∧ ρ = [.v (landD mills ps), .v (.lst ((growS (allS k)).map letD)), a, .no, .no]) _)
    generalize allS k = ls at hln hbk ⊢
    refine ⟨_, rfl, ?_⟩
    show Run _ [.v (landD mills ps), .v (.lst (ls.map letD)), .v d, .no, .no] _
    have q := EvL.lc2 (fi := iSeq (vVar 1)) (fg := nmG 3) (ft := vYes) (fi1 := iSeq (vTup (aCons (vC (.int 0)) (aCons (vC (.int 1)) (aNil))))) (fg1 := nmG 4) (ft1 := vYes) (fe := v2 addD (vVar 3) (vTup (aCons (vVar 4) (aNil)))) (vs := [3, 4]) (vs1 := [4]) (ρ := [.v (landD mills ps), .v (.lst (ls.map letD)), .v d, .no, .no]) ls letD (fun l => ([l ++ [0], l ++ [1]]).map letD) (EvL.seqL (Ev.var rfl)) (by rw [flatMap_map, List.length_map]; show (growS ls).length ≤ _; rw [growS_len]; omega) fun l hl => by
      have bl := (hbk l hl).1
      refine ⟨[.v (landD mills ps), .v (.lst (ls.map letD)), .v d, .v (letD l), .no], ([0, 1] : List Int).map D.int, rfl, rfl, EvL.seqT (Ev.tup (EvL.cons Ev.c (EvL.cons Ev.c .nil)) (by simp)), ?_⟩
      have z := lcF_of (fg := nmG 4) (ft := vYes) (fe := v2 addD (vVar 3) (vTup (aCons (vVar 4) (aNil)))) (ρ := [.v (landD mills ps), .v (.lst (ls.map letD)), .v d, .v (letD l), .no]) D.int (fun x => some (letD (l ++ [x]))) ([0, 1] : List Int) fun x _ => item_yes rfl (letD_snoc (Ev.var rfl) (Ev.tup (EvL.cons (Ev.var rfl) .nil) (by simp)) (by omega))
      exact z
    rw [flatMap_map] at q
    exact Run.set (d := .lst ((growS ls).map letD)) (Ev.vL q) ⟨_, .inr ⟨_, rfl⟩, rfl⟩
  · obtain ⟨a, ha, rfl⟩ := hI
    rw [List.length_map]
    exact RunZ.seq (RunZ.frm (by rcases ha with rfl | ⟨d, rfl⟩ <;> rfl) (Ev.var rfl) (RunZ.nil ⟨⟨_, rfl⟩, rfl⟩))
theorem law_listed_ok (p12 : ps.length ≤ 12) (by_ : Bool) : sem_law_listed [landD mills ps, .int (ps.length : Nat), .bl by_] = some (.ok (.bl true)) := by
  have eD := law_settings_big ps.length p12
  have eS := settings_ok (mills := mills) (ps := ps) p12
  have hln := allS_len ps.length
  have hbk := allS_bits ps.length
  have hp : 2 ^ ps.length ≤ 4096 := Nat.le_trans (Nat.pow_le_pow_right (n := 2) (by omega) p12) (by decide)
  have hlt : ps.length < 2 ^ ps.length := Nat.lt_two_pow_self
  have hx : ∀ l ∈ allS ps.length, l.length ≤ 90000 := fun l hl => by have := (hbk l hl).1; omega
  generalize allS ps.length = ls at *
  generalize landD mills ps = S at *
  generalize ps.length = n at *
  clear hbk
  refine sem_fin (n := 7) (ds := [S, .int (n : Nat), .bl by_]) ?_
  refine Run.sset (d := .lst (ls.map letD)) (Ev.callP (EvL.cons (Ev.var rfl) .nil) .nil ⟨rfl, rfl⟩ eD) ?_
  refine Run.sown (ds := []) rfl (show (4 : Nat) < 7 by decide) ?_
  refine Run.cut (fun ρ => ∃ a, ρ = [.v S, .v (.int (n : Nat)), .v (.bl by_), .v (.lst (ls.map letD)), .own ((ls.take (n / 2 + 1)).map letD), a, .no]) ?_ fun ρ hρ => ?_
  · refine Run.forG (ds := ls.map letD) (fun k ρ => k ≤ n / 2 ∧ ∃ a, ρ = [.v S, .v (.int (n : Nat)), .v (.bl by_), .v (.lst (ls.map letD)), .own ((ls.take k).map letD), a, .no]) (zCall_r (ds := [S]) (es := []) (EvL.cons (Ev.var rfl) .nil) .nil ⟨rfl, rfl⟩ eS) ⟨Nat.zero_le _, .no, rfl⟩ (fun k d ρ hd hI => ?_) fun ρ hI => ?_
    · obtain ⟨hk, a, rfl⟩ := hI
      rw [List.getElem?_map] at hd
      obtain ⟨l, hl, rfl⟩ := Option.map_eq_some_iff.mp hd
      have hi := (List.getElem?_eq_some_iff.mp hl).1
      refine ⟨_, rfl, Run.sapp (xs := (ls.take k).map letD) (d := letD l) rfl (Ev.var rfl) (by rw [List.length_map, List.length_take]; omega) ?_⟩
      rw [map_snoc, ← take_at hl]
      show Run _ [.v S, .v (.int (n : Nat)), .v (.bl by_), .v (.lst (ls.map letD)), .own ((ls.take (k + 1)).map letD), .v (letD l), .no] _
      have len : (((ls.take (k + 1)).map letD).length : Int) = (k : Int) + 1 := by rw [List.length_map, List.length_take]; omega
      refine Run.ifAP (P := (n : Int) / 2 < (((ls.take (k + 1)).map letD).length : Nat)) (Ev.gt (Ev.lenL (Ev.var rfl)) (Ev.fdiv (Ev.var rfl) Ev.c (by decide))) (fun h => Run.brk ?_) fun h => Run.next ?_
      · refine ⟨_, rfl, .v (letD l), ?_⟩
        rw [show n / 2 + 1 = k + 1 by omega]
      · exact ⟨by omega, _, rfl⟩
    · obtain ⟨hk, a, rfl⟩ := hI
      rw [List.length_map] at hk
      omega
  obtain ⟨a, rfl⟩ := hρ
  refine Run.srel ?_
  show Run (gSeq _ _) [.v S, .v (.int (n : Nat)), .v (.bl by_), .v (.lst (ls.map letD)), .v (.lst ((ls.take (n / 2 + 1)).map letD)), a, .no] _
  have cutE : EV.Ev (vSlice (vVar 3) (oNone) (oSome (v2 addD (v2 fdivD (vVar 1) (vC (.int 2))) (vC (.int 1))))) [.v S, .v (.int (n : Nat)), .v (.bl by_), .v (.lst (ls.map letD)), .v (.lst ((ls.take (n / 2 + 1)).map letD)), a, .no] (.lst ((ls.take (n / 2 + 1)).map letD)) := by
    have z := sliceL_upto (A := letD) (xs := ls) (k := (n : Int) / 2 + 1) (f := vVar 3) (fk := v2 addD (v2 fdivD (vVar 1) (vC (.int 2))) (vC (.int 1))) (ρ := [.v S, .v (.int (n : Nat)), .v (.bl by_), .v (.lst (ls.map letD)), .v (.lst ((ls.take (n / 2 + 1)).map letD)), a, .no]) (Ev.var rfl) (Ev.add (Ev.fdiv (Ev.var rfl) Ev.c (by decide)) Ev.c) (by omega)
    rw [show ((n : Int) / 2 + 1).toNat = n / 2 + 1 by omega] at z
    exact z
  refine Run.seq (Run.ifF (Ev.v1 (p := .bl true) (Ev.callP (ds := [.tup ((ls.take (n / 2 + 1)).map letD), .lst ((ls.take (n / 2 + 1)).map letD)]) (EvL.cons (Ev.tupleL (Ev.var rfl)) (EvL.cons cutE .nil)) .nil ⟨rfl, rfl⟩ (law_same_rows_ok (.inl rfl) (by rw [List.length_take]; omega) fun x hx' => hx x (List.mem_of_mem_take hx'))) rfl) (Run.next ?_))
  refine Run.sown (ds := []) rfl (show (6 : Nat) < 7 by decide) ?_
  show Run (gSeq _ _) [.v S, .v (.int (n : Nat)), .v (.bl by_), .v (.lst (ls.map letD)), .v (.lst ((ls.take (n / 2 + 1)).map letD)), a, .own []] _
  have told : ∀ {fl : FL}, fl [.v S, .v (.int (n : Nat)), .v (.bl by_), .v (.lst (ls.map letD)), .v (.lst ((ls.take (n / 2 + 1)).map letD)), a, .own []] = some (.ok (ls.map letD)) → Run (gForG [] fl (nmG 5) (gSeq (gAppO 6 (gApp 6 (vVar 5))) (gIfA (v2 gtD (vCall lenD (aCons (vVar 6) (aNil))) (vCall lenD (aCons (vVar 3) (aNil)))) (gBrk) (gNext)))) [.v S, .v (.int (n : Nat)), .v (.bl by_), .v (.lst (ls.map letD)), .v (.lst ((ls.take (n / 2 + 1)).map letD)), a, .own []] (fun o => ∃ ρ', o = .nx ρ' ∧ ∃ a, ρ' = [.v S, .v (.int (n : Nat)), .v (.bl by_), .v (.lst (ls.map letD)), .v (.lst ((ls.take (n / 2 + 1)).map letD)), a, .own (ls.map letD)]) := fun {fl} hfl => by
    refine Run.forG (ds := ls.map letD) (fun k ρ => ∃ a, ρ = [.v S, .v (.int (n : Nat)), .v (.bl by_), .v (.lst (ls.map letD)), .v (.lst ((ls.take (n / 2 + 1)).map letD)), a, .own ((ls.take k).map letD)]) hfl ⟨a, rfl⟩ (fun k d ρ hd hI => ?_) fun ρ hI => ?_
    · obtain ⟨a, rfl⟩ := hI
      rw [List.getElem?_map] at hd
      obtain ⟨l, hl, rfl⟩ := Option.map_eq_some_iff.mp hd
      have hi := (List.getElem?_eq_some_iff.mp hl).1
      refine ⟨_, rfl, Run.sapp (xs := (ls.take k).map letD) (d := letD l) rfl (Ev.var rfl) (by rw [List.length_map, List.length_take]; omega) ?_⟩
      rw [map_snoc, ← take_at hl]
      show Run _ [.v S, .v (.int (n : Nat)), .v (.bl by_), .v (.lst (ls.map letD)), .v (.lst ((ls.take (n / 2 + 1)).map letD)), .v (letD l), .own ((ls.take (k + 1)).map letD)] _
      refine Run.ifAP (P := ((ls.map letD).length : Int) < (((ls.take (k + 1)).map letD).length : Nat)) (Ev.gt (Ev.lenL (Ev.var rfl)) (Ev.lenL (Ev.var rfl))) (fun h => ?_) fun h => Run.next ⟨_, rfl⟩
      rw [List.length_map, List.length_map, List.length_take] at h
      omega
    · obtain ⟨a, rfl⟩ := hI
      rw [List.length_map, List.take_length]
      exact ⟨_, rfl, a, rfl⟩
  refine Run.cut (fun ρ => ∃ a, ρ = [.v S, .v (.int (n : Nat)), .v (.bl by_), .v (.lst (ls.map letD)), .v (.lst ((ls.take (n / 2 + 1)).map letD)), a, .own (ls.map letD)]) ?_ fun ρ hρ => ?_
  · refine Run.ifP (P := by_ = true) (by cases by_ <;> exact Ev.var rfl) (fun _ => told (zCall_r (ds := []) (es := [S]) .nil (EvL.cons (Ev.var rfl) .nil) ⟨rfl, rfl⟩ eS)) fun _ => told (zCall_r (ds := [S]) (es := []) (EvL.cons (Ev.var rfl) .nil) .nil ⟨rfl, rfl⟩ eS)
  obtain ⟨a, rfl⟩ := hρ
  refine Run.rel ?_
  exact Run.ret (Ev.callP (ds := [.tup (ls.map letD), .lst (ls.map letD)]) (EvL.cons (Ev.tupleL (Ev.var rfl)) (EvL.cons (Ev.var rfl) .nil)) .nil ⟨rfl, rfl⟩ (law_same_rows_ok (.inl rfl) (by omega) hx)) rfl
end
end LW
end

section
set_option maxHeartbeats 4000000
namespace LW
open PySem L2 EV
local macro_rules | `(tactic| get_elem_tactic_extensible) => `(tactic| first
  | ((with_reducible apply Ev.var); exact rfl)
  | with_reducible exact Ev.c
  | assumption
  | ((with_reducible apply Ev.add) <;> get_elem_tactic_extensible)
  | ((with_reducible apply Ev.sub) <;> get_elem_tactic_extensible)
  | ((with_reducible apply Ev.mulR) <;> get_elem_tactic_extensible)
  | ((with_reducible apply Ev.mulL) <;> get_elem_tactic_extensible)
  | ((with_reducible apply Ev.mod) <;> get_elem_tactic_extensible)
  | ((with_reducible apply Ev.fdiv) <;> get_elem_tactic_extensible)
  | ((with_reducible apply Ev.pow) <;> get_elem_tactic_extensible)
  | ((with_reducible apply Ev.neg) <;> get_elem_tactic_extensible)
  | ((with_reducible apply Ev.lt) <;> get_elem_tactic_extensible)
  | ((with_reducible apply Ev.le) <;> get_elem_tactic_extensible)
  | ((with_reducible apply Ev.gt) <;> get_elem_tactic_extensible)
  | ((with_reducible apply Ev.ge) <;> get_elem_tactic_extensible)
  | ((with_reducible apply Ev.eqI) <;> get_elem_tactic_extensible)
  | ((with_reducible apply Ev.neI) <;> get_elem_tactic_extensible)
  | ((with_reducible apply Ev.isN) <;> get_elem_tactic_extensible)
  | ((with_reducible apply Ev.notN) <;> get_elem_tactic_extensible)
  | ((with_reducible apply Ev.notP) <;> get_elem_tactic_extensible)
  | ((with_reducible apply Ev.andP) <;> get_elem_tactic_extensible)
  | ((with_reducible apply Ev.orP) <;> get_elem_tactic_extensible)
  | ((with_reducible apply Ev.int_) <;> get_elem_tactic_extensible)
  | ((with_reducible apply Ev.intB) <;> get_elem_tactic_extensible)
  | ((with_reducible apply Ev.lenL) <;> get_elem_tactic_extensible)
  | ((with_reducible apply Ev.lenT) <;> get_elem_tactic_extensible)
  | ((with_reducible apply Ev.lenS) <;> get_elem_tactic_extensible)
  | ((with_reducible apply Ev.min_) <;> get_elem_tactic_extensible)
  | ((with_reducible apply Ev.max_) <;> get_elem_tactic_extensible)
  | ((with_reducible apply Ev.abs_) <;> get_elem_tactic_extensible)
  | ((with_reducible apply Ev.tupleL) <;> get_elem_tactic_extensible)
  | ((with_reducible apply Ev.tupleT) <;> get_elem_tactic_extensible)
  | ((with_reducible apply EvL.listL) <;> get_elem_tactic_extensible)
  | ((with_reducible apply EvL.listT) <;> get_elem_tactic_extensible)
  | ((with_reducible apply Ev.ixL) <;> get_elem_tactic_extensible)
  | ((with_reducible apply Ev.ixT) <;> get_elem_tactic_extensible)
  | ((with_reducible apply Ev.ixM) <;> get_elem_tactic_extensible)
  | ((with_reducible apply Ev.ixMT) <;> get_elem_tactic_extensible)
  | ((with_reducible apply Ev.tup) <;> get_elem_tactic_extensible)
  | ((with_reducible apply Ev.vL) <;> get_elem_tactic_extensible)
  | with_reducible exact EvL.nil
  | ((with_reducible apply EvL.cons) <;> get_elem_tactic_extensible)
  | ((with_reducible apply EvL.lenOk) <;> get_elem_tactic_extensible)
  | ((with_reducible apply EvL.range1) <;> get_elem_tactic_extensible)
  | ((with_reducible apply EvL.seqL) <;> get_elem_tactic_extensible)
  | ((with_reducible apply EvL.seqT) <;> get_elem_tactic_extensible)
  | ((with_reducible apply EvL.seqS) <;> get_elem_tactic_extensible)
  | (intro; get_elem_tactic_extensible)
  | exact (show GetElem?.getElem? (List.cons _ _) _ = some _ from rfl)
  | omega
  | (simp only [List.length_map, List.length_append, List.length_replicate, List.length_cons, List.length_nil, List.length_range] <;> omega))
theorem orF {fa fb : FE} {ρ : EV.Env} {d : D} (ha : EV.Ev fa ρ (.bl false)) (hb : EV.Ev fb ρ d) : EV.Ev (vOr fa fb) ρ d := by
  unfold EV.Ev vOr
  rw [show fa ρ = some (.ok (.bl false)) from ha]
  exact hb
theorem bl_tr {f : FE} {ρ : EV.Env} {iP : Decidable True} (h : EV.Ev f ρ (.bl (@decide True iP))) : EV.Ev f ρ (.bl true) := by
  rw [decide_eq_true (p := True) trivial] at h
  exact h
theorem bl_false {f : FE} {ρ : EV.Env} {iP : Decidable False} (h : EV.Ev f ρ (.bl (@decide False iP))) : EV.Ev f ρ (.bl false) := by
  rw [decide_eq_false (p := False) id] at h
  exact h
section
variable {mills : Int} {ps : List (Int × Int)}
theorem law_walked_ok (m1 : 1 ≤ mills) (m2 : mills ≤ 24) (ok : PairsOk mills ps) (hp : ps.length ≤ 48) {st ks row : List Int} (hb : Bits ps.length st) (hk : ∀ k ∈ ks, 0 ≤ k ∧ k < (ps.length : Int)) (kl : ks.length ≤ 90) (lR : row.length = 9) :
    sem_law_walked [landD mills ps, .lst [.int mills, .lst (ps.map pairD)], letD st, .lst (ks.map D.int), .lst (row.map D.int)] = some (.ok (.bl true)) := by
  have hbl := hb.1
  have ha := flips_bits hb hk
  have hal := ha.1
  have back := flips_back hb hk
  have kr : ∀ k ∈ ks.reverse, 0 ≤ k ∧ k < (ps.length : Int) := fun k h => hk k (List.mem_reverse.mp h)
  have rowAt : ∀ {ρ : EV.Env} {i : Int}, ρ[4]? = some (.v (.lst (row.map D.int))) → 0 ≤ i → i < 9 → EV.Ev (v2 ixD (vVar 4) (vC (.int i))) ρ (.int (at_ row i)) := fun h h0 h1 => Ev.ixM (A := D.int) (Ev.var h) Ev.c h0 (by omega)
  generalize D.lst (row.map D.int) = RW at rowAt ⊢
  have f1 := fun (bs : List Int) => formD_seq D.int bs (at_ row 1)
  have f2 := fun (bs : List Int) => formD_seq D.int bs (at_ row 2)
  have f3 := fun (bs : List Int) => formD_seq D.int bs (at_ row 3)
  have cl : (cntL mills.toNat ps st ps.length).length ≤ 90000 := by rw [cntL_len]; omega
  have cl2 : (cntL mills.toNat ps (ks.foldl flipL st) ps.length).length ≤ 90000 := by rw [cntL_len]; omega
  have e1 := turned_ok (n := ps.length) (by omega) (f1 st) (f2 ks) hb hk
  have e2 := turned_ok (n := ps.length) (by omega) (f1 st) (.inl rfl : SeqA D.int (.lst []) []) hb (fun k h => by cases h)
  have e3 := law_turns_ok (n := ps.length) (by omega) (.inr rfl : SeqA D.int (letD st) st) (.inl rfl : SeqA D.int (.lst (ks.map D.int)) ks) hb hk
  have e4 := turned_ok (n := ps.length) (by omega) (f2 (ks.foldl flipL st)) (f3 ks.reverse) ha kr
  rw [back] at e4
  have e5 := fed_ok m1 (by omega) ok (by omega) hb (f1 st)
  have e6 := law_fed_eq m1 (by omega) ok (by omega) hb (.inr rfl : SeqA D.int (letD st) st)
  have e7 := fed_ok m1 (by omega) ok (by omega) ha (.inr rfl : SeqA D.int (letD (ks.foldl flipL st)) (ks.foldl flipL st))
  have e8 := law_fed_eq m1 (by omega) ok (by omega) ha (.inr rfl : SeqA D.int (letD (ks.foldl flipL st)) (ks.foldl flipL st))
  have e9 := differing_ok (n := ps.length) (by omega) (f1 st) (.inr rfl : SeqA D.int (letD (ks.foldl flipL st)) (ks.foldl flipL st)) hbl hal
  have e10 := law_differs_ok (n := ps.length) (by omega) hbl hal
  have dl : (diffL ps.length st (ks.foldl flipL st)).length ≤ 90000 := Nat.le_trans (pickL_len _ _) (by omega)
  have fe := fun k h0 h1 => feeds_ok (mills := mills) ok hb (f1 st) (k := k) h0 h1
  have g1 := law_form_ok (.inr rfl : SeqA D.int (letD st) st) (at_ row 1)
  have g2 := law_form_ok (.inl rfl : SeqA D.int (.lst (ks.map D.int)) ks) (at_ row 2)
  have g3 := law_form_ok (.inl rfl : SeqA D.int (.lst (ks.reverse.map D.int)) ks.reverse) (at_ row 3)
  have g4 := law_form_ok (.inr rfl : SeqA D.int (letD (ks.foldl flipL st)) (ks.foldl flipL st)) (at_ row 2)
  have p1 := formD_pl st (at_ row 1)
  have p2 := formD_pl ks (at_ row 2)
  clear f1 f2 f3
  generalize cntL mills.toNat ps st ps.length = C at *
  generalize cntL mills.toNat ps (ks.foldl flipL st) ps.length = C2 at *
  generalize diffL ps.length st (ks.foldl flipL st) = DF at *
  generalize hA : ks.foldl flipL st = A at *
  generalize formD D.int st (at_ row 1) = V at *
  generalize formD D.int ks (at_ row 2) = U at *
  generalize hL : landD mills ps = S at *
  refine sem_fin (n := 13) (ds := [S, .lst [.int mills, .lst (ps.map pairD)], letD st, .lst (ks.map D.int), RW]) ?_
  refine Run.sset (d := .int mills) (Ev.ixL (ds := [.int mills, .lst (ps.map pairD)]) (Ev.var rfl) Ev.c (by omega) rfl) ?_
  refine Run.sset (d := .lst (ps.map pairD)) (Ev.ixL (ds := [.int mills, .lst (ps.map pairD)]) (Ev.var rfl) Ev.c (by omega) rfl) ?_
  refine Run.sset (d := V) (Ev.callP (EvL.cons (Ev.var rfl) (EvL.cons (rowAt rfl (by omega) (by omega)) .nil)) .nil ⟨rfl, rfl⟩ g1) ?_
  refine Run.sset (d := U) (Ev.callP (EvL.cons (Ev.var rfl) (EvL.cons (rowAt rfl (by omega) (by omega)) .nil)) .nil ⟨rfl, rfl⟩ g2) ?_
  show Run (gSeq _ _) [.v S, .v (.lst [.int mills, .lst (ps.map pairD)]), .v (letD st), .v (.lst (ks.map D.int)), .v RW, .v (.int mills), .v (.lst (ps.map pairD)), .v V, .v U, .no, .no, .no, .no] _
  refine Run.seq (Run.for (fun k ρ => ∃ a b, ρ = [.v S, .v (.lst [.int mills, .lst (ps.map pairD)]), .v (letD st), .v (.lst (ks.map D.int)), .v RW, .v (.int mills), .v (.lst (ps.map pairD)), .v V, .v U, a, b, .no, .no]) (range_n (n := ps.length) (by have z := Ev.lenL (fa := vVar 6) (ρ := [.v S, .v (.lst [.int mills, .lst (ps.map pairD)]), .v (letD st), .v (.lst (ks.map D.int)), .v RW, .v (.int mills), .v (.lst (ps.map pairD)), .v V, .v U, .no, .no, .no, .no]) (ds := ps.map pairD) (Ev.var rfl); rw [List.length_map] at z; exact z) (by omega)) ⟨.no, .no, rfl⟩ (fun k d ρ hd hI => ?_) fun ρ hI => ?_)
  · obtain ⟨a, b, rfl⟩ := hI
    obtain ⟨rfl, hk⟩ := range0_get hd
    have fk := fe (k : Int) (by omega) (by omega)
    refine ⟨_, rfl, ?_⟩
    generalize hM : mE (at_ ps (k : Int)) (at_ st (k : Int)) = M at fk
    refine Run.sset (d := .tup [.int M, .int M]) (Ev.tup (EvL.cons (Ev.callP (EvL.cons (Ev.var rfl) (EvL.cons (Ev.var rfl) (EvL.cons (Ev.var rfl) .nil))) .nil ⟨rfl, rfl⟩ fk) (EvL.cons (Ev.callP (ds := []) (es := [.int (k : Nat), V, S]) .nil (EvL.cons (Ev.var rfl) (EvL.cons (Ev.var rfl) (EvL.cons (Ev.var rfl) .nil))) ⟨rfl, rfl⟩ fk) .nil)) (by simp)) ?_
    show Run _ [.v S, .v (.lst [.int mills, .lst (ps.map pairD)]), .v (letD st), .v (.lst (ks.map D.int)), .v RW, .v (.int mills), .v (.lst (ps.map pairD)), .v V, .v U, .v (.int (k : Nat)), .v (.tup [.int M, .int M]), .no, .no] _
    have eM : EV.Ev (v2 ixD (v2 ixD (vVar 6) (vVar 9)) (v2 ixD (vVar 2) (vVar 9))) [.v S, .v (.lst [.int mills, .lst (ps.map pairD)]), .v (letD st), .v (.lst (ks.map D.int)), .v RW, .v (.int mills), .v (.lst (ps.map pairD)), .v V, .v U, .v (.int (k : Nat)), .v (.tup [.int M, .int M]), .no, .no] (.int M) := by
      rw [← hM]
      exact pair_at (Ev.ixM (A := pairD) (Ev.var rfl) (Ev.var rfl) (by omega) (by omega)) (Ev.ixMT (A := D.int) (Ev.var rfl) (Ev.var rfl) (by omega) (by omega)) (hb.at (by omega) (by omega))
    exact Run.ifF (Ev.v1 (p := .bl true) (Ev.callP (ds := [.tup (([M, M] : List Int).map D.int), .lst (([M, M] : List Int).map D.int)]) (EvL.cons (Ev.var rfl) (EvL.cons (Ev.vL (EvL.rep (ds := [.int M]) (i := 2) (Ev.vL (EvL.lenOk (EvL.cons eM .nil) (by simp))) Ev.c ⟨by decide, by decide, by simp⟩)) .nil)) .nil ⟨rfl, rfl⟩ (law_same_ok (.inl rfl) (by simp))) rfl) (Run.next ⟨_, _, rfl⟩)
  obtain ⟨a, b, rfl⟩ := hI
  refine Run.sset (d := letD A) (Ev.callP (EvL.cons (Ev.var rfl) (EvL.cons (Ev.var rfl) .nil)) .nil ⟨rfl, rfl⟩ e3) ?_
  show Run (gSeq _ _) [.v S, .v (.lst [.int mills, .lst (ps.map pairD)]), .v (letD st), .v (.lst (ks.map D.int)), .v RW, .v (.int mills), .v (.lst (ps.map pairD)), .v V, .v U, a, b, .v (letD A), .no] _
  refine Run.seq (Run.ifF (orF (Ev.v1 (p := .bl true) (Ev.callP (ds := [letD A, letD A]) (EvL.cons (Ev.callP (ds := [V, U]) (EvL.cons (Ev.var rfl) (EvL.cons (Ev.var rfl) .nil)) .nil ⟨rfl, rfl⟩ e1) (EvL.cons (Ev.var rfl) .nil)) .nil ⟨rfl, rfl⟩ (law_same_ok (.inr rfl) (by omega))) rfl) (Ev.v1 (p := .bl true) (Ev.callP (ds := [letD st, letD st]) (EvL.cons (Ev.callP (ds := []) (es := [.lst [], V]) .nil (EvL.cons (Ev.vL (EvL.lenOk .nil (by simp))) (EvL.cons (Ev.var rfl) .nil)) ⟨rfl, rfl⟩ e2) (EvL.cons (Ev.var rfl) .nil)) .nil ⟨rfl, rfl⟩ (law_same_ok (.inr rfl) (by omega))) rfl)) (Run.next ?_))
  have q := EvL.lcr (fi := iRange1 (vCall lenD (aCons (vVar 3) (aNil)))) (fe := v2 ixD (vVar 3) (v2 subD (v2 subD (vCall lenD (aCons (vVar 3) (aNil))) (vC (.int 1))) (vVar 9))) (v := 9) (vs := [9]) (ρ := [.v S, .v (.lst [.int mills, .lst (ps.map pairD)]), .v (letD st), .v (.lst (ks.map D.int)), .v RW, .v (.int mills), .v (.lst (ps.map pairD)), .v V, .v U, a, b, .v (letD A), .no]) (n := ks.length) (fun k => D.int (at_ ks ((ks.length : Int) - 1 - (k : Nat)))) (range_n (by have z := Ev.lenL (fa := vVar 3) (ρ := [.v S, .v (.lst [.int mills, .lst (ps.map pairD)]), .v (letD st), .v (.lst (ks.map D.int)), .v RW, .v (.int mills), .v (.lst (ps.map pairD)), .v V, .v U, a, b, .v (letD A), .no]) (ds := ks.map D.int) (Ev.var rfl); rw [List.length_map] at z; exact z) (by omega)) (by omega) fun k hk => by
    have z := Ev.lenL (fa := vVar 3) (ρ := ((mask (wipeE [.v S, .v (.lst [.int mills, .lst (ps.map pairD)]), .v (letD st), .v (.lst (ks.map D.int)), .v RW, .v (.int mills), .v (.lst (ps.map pairD)), .v V, .v U, a, b, .v (letD A), .no] [9])).set 9 (.v (.int (k : Nat))))) (ds := ks.map D.int) (Ev.var rfl)
    rw [List.length_map] at z
    exact Ev.ixM (A := D.int) (Ev.var rfl) (Ev.sub (Ev.sub z Ev.c) (Ev.var rfl)) (by omega) (by omega)
  rw [show (List.range ks.length).map (fun k => D.int (at_ ks ((ks.length : Int) - 1 - (k : Nat)))) = ks.reverse.map D.int by rw [← rev_range, List.map_map]; rfl] at q
  refine Run.sset (d := formD D.int ks.reverse (at_ row 3)) (Ev.callP (ds := [.lst (ks.reverse.map D.int), .int (at_ row 3)]) (EvL.cons (Ev.vL q) (EvL.cons (rowAt rfl (by omega) (by omega)) .nil)) .nil ⟨rfl, rfl⟩ g3) ?_
  clear q
  generalize formD D.int ks.reverse (at_ row 3) = BK at *
  generalize formD D.int A (at_ row 2) = VA at *
  show Run (gSeq _ _) [.v S, .v (.lst [.int mills, .lst (ps.map pairD)]), .v (letD st), .v (.lst (ks.map D.int)), .v RW, .v (.int mills), .v (.lst (ps.map pairD)), .v V, .v U, a, b, .v (letD A), .v BK] _
  refine Run.seq (Run.ifF (Ev.v1 (p := .bl true) (Ev.callP (ds := [letD st, letD st]) (EvL.cons (Ev.callP (ds := [VA, BK]) (EvL.cons (Ev.callP (ds := [letD A, .int (at_ row 2)]) (EvL.cons (Ev.var rfl) (EvL.cons (rowAt rfl (by omega) (by omega)) .nil)) .nil ⟨rfl, rfl⟩ g4) (EvL.cons (Ev.var rfl) .nil)) .nil ⟨rfl, rfl⟩ e4) (EvL.cons (Ev.var rfl) .nil)) .nil ⟨rfl, rfl⟩ (law_same_ok (.inr rfl) (by omega))) rfl) (Run.next ?_))
  refine Run.seq (Run.ifF (Ev.v1 (p := .bl true) (Ev.callP (ds := [.tup (C.map D.int), .lst (C.map D.int)]) (EvL.cons (Ev.callP (ds := [S, V]) (EvL.cons (Ev.var rfl) (EvL.cons (Ev.var rfl) .nil)) .nil ⟨rfl, rfl⟩ e5) (EvL.cons (Ev.callP (ds := [.int mills, .lst (ps.map pairD), letD st]) (EvL.cons (Ev.var rfl) (EvL.cons (Ev.var rfl) (EvL.cons (Ev.var rfl) .nil))) .nil ⟨rfl, rfl⟩ e6) .nil)) .nil ⟨rfl, rfl⟩ (law_same_ok (.inl rfl) cl)) rfl) (Run.next ?_))
  refine Run.seq (Run.ifF (Ev.v1 (p := .bl true) (Ev.callP (ds := [.tup (C2.map D.int), .lst (C2.map D.int)]) (EvL.cons (Ev.callP (ds := []) (es := [letD A, S]) .nil (EvL.cons (Ev.var rfl) (EvL.cons (Ev.var rfl) .nil)) ⟨rfl, rfl⟩ e7) (EvL.cons (Ev.callP (ds := [.int mills, .lst (ps.map pairD), letD A]) (EvL.cons (Ev.var rfl) (EvL.cons (Ev.var rfl) (EvL.cons (Ev.var rfl) .nil))) .nil ⟨rfl, rfl⟩ e8) .nil)) .nil ⟨rfl, rfl⟩ (law_same_ok (.inl rfl) cl2)) rfl) (Run.next ?_))
  refine Run.seq (Run.ifF (Ev.v1 (p := .bl true) (Ev.callP (ds := [.tup (DF.map D.int), .lst (DF.map D.int)]) (EvL.cons (Ev.callP (ds := []) (es := [letD A, V]) .nil (EvL.cons (Ev.var rfl) (EvL.cons (Ev.var rfl) .nil)) ⟨rfl, rfl⟩ e9) (EvL.cons (Ev.callP (ds := [letD st, letD A]) (EvL.cons (Ev.var rfl) (EvL.cons (Ev.var rfl) .nil)) .nil ⟨rfl, rfl⟩ e10) .nil)) .nil ⟨rfl, rfl⟩ (law_same_ok (.inl rfl) dl)) rfl) (Run.next ?_))
  refine Run.ret (d := .bl true) (Ev.andT (bl_tr (eq_self (d := V) (Ev.var rfl) (Ev.callP (ds := [letD st, .int (at_ row 1)]) (EvL.cons (Ev.var rfl) (EvL.cons (rowAt rfl (by omega) (by omega)) .nil)) .nil ⟨rfl, rfl⟩ g1) p1)) (bl_tr (eq_self (d := U) (Ev.var rfl) (Ev.callP (ds := [.lst (ks.map D.int), .int (at_ row 2)]) (EvL.cons (Ev.var rfl) (EvL.cons (rowAt rfl (by omega) (by omega)) .nil)) .nil ⟨rfl, rfl⟩ g2) p2))) rfl
end
end LW
end

section
set_option maxHeartbeats 4000000
namespace LW
open PySem L2 EV
local macro_rules | `(tactic| get_elem_tactic_extensible) => `(tactic| first
  | ((with_reducible apply Ev.var); exact rfl)
  | with_reducible exact Ev.c
  | assumption
  | ((with_reducible apply Ev.add) <;> get_elem_tactic_extensible)
  | ((with_reducible apply Ev.sub) <;> get_elem_tactic_extensible)
  | ((with_reducible apply Ev.mulR) <;> get_elem_tactic_extensible)
  | ((with_reducible apply Ev.mulL) <;> get_elem_tactic_extensible)
  | ((with_reducible apply Ev.mod) <;> get_elem_tactic_extensible)
  | ((with_reducible apply Ev.fdiv) <;> get_elem_tactic_extensible)
  | ((with_reducible apply Ev.pow) <;> get_elem_tactic_extensible)
  | ((with_reducible apply Ev.neg) <;> get_elem_tactic_extensible)
  | ((with_reducible apply Ev.lt) <;> get_elem_tactic_extensible)
  | ((with_reducible apply Ev.le) <;> get_elem_tactic_extensible)
  | ((with_reducible apply Ev.gt) <;> get_elem_tactic_extensible)
  | ((with_reducible apply Ev.ge) <;> get_elem_tactic_extensible)
  | ((with_reducible apply Ev.eqI) <;> get_elem_tactic_extensible)
  | ((with_reducible apply Ev.neI) <;> get_elem_tactic_extensible)
  | ((with_reducible apply Ev.isN) <;> get_elem_tactic_extensible)
  | ((with_reducible apply Ev.notN) <;> get_elem_tactic_extensible)
  | ((with_reducible apply Ev.notP) <;> get_elem_tactic_extensible)
  | ((with_reducible apply Ev.andP) <;> get_elem_tactic_extensible)
  | ((with_reducible apply Ev.orP) <;> get_elem_tactic_extensible)
  | ((with_reducible apply Ev.int_) <;> get_elem_tactic_extensible)
  | ((with_reducible apply Ev.intB) <;> get_elem_tactic_extensible)
  | ((with_reducible apply Ev.lenL) <;> get_elem_tactic_extensible)
  | ((with_reducible apply Ev.lenT) <;> get_elem_tactic_extensible)
  | ((with_reducible apply Ev.lenS) <;> get_elem_tactic_extensible)
  | ((with_reducible apply Ev.min_) <;> get_elem_tactic_extensible)
  | ((with_reducible apply Ev.max_) <;> get_elem_tactic_extensible)
  | ((with_reducible apply Ev.abs_) <;> get_elem_tactic_extensible)
  | ((with_reducible apply Ev.tupleL) <;> get_elem_tactic_extensible)
  | ((with_reducible apply Ev.tupleT) <;> get_elem_tactic_extensible)
  | ((with_reducible apply EvL.listL) <;> get_elem_tactic_extensible)
  | ((with_reducible apply EvL.listT) <;> get_elem_tactic_extensible)
  | ((with_reducible apply Ev.ixL) <;> get_elem_tactic_extensible)
  | ((with_reducible apply Ev.ixT) <;> get_elem_tactic_extensible)
  | ((with_reducible apply Ev.ixM) <;> get_elem_tactic_extensible)
  | ((with_reducible apply Ev.ixMT) <;> get_elem_tactic_extensible)
  | ((with_reducible apply Ev.tup) <;> get_elem_tactic_extensible)
  | ((with_reducible apply Ev.vL) <;> get_elem_tactic_extensible)
  | with_reducible exact EvL.nil
  | ((with_reducible apply EvL.cons) <;> get_elem_tactic_extensible)
  | ((with_reducible apply EvL.lenOk) <;> get_elem_tactic_extensible)
  | ((with_reducible apply EvL.range1) <;> get_elem_tactic_extensible)
  | ((with_reducible apply EvL.seqL) <;> get_elem_tactic_extensible)
  | ((with_reducible apply EvL.seqT) <;> get_elem_tactic_extensible)
  | ((with_reducible apply EvL.seqS) <;> get_elem_tactic_extensible)
  | (intro; get_elem_tactic_extensible)
  | exact (show GetElem?.getElem? (List.cons _ _) _ = some _ from rfl)
  | omega
  | (simp only [List.length_map, List.length_append, List.length_replicate, List.length_cons, List.length_nil, List.length_range] <;> omega))
theorem blsD_map : ∀ xs : List Bool, blsD (xs.map D.bl) = some xs
  | [] => rfl
  | x :: xs => by
    rw [List.map_cons, blsD, blsD_map xs]
    rfl
theorem all_ev {α : Type} {f : FE} {ρ : EV.Env} (xs : List α) (P : α → Prop) [DecidablePred P] (h : EV.Ev f ρ (.lst (xs.map fun x => .bl (decide (P x))))) : EV.Ev (vCall allD (aCons f aNil)) ρ (.bl (decide (∀ x ∈ xs, P x))) :=
  Ev.call (EvL.cons h .nil) (by
    show (blsD (xs.map fun x => D.bl (decide (P x)))).map _ = _
    rw [show (xs.map fun x => D.bl (decide (P x))) = (xs.map fun x => decide (P x)).map D.bl by rw [List.map_map]; rfl, blsD_map]
    show some (D.bl ((xs.map fun x => decide (P x)).all id)) = _
    rw [List.all_map]
    congr 2
    rw [Bool.eq_iff_iff, List.all_eq_true, decide_eq_true_iff]
    exact ⟨fun z x hx => of_decide_eq_true (z x hx), fun z x hx => decide_eq_true (z x hx)⟩)
def sz48 : List Int := List.replicate 30 48
def tbR (z : Int) : List D := [.int 0, .int 1, .int 2, .int 3, .int 5, .int 8, .int 60, .int (z / 8)]
theorem law_row_ok (ns : List Int) {at0 size many : Int} (a0 : 0 ≤ at0) (s0 : 0 ≤ size ∧ size < 488) (m0 : 0 ≤ many) : ∃ ks : List Int, sem_law_row [.scr ns, .int at0, .int size, .int many] = some (.ok (.lst (ks.map D.int))) ∧ (∀ k ∈ ks, 0 ≤ k ∧ k < many) ∧ ks.length ≤ 60 := by
  suffices H : Run g_law_row [.v (.scr ns), .v (.int at0), .v (.int size), .v (.int many), .no, .no] (Ret fun d => ∃ ks : List Int, d = .lst (ks.map D.int) ∧ (∀ k ∈ ks, 0 ≤ k ∧ k < many) ∧ ks.length ≤ 60) by
    obtain ⟨d, h, ks, rfl, q⟩ := sem_ret (n := 6) (ds := [.scr ns, .int at0, .int size, .int many]) H
    exact ⟨ks, h, q⟩
  refine Run.seq (Run.ifP (Ev.eqI (Ev.var rfl) Ev.c) (fun _ => Run.ret (d := .lst []) rfl ⟨[], rfl, fun k hk => (by cases hk), by simp⟩) fun hm => Run.next ?_)
  obtain ⟨r1, e1, o1⟩ := dig_cell (fs := vVar 0) (fk := vVar 1) (fz := vL (nRep (vL (lenOk (aCons (vC (.int 48)) (aNil)))) (vC (.int 30)))) (ρ := [.v (.scr ns), .v (.int at0), .v (.int size), .v (.int many), .no, .no]) (ns := ns) (k := at0) sz48 (Ev.var rfl) (Ev.var rfl) a0 rfl (by decide)
  obtain ⟨r2, e2, o2⟩ := dig_cell (fs := vVar 0) (fk := v2 addD (vVar 1) (vC (.int 1))) (fz := vL (nRep (vL (lenOk (aCons (vC (.int 48)) (aNil)))) (vC (.int 30)))) (ρ := [.v (.scr ns), .v (.int at0), .v (.int size), .v (.int many), .no, .no]) (ns := ns) (k := at0 + 1) sz48 (Ev.var rfl) (Ev.add (Ev.var rfl) Ev.c) (by omega) rfl (by decide)
  have l1 : r1.length = 30 := o1.1.trans (by decide)
  have l2 : r2.length = 30 := o2.1.trans (by decide)
  refine Run.sset (d := .lst ((r1 ++ r2).map D.int)) (by rw [List.map_append]; exact Ev.addL e1 e2 (by simp; omega)) ?_
  have ll : (r1 ++ r2).length = 60 := by rw [List.length_append]; omega
  generalize r1 ++ r2 = rr at ll ⊢
  clear e1 e2 o1 o2
  have zm := mod_in (x := size) (m := 8) (by decide)
  obtain ⟨c, hc, c60⟩ : ∃ c : Nat, (tbR size)[(size % 8).toNat]? = some (.int (c : Nat)) ∧ c ≤ 60 := by
    have : size % 8 = 0 ∨ size % 8 = 1 ∨ size % 8 = 2 ∨ size % 8 = 3 ∨ size % 8 = 4 ∨ size % 8 = 5 ∨ size % 8 = 6 ∨ size % 8 = 7 := by omega
    rcases this with e | e | e | e | e | e | e | e <;> rw [e]
    · exact ⟨0, rfl, by decide⟩
    · exact ⟨1, rfl, by decide⟩
    · exact ⟨2, rfl, by decide⟩
    · exact ⟨3, rfl, by decide⟩
    · exact ⟨5, rfl, by decide⟩
    · exact ⟨8, rfl, by decide⟩
    · exact ⟨60, rfl, by decide⟩
    · refine ⟨(size / 8).toNat, ?_, by omega⟩
      show some (D.int (size / 8)) = _
      rw [show (((size / 8).toNat : Nat) : Int) = size / 8 by omega]
  have mp : 0 < many := by omega
  have q := EvL.lcr (fi := iRange1 (v2 ixD (vL (lenOk (aCons (vC (.int 0)) (aCons (vC (.int 1)) (aCons (vC (.int 2)) (aCons (vC (.int 3)) (aCons (vC (.int 5)) (aCons (vC (.int 8)) (aCons (vC (.int 60)) (aCons (v2 fdivD (vVar 2) (vC (.int 8))) (aNil))))))))))) (v2 modD (vCall intD (aCons (vVar 2) (aNil))) (vC (.int 8))))) (fe := v2 modD (vCall intD (aCons (v2 ixD (vVar 4) (vVar 5)) (aNil))) (vVar 3)) (v := 5) (vs := [5]) (ρ := [.v (.scr ns), .v (.int at0), .v (.int size), .v (.int many), .v (.lst (rr.map D.int)), .no]) (n := c) (fun k => D.int (at_ rr (k : Int) % many)) (range_n (n := c) (Ev.ixL (ds := tbR size) (i := size % 8) (Ev.vL (EvL.lenOk (EvL.cons Ev.c (EvL.cons Ev.c (EvL.cons Ev.c (EvL.cons Ev.c (EvL.cons Ev.c (EvL.cons Ev.c (EvL.cons Ev.c (EvL.cons (Ev.fdiv (Ev.var rfl) Ev.c (by decide)) .nil)))))))) (Nat.le_of_ble_eq_true rfl))) (Ev.mod (Ev.int_ (Ev.var rfl)) Ev.c (by decide)) zm.1 hc) (by omega)) (by omega) fun k hk => Ev.mod (Ev.int_ (Ev.ixM (A := D.int) (Ev.var rfl) (Ev.var rfl) (by omega) (by omega))) (Ev.var rfl) mp
  refine Run.ret (Ev.vL q) ⟨(List.range c).map fun k : Nat => at_ rr (k : Int) % many, by rw [List.map_map]; rfl, fun k hk => ?_, by simp; omega⟩
  obtain ⟨j, _, rfl⟩ := List.mem_map.mp hk
  exact mod_in mp
def szV8 : List Int := List.replicate 49 8
def tbF : List D := [.int 0, .int 1, .int 0, .int 1, .int 1, .int 0, .int 2, .int (-1)]
def tbS : List D := [.int 0, .int 0, .int 1, .int (-1)]
theorem law_values_ok (ns : List Int) {n : Nat} (n48 : n ≤ 48) {a b : List Int} (ha : a.length = n) (hb : b.length = n) {row : List Int} (lR : row.length = 9) :
    ∃ vs : List (List Int), sem_law_values [.scr ns, .int (n : Nat), letD a, letD b, .lst (row.map D.int)] = some (.ok (.lst (vs.map letD))) ∧ (∀ v ∈ vs, v.length ≤ 90000) ∧ vs.length ≤ 90000 := by
  suffices H : Run g_law_values [.v (.scr ns), .v (.int (n : Nat)), .v (letD a), .v (letD b), .v (.lst (row.map D.int)), .no, .no, .no, .no, .no, .no, .no, .no] (Ret fun d => ∃ vs : List (List Int), d = .lst (vs.map letD) ∧ (∀ v ∈ vs, v.length ≤ 90000) ∧ vs.length ≤ 90000) by
    obtain ⟨d, h, vs, rfl, q⟩ := sem_ret (n := 13) (ds := [.scr ns, .int (n : Nat), letD a, letD b, .lst (row.map D.int)]) H
    exact ⟨vs, h, q⟩
  have rowAt : ∀ {ρ : EV.Env} {i : Int}, ρ[4]? = some (.v (.lst (row.map D.int))) → 0 ≤ i → i < 9 → EV.Ev (v2 ixD (vVar 4) (vC (.int i))) ρ (.int (at_ row i)) := fun h h0 h1 => Ev.ixM (A := D.int) (Ev.var h) Ev.c h0 (by omega)
  generalize D.lst (row.map D.int) = RW at rowAt ⊢
  refine dig_run (ns := ns) (k := 8) szV8 (Ev.var rfl) Ev.c (by decide) rfl (by decide) fun r8 o8 => ?_
  have l8 : r8.length = 49 := o8.1.trans (by decide)
  have b8 : ∀ k : Int, 0 ≤ k → k < 49 → 0 ≤ at_ r8 k ∧ at_ r8 k < 8 := fun k h0 h1 => by
    have z := o8.2 k h0 (by omega)
    have e : at_ szV8 k = 8 := by
      have m := at_mem (xs := szV8) (i := k) h0 (by show k < ((List.replicate 49 (8 : Int)).length : Nat); rw [List.length_replicate]; exact h1)
      exact (List.mem_replicate.mp m).2
    omega
  clear o8
  have zm := mod_in (x := at_ row 5) (m := 4) (by decide)
  obtain ⟨e, he, pe⟩ := tbl_get (tb := tbS) (fun m => decide (-1 ≤ m ∧ m ≤ 1)) (by decide) (i := at_ row 5 % 4) (by show _ < 4; omega)
  have pe := of_decide_eq_true pe
  refine Run.sset (d := .int (max 0 ((n : Int) + e))) (Ev.max_ Ev.c (Ev.add (Ev.var rfl) (Ev.ixL (ds := tbS) (i := at_ row 5 % 4) (Ev.vL (EvL.lenOk (EvL.cons Ev.c (EvL.cons Ev.c (EvL.cons Ev.c (EvL.cons (Ev.neg Ev.c) .nil)))) (Nat.le_of_ble_eq_true rfl))) (Ev.mod (Ev.int_ (rowAt rfl (by omega) (by omega))) Ev.c (by decide)) zm.1 he))) ?_
  obtain ⟨c, hc⟩ : ∃ c : Nat, max 0 ((n : Int) + e) = (c : Nat) := ⟨(max 0 ((n : Int) + e)).toNat, by omega⟩
  rw [hc]
  show Run (gSeq _ _) [.v (.scr ns), .v (.int (n : Nat)), .v (letD a), .v (letD b), .v RW, .v (.lst (r8.map D.int)), .v (.int (c : Nat)), .no, .no, .no, .no, .no, .no] _
  have fr : ∀ k : Nat, k < c → ∃ m, tbF[(at_ r8 (k : Int)).toNat]? = some (.int m) := fun k hk => by
    have z := b8 (k : Int) (by omega) (by omega)
    obtain ⟨m, h, _⟩ := tbl_get (tb := tbF) (fun _ => true) (by decide) (i := at_ r8 (k : Int)) (by show _ < 8; omega)
    exact ⟨m, h⟩
  have q := EvL.lcr (fi := iRange1 (vVar 6)) (fe := v2 ixD (vL (lenOk (aCons (vC (.int 0)) (aCons (vC (.int 1)) (aCons (vC (.int 0)) (aCons (vC (.int 1)) (aCons (vC (.int 1)) (aCons (vC (.int 0)) (aCons (vC (.int 2)) (aCons (v1 negD (vC (.int 1))) (aNil))))))))))) (v2 ixD (vVar 5) (vVar 12))) (v := 12) (vs := [12]) (ρ := [.v (.scr ns), .v (.int (n : Nat)), .v (letD a), .v (letD b), .v RW, .v (.lst (r8.map D.int)), .v (.int (c : Nat)), .no, .no, .no, .no, .no, .no]) (n := c) (fun k => D.int (match tbF[(at_ r8 (k : Int)).toNat]? with | some (.int m) => m | _ => 0)) (range_n (n := c) (Ev.var rfl) (by omega)) (by omega) fun k hk => by
    obtain ⟨m, h⟩ := fr k hk
    have z := b8 (k : Int) (by omega) (by omega)
    have g := Ev.ixL (ds := tbF) (i := at_ r8 (k : Int)) (fa := vL (lenOk (aCons (vC (.int 0)) (aCons (vC (.int 1)) (aCons (vC (.int 0)) (aCons (vC (.int 1)) (aCons (vC (.int 1)) (aCons (vC (.int 0)) (aCons (vC (.int 2)) (aCons (v1 negD (vC (.int 1))) (aNil))))))))))) (fb := v2 ixD (vVar 5) (vVar 12)) (ρ := ((mask (wipeE [.v (.scr ns), .v (.int (n : Nat)), .v (letD a), .v (letD b), .v RW, .v (.lst (r8.map D.int)), .v (.int (c : Nat)), .no, .no, .no, .no, .no, .no] [12])).set 12 (.v (.int (k : Nat))))) rfl (Ev.ixM (A := D.int) (Ev.var rfl) (Ev.var rfl) (by omega) (by omega)) z.1 h
    rw [h]
    exact g
  obtain ⟨F, hF⟩ : ∃ F : List Int, F = (List.range c).map fun k : Nat => (match tbF[(at_ r8 (k : Int)).toNat]? with | some (.int m) => m | _ => (0 : Int)) := ⟨_, rfl⟩
  have lF : F.length = c := by rw [hF, List.length_map, List.length_range]
  refine Run.sset (d := letD F) (Ev.tupleL (Ev.vL (by rw [hF, List.map_map]; exact q))) ?_
  clear q hF fr
  have up1 : ∀ {ρ : EV.Env} {x : Int}, ρ[2]? = some (.v (letD a)) → EV.Ev (v2 addD (vVar 2) (vTup (aCons (vC (.int x)) (aNil)))) ρ (letD (a ++ [x])) := fun h => tup_map (Ev.var h) (Ev.tup (EvL.cons Ev.c .nil) (by simp)) (by simp; omega)
  refine Run.sown (ds := [a, b, a ++ [0], a ++ [1], a ++ b, F].map letD) (EvL.lenOk (EvL.cons (Ev.var rfl) (EvL.cons (Ev.var rfl) (EvL.cons (up1 rfl) (EvL.cons (up1 rfl) (EvL.cons (tup_map (Ev.var rfl) (Ev.var rfl) (by omega)) (EvL.cons (Ev.var rfl) .nil)))))) (by simp)) (show (8 : Nat) < 13 by decide) ?_
  have len6 : ∀ v ∈ [a, b, a ++ [0], a ++ [1], a ++ b, F], v.length ≤ 90000 := fun v hv => by
    simp only [List.mem_cons, List.mem_nil_iff, or_false] at hv
    rcases hv with rfl | rfl | rfl | rfl | rfl | rfl <;> (try rw [List.length_append]) <;> (try simp) <;> omega
  have l6 : [a, b, a ++ [0], a ++ [1], a ++ b, F].length = 6 := rfl
  generalize [a, b, a ++ [0], a ++ [1], a ++ b, F] = W0 at len6 l6 ⊢
  obtain ⟨z9, e9⟩ := law_cell_ok ns 9 (by decide)
  refine Run.sset (d := .int (if z9 < 0 then -z9 else z9)) (Ev.abs_ (Ev.callP (EvL.cons (Ev.var rfl) (EvL.cons Ev.c .nil)) .nil ⟨rfl, rfl⟩ e9)) ?_
  generalize (if z9 < 0 then -z9 else z9) = far
  show Run (gSeq _ _) [.v (.scr ns), .v (.int (n : Nat)), .v (letD a), .v (letD b), .v RW, .v (.lst (r8.map D.int)), .v (.int (c : Nat)), .v (letD F), .own (W0.map letD), .v (.int far), .no, .no, .no] _
  refine Run.cut (fun ρ => ∃ (vs : List (List Int)) (x y : Sl), (∀ v ∈ vs, v.length ≤ 90000) ∧ vs.length ≤ 90000 ∧ ρ = [.v (.scr ns), .v (.int (n : Nat)), .v (letD a), .v (letD b), .v RW, .v (.lst (r8.map D.int)), .v (.int (c : Nat)), .v (letD F), .own (vs.map letD), .v (.int far), x, y, .no]) ?_ fun ρ hρ => ?_
  · refine Run.ifP (Ev.gt (Ev.var rfl) Ev.c) (fun hn => ?_) fun _ => Run.next ⟨_, rfl, W0, _, _, len6, by omega, rfl⟩
    have zp := mod_in (x := at_ row 6) (m := (n : Int)) (by omega)
    refine Run.sset (d := .int (at_ row 6 % (n : Nat))) (Ev.mod (Ev.int_ (rowAt rfl (by omega) (by omega))) (Ev.var rfl) (by omega)) ?_
    generalize at_ row 6 % ((n : Nat) : Int) = p at zp ⊢
    refine Run.sownA (ds := (W0 ++ [a.take p.toNat, a.drop (1 : Int).toNat, a.take ((n : Int) - 1).toNat]).map letD) (by
      rw [List.map_append]
      exact EvL.add (Ev.var rfl) (Ev.vL (EvL.lenOk (EvL.cons (slice_upto (Ev.var rfl) (Ev.var rfl) zp.1) (EvL.cons (slice_from (Ev.var rfl) Ev.c (by decide)) (EvL.cons (slice_upto (Ev.var rfl) (Ev.sub (Ev.var rfl) Ev.c) (by omega)) .nil))) (by simp))) (by simp; omega)) (pures_map (fun x => by exact pures_map (fun y => rfl) x) _) (show (8 : Nat) < 13 by decide) ?_
    have len9 : ∀ v ∈ W0 ++ [a.take p.toNat, a.drop (1 : Int).toNat, a.take ((n : Int) - 1).toNat], v.length ≤ 90000 := fun v hv => by
      rcases List.mem_append.mp hv with hv | hv
      · exact len6 v hv
      · simp only [List.mem_cons, List.mem_nil_iff, or_false] at hv
        rcases hv with rfl | rfl | rfl <;> (try rw [List.length_take]) <;> (try rw [List.length_drop]) <;> omega
    have l9 : (W0 ++ [a.take p.toNat, a.drop (1 : Int).toNat, a.take ((n : Int) - 1).toNat]).length = 9 := by rw [List.length_append, l6]; rfl
    generalize W0 ++ [a.take p.toNat, a.drop (1 : Int).toNat, a.take ((n : Int) - 1).toNat] = W1 at len9 l9 ⊢
    show Run _ [.v (.scr ns), .v (.int (n : Nat)), .v (letD a), .v (letD b), .v RW, .v (.lst (r8.map D.int)), .v (.int (c : Nat)), .v (letD F), .own (W1.map letD), .v (.int far), .v (.int p), .no, .no] _
    refine Run.for (fun k ρ => ∃ (vs : List (List Int)) (y : Sl), (∀ v ∈ vs, v.length ≤ 90000) ∧ vs.length = 9 + k ∧ ρ = [.v (.scr ns), .v (.int (n : Nat)), .v (letD a), .v (letD b), .v RW, .v (.lst (r8.map D.int)), .v (.int (c : Nat)), .v (letD F), .own (vs.map letD), .v (.int far), .v (.int p), y, .no]) (ds := [2, -1, 2 + far, -1 - far].map D.int) (EvL.seqL (Ev.vL (EvL.lenOk (EvL.cons Ev.c (EvL.cons (Ev.neg Ev.c) (EvL.cons (Ev.add Ev.c (Ev.var rfl)) (EvL.cons (Ev.sub (Ev.neg Ev.c) (Ev.var rfl)) .nil)))) (by simp)))) ⟨W1, .no, len9, l9, rfl⟩ (fun k d ρ hd hI => ?_) fun ρ hI => ?_
    · obtain ⟨vs, y, h1, h2, rfl⟩ := hI
      have hk := (List.getElem?_eq_some_iff.mp hd).1
      rw [List.getElem?_map] at hd
      obtain ⟨x, hx, rfl⟩ := Option.map_eq_some_iff.mp hd
      have hk : k < 4 := hk
      refine ⟨_, rfl, ?_⟩
      refine Run.app (xs := vs.map letD) (d := letD (a.take p.toNat ++ [x] ++ a.drop (p + 1).toNat)) rfl (tup_map (tup_map (slice_upto (Ev.var rfl) (Ev.var rfl) zp.1) (Ev.tup (EvL.cons (Ev.var rfl) .nil) (by simp)) (by simp; omega)) (slice_from (Ev.var rfl) (Ev.add (Ev.var rfl) Ev.c) (by omega)) (by simp; omega)) (by rw [List.length_map]; omega) ⟨vs ++ [a.take p.toNat ++ [x] ++ a.drop (p + 1).toNat], _, fun v hv => ?_, by simp; omega, by rw [map_snoc]; rfl⟩
      rcases List.mem_append.mp hv with hv | hv
      · exact h1 v hv
      · rw [List.mem_singleton.mp hv]
        simp
        omega
    · obtain ⟨vs, y, h1, h2, rfl⟩ := hI
      exact ⟨_, rfl, vs, _, _, h1, by rw [h2]; exact Nat.le_of_ble_eq_true rfl, rfl⟩
  obtain ⟨vs, x, y, h1, h2, rfl⟩ := hρ
  exact Run.rel (Run.ret (Ev.var rfl) ⟨vs, rfl, h1, h2⟩)
section
variable {mills : Int} {ps : List (Int × Int)}
theorem is_setting_ok (hp : ps.length ≤ 48) {it : List Int} {U : D} (hU : SeqA D.int U it) (hl : it.length ≤ 90000) : sem_is_setting [landD mills ps, U] = some (.ok (.bl (decide (it.length = ps.length ∧ ∀ x ∈ it, x ∈ ([0, 1] : List Int))))) := by
  suffices H : sem_is_setting [landD mills ps, U] = some (.ok (.bl (decide (((it.length : Nat) : Int) = ((ps.map pairD).length : Nat) ∧ ∀ x ∈ it, x ∈ ([0, 1] : List Int))))) by
    rw [H]
    congr 3
    rw [decide_eq_decide, List.length_map]
    exact and_congr (by omega) Iff.rfl
  refine sem_fin (n := 3) (ds := [landD mills ps, U]) (Run.ret ?_ rfl)
  have q := EvL.lc (fi := iSeq (vVar 1)) (fg := nmG 2) (ft := vYes) (fe := v2 inD (vVar 2) (vTup (aCons (vC (.int 0)) (aCons (vC (.int 1)) (aNil))))) (vs := [2]) (ρ := [.v (landD mills ps), .v U, .no]) it D.int (fun x => some (.bl (decide (x ∈ ([0, 1] : List Int))))) (EvL.seqA hU (Ev.var rfl)) hl fun x hx => item_yes rfl (in_ints (G := [0, 1]) (Ev.var rfl) (Ev.tup (EvL.cons Ev.c (EvL.cons Ev.c .nil)) (by simp)) (.inr rfl))
  rw [filterMap_some] at q
  exact Ev.andP (Ev.eqI (hU.len (Ev.var rfl)) (Ev.lenT (ds := ps.map pairD) (Ev.v1 (Ev.var rfl) rfl))) fun _ => all_ev it (fun x => x ∈ ([0, 1] : List Int)) (Ev.vL q)
theorem law_judged_ok (hp : ps.length ≤ 48) {it : List Int} (hl : it.length ≤ 90000) (f : Int) : sem_law_judged [landD mills ps, .int (ps.length : Nat), letD it, .int f] = some (.ok (.bl true)) := by
  have s1 := is_setting_ok (mills := mills) hp (formD_seq D.int it f) hl
  have s2 := is_setting_ok (mills := mills) hp (formD_seq D.int it (1 - f)) hl
  have g1 := law_form_ok (.inr rfl : SeqA D.int (letD it) it) f
  have g2 := law_form_ok (.inr rfl : SeqA D.int (letD it) it) (1 - f)
  have p1 := formD_pl it f
  generalize formD D.int it f = U at s1 g1 p1
  generalize formD D.int it (1 - f) = U2 at s2 g2
  generalize landD mills ps = S at s1 s2 ⊢
  generalize ps.length = n at *
  suffices H : Run g_law_judged [.v S, .v (.int (n : Nat)), .v (letD it), .v (.int f), .no, .no, .no] (Ret fun d => d = .bl true) by
    obtain ⟨d, h, rfl⟩ := sem_ret (n := 7) (ds := [S, .int (n : Nat), letD it, .int f]) H
    exact h
  refine Run.sset (d := .bl (decide (((it.map D.int).length : Nat) = ((n : Nat) : Int)))) (Ev.eqI (Ev.lenT (Ev.var rfl)) (Ev.var rfl)) ?_
  rw [show decide ((((it.map D.int).length : Nat) : Int) = ((n : Nat) : Int)) = decide (it.length = n ∧ ∀ x ∈ it.take 0, x ∈ ([0, 1] : List Int)) by rw [decide_eq_decide, List.length_map, List.take_zero]; exact ⟨fun h => ⟨by omega, fun x hx => by cases hx⟩, fun h => by omega⟩]
  refine Run.seq (Run.for (fun j ρ => ∃ y, ρ = [.v S, .v (.int (n : Nat)), .v (letD it), .v (.int f), .v (.bl (decide (it.length = n ∧ ∀ x ∈ it.take j, x ∈ ([0, 1] : List Int)))), y, .no]) (EvL.seqT (Ev.var rfl)) ⟨.no, rfl⟩ (fun j d ρ hd hI => ?_) fun ρ hI => ?_)
  · obtain ⟨y, rfl⟩ := hI
    rw [List.getElem?_map] at hd
    obtain ⟨x, hx, rfl⟩ := Option.map_eq_some_iff.mp hd
    rw [take_at hx]
    refine ⟨_, rfl, ?_⟩
    refine Run.ifP (P := x < 0 ∨ 1 < x) (Ev.orP (Ev.lt (Ev.var rfl) Ev.c) fun _ => Ev.gt (Ev.var rfl) Ev.c) (fun h => ?_) fun h => Run.next ?_
    · refine Run.set (d := .bl false) Ev.c ⟨.v (.int x), ?_⟩
      rw [show decide (it.length = n ∧ ∀ y ∈ it.take j ++ [x], y ∈ ([0, 1] : List Int)) = false from decide_eq_false fun z => by
        have := z.2 x (List.mem_append_right _ (List.mem_singleton.mpr rfl))
        simp at this
        omega]
      rfl
    · refine ⟨.v (.int x), ?_⟩
      rw [show decide (it.length = n ∧ ∀ y ∈ it.take j ++ [x], y ∈ ([0, 1] : List Int)) = decide (it.length = n ∧ ∀ y ∈ it.take j, y ∈ ([0, 1] : List Int)) by
        rw [decide_eq_decide]
        refine and_congr Iff.rfl ⟨fun z y hy => z y (List.mem_append_left _ hy), fun z y hy => ?_⟩
        rcases List.mem_append.mp hy with hy | hy
        · exact z y hy
        · rw [List.mem_singleton.mp hy]
          simp
          omega]
      rfl
  obtain ⟨y, rfl⟩ := hI
  rw [List.length_map, List.take_length]
  generalize decide (it.length = n ∧ ∀ x ∈ it, x ∈ ([0, 1] : List Int)) = B at s1 s2 ⊢
  refine Run.sset (d := U) (Ev.callP (ds := [letD it, .int f]) (EvL.cons (Ev.var rfl) (EvL.cons (Ev.var rfl) .nil)) .nil ⟨rfl, rfl⟩ g1) ?_
  refine Run.seq (Run.ifF (orF (Ev.v1 (p := .bl true) (Ev.callP (ds := [.bl B, .bl B]) (EvL.cons (Ev.callP (ds := [S, U]) (EvL.cons (Ev.var rfl) (EvL.cons (Ev.var rfl) .nil)) .nil ⟨rfl, rfl⟩ s1) (EvL.cons (Ev.var rfl) .nil)) .nil ⟨rfl, rfl⟩ (law_truth_ok B)) rfl) (bl_false (ne_self (d := U) (Ev.var rfl) (Ev.callP (ds := [letD it, .int f]) (EvL.cons (Ev.var rfl) (EvL.cons (Ev.var rfl) .nil)) .nil ⟨rfl, rfl⟩ g1) p1))) (Run.next ?_))
  exact Run.ret (Ev.callP (ds := [.bl B, .bl B]) (EvL.cons (Ev.callP (ds := []) (es := [U2, S]) .nil (EvL.cons (Ev.callP (ds := [letD it, .int (1 - f)]) (EvL.cons (Ev.var rfl) (EvL.cons (Ev.sub Ev.c (Ev.var rfl)) .nil)) .nil ⟨rfl, rfl⟩ g2) (EvL.cons (Ev.var rfl) .nil)) ⟨rfl, rfl⟩ s2) (EvL.cons (Ev.var rfl) .nil)) .nil ⟨rfl, rfl⟩ (law_truth_ok B)) rfl
end
end LW
end

section
set_option maxHeartbeats 4000000
namespace LW
open PySem L2 EV
local macro_rules | `(tactic| get_elem_tactic_extensible) => `(tactic| first
  | ((with_reducible apply Ev.var); exact rfl)
  | with_reducible exact Ev.c
  | assumption
  | ((with_reducible apply Ev.add) <;> get_elem_tactic_extensible)
  | ((with_reducible apply Ev.sub) <;> get_elem_tactic_extensible)
  | ((with_reducible apply Ev.mulR) <;> get_elem_tactic_extensible)
  | ((with_reducible apply Ev.mulL) <;> get_elem_tactic_extensible)
  | ((with_reducible apply Ev.mod) <;> get_elem_tactic_extensible)
  | ((with_reducible apply Ev.fdiv) <;> get_elem_tactic_extensible)
  | ((with_reducible apply Ev.pow) <;> get_elem_tactic_extensible)
  | ((with_reducible apply Ev.neg) <;> get_elem_tactic_extensible)
  | ((with_reducible apply Ev.lt) <;> get_elem_tactic_extensible)
  | ((with_reducible apply Ev.le) <;> get_elem_tactic_extensible)
  | ((with_reducible apply Ev.gt) <;> get_elem_tactic_extensible)
  | ((with_reducible apply Ev.ge) <;> get_elem_tactic_extensible)
  | ((with_reducible apply Ev.eqI) <;> get_elem_tactic_extensible)
  | ((with_reducible apply Ev.neI) <;> get_elem_tactic_extensible)
  | ((with_reducible apply Ev.isN) <;> get_elem_tactic_extensible)
  | ((with_reducible apply Ev.notN) <;> get_elem_tactic_extensible)
  | ((with_reducible apply Ev.notP) <;> get_elem_tactic_extensible)
  | ((with_reducible apply Ev.andP) <;> get_elem_tactic_extensible)
  | ((with_reducible apply Ev.orP) <;> get_elem_tactic_extensible)
  | ((with_reducible apply Ev.int_) <;> get_elem_tactic_extensible)
  | ((with_reducible apply Ev.intB) <;> get_elem_tactic_extensible)
  | ((with_reducible apply Ev.lenL) <;> get_elem_tactic_extensible)
  | ((with_reducible apply Ev.lenT) <;> get_elem_tactic_extensible)
  | ((with_reducible apply Ev.lenS) <;> get_elem_tactic_extensible)
  | ((with_reducible apply Ev.min_) <;> get_elem_tactic_extensible)
  | ((with_reducible apply Ev.max_) <;> get_elem_tactic_extensible)
  | ((with_reducible apply Ev.abs_) <;> get_elem_tactic_extensible)
  | ((with_reducible apply Ev.tupleL) <;> get_elem_tactic_extensible)
  | ((with_reducible apply Ev.tupleT) <;> get_elem_tactic_extensible)
  | ((with_reducible apply EvL.listL) <;> get_elem_tactic_extensible)
  | ((with_reducible apply EvL.listT) <;> get_elem_tactic_extensible)
  | ((with_reducible apply Ev.ixL) <;> get_elem_tactic_extensible)
  | ((with_reducible apply Ev.ixT) <;> get_elem_tactic_extensible)
  | ((with_reducible apply Ev.ixM) <;> get_elem_tactic_extensible)
  | ((with_reducible apply Ev.ixMT) <;> get_elem_tactic_extensible)
  | ((with_reducible apply Ev.tup) <;> get_elem_tactic_extensible)
  | ((with_reducible apply Ev.vL) <;> get_elem_tactic_extensible)
  | with_reducible exact EvL.nil
  | ((with_reducible apply EvL.cons) <;> get_elem_tactic_extensible)
  | ((with_reducible apply EvL.lenOk) <;> get_elem_tactic_extensible)
  | ((with_reducible apply EvL.range1) <;> get_elem_tactic_extensible)
  | ((with_reducible apply EvL.seqL) <;> get_elem_tactic_extensible)
  | ((with_reducible apply EvL.seqT) <;> get_elem_tactic_extensible)
  | ((with_reducible apply EvL.seqS) <;> get_elem_tactic_extensible)
  | (intro; get_elem_tactic_extensible)
  | exact (show GetElem?.getElem? (List.cons _ _) _ = some _ from rfl)
  | omega
  | (simp only [List.length_map, List.length_append, List.length_replicate, List.length_cons, List.length_nil, List.length_range] <;> omega))
theorem rowsPair (ps : List (Int × Int)) : RowsV (.lst (ps.map pairD)) (pr2 ps) := by
  rw [← pr2_map]
  exact rowsLet _
theorem diff_comm (n : Nat) (a b : List Int) : diffL n b a = diffL n a b := by
  have e : (fun k : Nat => decide (at_ b (k : Int) ≠ at_ a (k : Int))) = fun k : Nat => decide (at_ a (k : Int) ≠ at_ b (k : Int)) := funext fun k => decide_eq_decide.mpr ⟨fun h z => h z.symm, fun h z => h z.symm⟩
  unfold diffL
  rw [e]
def sz2 : List Int := List.replicate 48 2
def szF : List Int := [6, 2, 2, 2, 488, 4, 48, 13, 2]
theorem bits_row {row : List Int} (o : RowOk row sz2) {n : Nat} (hn : n ≤ 48) : Bits n (row.take n) := by
  have l : row.length = 48 := o.1.trans (by decide)
  refine ⟨by rw [List.length_take]; omega, fun x hx => ?_⟩
  have hx := List.mem_of_mem_take hx
  obtain ⟨i, hi, e⟩ := List.mem_iff_getElem.mp hx
  have z := o.2 (i : Int) (by omega) (by omega)
  have e2 : at_ sz2 (i : Int) = 2 := by
    have m := at_mem (xs := sz2) (i := (i : Int)) (by omega) (by show (i : Int) < ((List.replicate 48 (2 : Int)).length : Nat); rw [List.length_replicate]; omega)
    exact (List.mem_replicate.mp m).2
  have e3 : at_ row (i : Int) = x := by
    have q := at_get (xs := row) (i := (i : Int)) (by omega) (by omega)
    rw [Int.toNat_natCast, List.getElem?_eq_getElem hi, e] at q
    exact (Option.some.inj q).symm
  omega
theorem law_ok (ns : List Int) : sem_law [.scr ns] = some (.ok (.bl true)) := by
  suffices H : Run g_law (.v (.scr ns) :: List.replicate 12 .no) (Ret fun d => d = .bl true) by
    obtain ⟨d, h, rfl⟩ := sem_ret (n := 13) (ds := [.scr ns]) H
    exact h
  obtain ⟨mills, ps, eG, m1, m2, p48, ok⟩ := law_ground_ok ns 0 (by decide)
  refine Run.sset (d := .lst [.int mills, .lst (ps.map pairD)]) (Ev.callP (ds := [.scr ns, .int 0]) (EvL.cons (Ev.var rfl) (EvL.cons Ev.c .nil)) .nil ⟨rfl, rfl⟩ eG) ?_
  refine Run.sset (d := .int mills) (Ev.ixL (ds := [.int mills, .lst (ps.map pairD)]) (Ev.var rfl) Ev.c (by omega) rfl) ?_
  refine Run.sset (d := .lst (ps.map pairD)) (Ev.ixL (ds := [.int mills, .lst (ps.map pairD)]) (Ev.var rfl) Ev.c (by omega) rfl) ?_
  refine Run.sset (d := .int (ps.length : Nat)) (by
    have z := Ev.lenL (fa := vVar 3) (ρ := [.v (.scr ns), .v (.lst [.int mills, .lst (ps.map pairD)]), .v (.int mills), .v (.lst (ps.map pairD)), .no, .no, .no, .no, .no, .no, .no, .no, .no]) (ds := ps.map pairD) (Ev.var rfl)
    rw [List.length_map] at z
    exact z) ?_
  refine dig_run (ns := ns) (k := 3) szF (Ev.var rfl) Ev.c (by decide) rfl (by decide) fun row oR => ?_
  have lR : row.length = 9 := oR.1.trans (by decide)
  have r4 := oR.2 4 (by omega) (by omega)
  have r7 := oR.2 7 (by omega) (by omega)
  rw [show at_ szF 4 = 488 from rfl] at r4
  rw [show at_ szF 7 = 13 from rfl] at r7
  have rowAt : ∀ {ρ : EV.Env} {i : Int}, ρ[5]? = some (.v (.lst (row.map D.int))) → 0 ≤ i → i < 9 → EV.Ev (v2 ixD (vVar 5) (vC (.int i))) ρ (.int (at_ row i)) := fun h h0 h1 => Ev.ixM (A := D.int) (Ev.var h) Ev.c h0 (by omega)
  clear oR
  obtain ⟨VH, eH, hH⟩ := law_handed_ok (pr2 ps) (at_ row 0) (by rw [pr2_len]; omega)
  rw [pr2_map] at eH
  refine Run.sset (d := landD mills ps) (Ev.callP (ds := [.int mills, VH]) (EvL.cons (Ev.var rfl) (EvL.cons (Ev.callP (ds := [.lst (ps.map pairD), .int (at_ row 0)]) (EvL.cons (Ev.var rfl) (EvL.cons (rowAt rfl (by omega) (by omega)) .nil)) .nil ⟨rfl, rfl⟩ eH) .nil)) .nil ⟨rfl, rfl⟩ (Valley_okR ok (by omega) hH)) ?_
  obtain ⟨ra, ea, oa⟩ := dig_cell (fs := vVar 0) (fk := vC (.int 4)) (fz := vL (nRep (vL (lenOk (aCons (vC (.int 2)) (aNil)))) (vC (.int 48)))) (ρ := [.v (.scr ns), .v (.lst [.int mills, .lst (ps.map pairD)]), .v (.int mills), .v (.lst (ps.map pairD)), .v (.int (ps.length : Nat)), .v (.lst (row.map D.int)), .v (landD mills ps), .no, .no, .no, .no, .no, .no]) (ns := ns) (k := 4) sz2 (Ev.var rfl) Ev.c (by decide) rfl (by decide)
  refine Run.sset (d := letD (ra.take ps.length)) (Ev.tupleL (by have z := sliceL_upto (A := D.int) (xs := ra) (k := (ps.length : Nat)) ea (fk := vVar 4) (Ev.var rfl) (by omega); rw [Int.toNat_natCast] at z; exact z)) ?_
  have ha := bits_row oa p48
  generalize ra.take ps.length = a at ha ⊢
  clear ea oa
  obtain ⟨rb, eb, ob⟩ := dig_cell (fs := vVar 0) (fk := vC (.int 5)) (fz := vL (nRep (vL (lenOk (aCons (vC (.int 2)) (aNil)))) (vC (.int 48)))) (ρ := [.v (.scr ns), .v (.lst [.int mills, .lst (ps.map pairD)]), .v (.int mills), .v (.lst (ps.map pairD)), .v (.int (ps.length : Nat)), .v (.lst (row.map D.int)), .v (landD mills ps), .v (letD a), .no, .no, .no, .no, .no]) (ns := ns) (k := 5) sz2 (Ev.var rfl) Ev.c (by decide) rfl (by decide)
  refine Run.sset (d := letD (rb.take ps.length)) (Ev.tupleL (by have z := sliceL_upto (A := D.int) (xs := rb) (k := (ps.length : Nat)) eb (fk := vVar 4) (Ev.var rfl) (by omega); rw [Int.toNat_natCast] at z; exact z)) ?_
  have hb := bits_row ob p48
  generalize rb.take ps.length = b at hb ⊢
  clear eb ob
  obtain ⟨ks, eK, hk, lk⟩ := law_row_ok ns (at0 := 6) (size := at_ row 4) (many := (ps.length : Nat)) (by decide) r4 (by omega)
  refine Run.sset (d := .lst (ks.map D.int)) (Ev.callP (ds := [.scr ns, .int 6, .int (at_ row 4), .int (ps.length : Nat)]) (EvL.cons (Ev.var rfl) (EvL.cons Ev.c (EvL.cons (rowAt rfl (by omega) (by omega)) (EvL.cons (Ev.var rfl) .nil)))) .nil ⟨rfl, rfl⟩ eK) ?_
  have wa := law_walked_ok m1 m2 ok p48 ha hk (by omega) lR
  have wb := law_walked_ok m1 m2 ok p48 hb hk (by omega) lR
  have f1 := formD_seq D.int a (at_ row 1)
  have f2 := formD_seq D.int b (at_ row 2)
  have g1 := law_form_ok (.inr rfl : SeqA D.int (letD a) a) (at_ row 1)
  have g2 := law_form_ok (.inr rfl : SeqA D.int (letD b) b) (at_ row 2)
  have p2 := formD_pl b (at_ row 2)
  have d1 := differing_ok (n := ps.length) (by omega) f1 f2 ha.1 hb.1
  have d2 := law_differs_ok (n := ps.length) (by omega) ha.1 hb.1
  have d3 := differing_ok (n := ps.length) (by omega) f2 (.inr rfl : SeqA D.int (letD a) a) hb.1 ha.1
  have d4 := differing_ok (n := ps.length) (by omega) f2 (.inr rfl : SeqA D.int (letD b) b) hb.1 hb.1
  rw [diff_self] at d4
  have dsym := diff_comm ps.length a b
  rw [dsym] at d3
  have dl : (diffL ps.length a b).length ≤ 90000 := Nat.le_trans (pickL_len _ _) (by omega)
  obtain ⟨vs, eV, hv, lv⟩ := law_values_ok ns (n := ps.length) p48 ha.1 hb.1 lR
  have jd := fun v (h : v ∈ vs) => law_judged_ok (mills := mills) (ps := ps) p48 (hv v h) (at_ row 8)
  have ls7 : ps.length ≤ 7 → sem_law_listed [landD mills ps, .int (ps.length : Nat), .bl true] = some (.ok (.bl true)) := fun h => law_listed_ok (by omega) true
  have lsF : ∀ few : List (Int × Int), few.length ≤ 12 → sem_law_listed [landD mills few, .int (few.length : Nat), .bl false] = some (.ok (.bl true)) := fun few h => law_listed_ok h false
  have vF : ∀ few : List (Int × Int), (∀ p ∈ few, p ∈ ps) → few.length ≤ 12 → sem_Valley__init [.int mills, .lst (few.map pairD)] = some (.ok (landD mills few)) := fun few h1 h2 => Valley_okR (fun p hp => ok p (h1 p hp)) (by omega) (rowsPair few)
  generalize formD D.int b (at_ row 2) = U at *
  generalize formD D.int a (at_ row 1) = V at *
  generalize diffL ps.length a b = DF at *
  generalize hS : landD mills ps = S at *
  clear f1 f2
  generalize D.lst (row.map D.int) = RW at *
  show Run (gSeq _ _) [.v (.scr ns), .v (.lst [.int mills, .lst (ps.map pairD)]), .v (.int mills), .v (.lst (ps.map pairD)), .v (.int (ps.length : Nat)), .v RW, .v S, .v (letD a), .v (letD b), .v (.lst (ks.map D.int)), .no, .no, .no] _
  have eW : ∀ {ρ : EV.Env} {i : Nat} {st : List Int}, ρ[6]? = some (.v S) → ρ[1]? = some (.v (.lst [.int mills, .lst (ps.map pairD)])) → ρ[i]? = some (.v (letD st)) → ρ[9]? = some (.v (.lst (ks.map D.int))) → ρ[5]? = some (.v RW) → sem_law_walked [S, .lst [.int mills, .lst (ps.map pairD)], letD st, .lst (ks.map D.int), RW] = some (.ok (.bl true)) → EV.Ev (vCallP 5 0 [0, 1, 2, 3, 4] sem_law_walked [] (aCons (vVar 6) (aCons (vVar 1) (aCons (vVar i) (aCons (vVar 9) (aCons (vVar 5) (aNil)))))) (aNil)) ρ (.bl true) := fun h1 h2 h3 h4 h5 h => Ev.callP (EvL.cons (Ev.var h1) (EvL.cons (Ev.var h2) (EvL.cons (Ev.var h3) (EvL.cons (Ev.var h4) (EvL.cons (Ev.var h5) .nil))))) .nil ⟨rfl, rfl⟩ h
  refine Run.seq (Run.ifF (Ev.v1 (p := .bl true) (eW rfl rfl rfl rfl rfl wa) rfl) (Run.next ?_))
  refine Run.sset (d := U) (Ev.callP (ds := [letD b, .int (at_ row 2)]) (EvL.cons (Ev.var rfl) (EvL.cons (rowAt rfl (by omega) (by omega)) .nil)) .nil ⟨rfl, rfl⟩ g2) ?_
  show Run (gSeq _ _) [.v (.scr ns), .v (.lst [.int mills, .lst (ps.map pairD)]), .v (.int mills), .v (.lst (ps.map pairD)), .v (.int (ps.length : Nat)), .v RW, .v S, .v (letD a), .v (letD b), .v (.lst (ks.map D.int)), .v U, .no, .no] _
  have eD : ∀ {ρ : EV.Env}, ρ[7]? = some (.v (letD a)) → ρ[8]? = some (.v (letD b)) → EV.Ev (vCallP 2 0 [0, 1] sem_law_differs [] (aCons (vVar 7) (aCons (vVar 8) (aNil))) (aNil)) ρ (.lst (DF.map D.int)) := fun h1 h2 => Ev.callP (EvL.cons (Ev.var h1) (EvL.cons (Ev.var h2) .nil)) .nil ⟨rfl, rfl⟩ d2
  refine Run.seq (Run.ifF (Ev.v1 (p := .bl true) (Ev.callP (ds := [letD DF, .lst (DF.map D.int)]) (EvL.cons (Ev.callP (ds := [V, U]) (EvL.cons (Ev.callP (ds := [letD a, .int (at_ row 1)]) (EvL.cons (Ev.var rfl) (EvL.cons (rowAt rfl (by omega) (by omega)) .nil)) .nil ⟨rfl, rfl⟩ g1) (EvL.cons (Ev.var rfl) .nil)) .nil ⟨rfl, rfl⟩ d1) (EvL.cons (eD rfl rfl) .nil)) .nil ⟨rfl, rfl⟩ (law_same_ok (.inl rfl) dl)) rfl) (Run.next ?_))
  refine Run.seq (Run.ifF (orF (Ev.v1 (p := .bl true) (Ev.callP (ds := [letD DF, .lst (DF.map D.int)]) (EvL.cons (Ev.callP (ds := [U, letD a]) (EvL.cons (Ev.var rfl) (EvL.cons (Ev.var rfl) .nil)) .nil ⟨rfl, rfl⟩ d3) (EvL.cons (eD rfl rfl) .nil)) .nil ⟨rfl, rfl⟩ (law_same_ok (.inl rfl) dl)) rfl) (Ev.v1 (p := .bl true) (Ev.callP (ds := [letD [], .lst []]) (EvL.cons (Ev.callP (ds := [U, letD b]) (EvL.cons (Ev.var rfl) (EvL.cons (Ev.var rfl) .nil)) .nil ⟨rfl, rfl⟩ d4) (EvL.cons (Ev.vL (EvL.lenOk .nil (by simp))) .nil)) .nil ⟨rfl, rfl⟩ (law_same_ok (xs := []) (.inl rfl) (by simp))) rfl)) (Run.next ?_))
  refine Run.cut (fun ρ => ∃ x, ρ = [.v (.scr ns), .v (.lst [.int mills, .lst (ps.map pairD)]), .v (.int mills), .v (.lst (ps.map pairD)), .v (.int (ps.length : Nat)), .v RW, .v S, .v (letD a), .v (letD b), .v (.lst (ks.map D.int)), .v U, x, .no]) ?_ fun ρ hρ => ?_
  · refine Run.for (fun k ρ => ∃ x, ρ = [.v (.scr ns), .v (.lst [.int mills, .lst (ps.map pairD)]), .v (.int mills), .v (.lst (ps.map pairD)), .v (.int (ps.length : Nat)), .v RW, .v S, .v (letD a), .v (letD b), .v (.lst (ks.map D.int)), .v U, x, .no]) (EvL.seqL (Ev.callP (ds := [.scr ns, .int (ps.length : Nat), letD a, letD b, RW]) (EvL.cons (Ev.var rfl) (EvL.cons (Ev.var rfl) (EvL.cons (Ev.var rfl) (EvL.cons (Ev.var rfl) (EvL.cons (Ev.var rfl) .nil))))) .nil ⟨rfl, rfl⟩ eV)) ⟨.no, rfl⟩ (fun k d ρ hd hI => ?_) fun ρ hI => ⟨_, rfl, hI⟩
    obtain ⟨x, rfl⟩ := hI
    rw [List.getElem?_map] at hd
    obtain ⟨v, hv', rfl⟩ := Option.map_eq_some_iff.mp hd
    refine ⟨_, rfl, Run.ifF (Ev.v1 (p := .bl true) (Ev.callP (ds := [S, .int (ps.length : Nat), letD v, .int (at_ row 8)]) (EvL.cons (Ev.var rfl) (EvL.cons (Ev.var rfl) (EvL.cons (Ev.var rfl) (EvL.cons (rowAt rfl (by omega) (by omega)) .nil)))) .nil ⟨rfl, rfl⟩ (jd v (List.mem_of_getElem? hv'))) rfl) (Run.next ⟨_, rfl⟩)⟩
  obtain ⟨x, rfl⟩ := hρ
  refine Run.sset (d := .lst (ps.map pairD)) (Ev.var rfl) ?_
  refine Run.cut (fun ρ => ∃ few : List (Int × Int), (∀ p ∈ few, p ∈ ps) ∧ few.length ≤ 12 ∧ ρ = [.v (.scr ns), .v (.lst [.int mills, .lst (ps.map pairD)]), .v (.int mills), .v (.lst (ps.map pairD)), .v (.int (ps.length : Nat)), .v RW, .v S, .v (letD a), .v (letD b), .v (.lst (ks.map D.int)), .v U, x, .v (.lst (few.map pairD))]) ?_ fun ρ hρ => ?_
  · refine Run.ifP (Ev.gt (Ev.var rfl) Ev.c) (fun h => ?_) fun h => Run.next ⟨_, rfl, ps, fun p hp => hp, by omega, rfl⟩
    exact Run.set (d := .lst ((ps.take (at_ row 7).toNat).map pairD)) (sliceL_upto (Ev.var rfl) (rowAt rfl (by omega) (by omega)) r7.1) ⟨_, rfl, ps.take (at_ row 7).toNat, fun p hp => List.mem_of_mem_take hp, by rw [List.length_take]; omega, rfl⟩
  obtain ⟨few, fm, f12, rfl⟩ := hρ
  have lenF : EV.Ev (vCall lenD (aCons (vVar 12) (aNil))) [.v (.scr ns), .v (.lst [.int mills, .lst (ps.map pairD)]), .v (.int mills), .v (.lst (ps.map pairD)), .v (.int (ps.length : Nat)), .v RW, .v S, .v (letD a), .v (letD b), .v (.lst (ks.map D.int)), .v U, x, .v (.lst (few.map pairD))] (.int (few.length : Nat)) := by
    have z := Ev.lenL (fa := vVar 12) (ρ := [.v (.scr ns), .v (.lst [.int mills, .lst (ps.map pairD)]), .v (.int mills), .v (.lst (ps.map pairD)), .v (.int (ps.length : Nat)), .v RW, .v S, .v (letD a), .v (letD b), .v (.lst (ks.map D.int)), .v U, x, .v (.lst (few.map pairD))]) (ds := few.map pairD) (Ev.var rfl)
    rw [List.length_map] at z
    exact z
  refine Run.seq (Run.ifF (Ev.v1 (p := .bl true) (Ev.callP (ds := [landD mills few, .int (few.length : Nat), .bl false]) (EvL.cons (Ev.callP (ds := [.int mills, .lst (few.map pairD)]) (EvL.cons (Ev.var rfl) (EvL.cons (Ev.var rfl) .nil)) .nil ⟨rfl, rfl⟩ (vF few fm f12)) (EvL.cons lenF (EvL.cons Ev.c .nil))) .nil ⟨rfl, rfl⟩ (lsF few f12)) rfl) (Run.next ?_))
  refine Run.seq (Run.ifF (orF (bl_false (ne_self (d := U) (Ev.var rfl) (Ev.callP (ds := [letD b, .int (at_ row 2)]) (EvL.cons (Ev.var rfl) (EvL.cons (rowAt rfl (by omega) (by omega)) .nil)) .nil ⟨rfl, rfl⟩ g2) p2)) (Ev.v1 (p := .bl true) (eW rfl rfl rfl rfl rfl wb) rfl)) (Run.next ?_))
  refine Run.ret (d := .bl (decide ((7 : Int) < (ps.length : Nat) ∨ True))) (Ev.andT (eW rfl rfl rfl rfl rfl wa) (Ev.orP (Q := True) (Ev.gt (Ev.var rfl) Ev.c) fun h => ?_)) (by show D.bl _ = D.bl true; simp)
  exact Ev.callP (ds := [S, .int (ps.length : Nat), .bl true]) (EvL.cons (Ev.var rfl) (EvL.cons (Ev.var rfl) (EvL.cons Ev.c .nil))) .nil ⟨rfl, rfl⟩ (ls7 (by omega))
end LW
end

section
set_option maxHeartbeats 0
namespace LW
open PySem PySem.Spec PyProof.Rows L2 EV
theorem law_fd {P : Program} {w : World} {K : PySem.W.Frag} {mg : Str → Option Value} {h : Heap} {f : Addr} (X : K.In h) (G : h.Ns mainGlobals mg) (hfa : mg ("law" : Str) = some (.ref f)) (c : Says K) :
    ∃ fd : FuncData, (∀ (s : Shared) (v : Value), BindsTo s fd ⟨[v], []⟩ [("_law_script", v)]) ∧ ∀ base : Heap, FnOk P w K mg base (L2N.CX P w) 7 f fd ["_law_script"] (spF (tab K) 1 sem_law) := by
  have hy : Hyp K mg := ⟨c, h, X, G⟩
  obtain ⟨fd, F, _⟩ := ok_law (P := P) (w := w) (base := h) hy
  have e := hfa.symm.trans (glo_law hy)
  cases e
  have b := FunD.bindsA (ps := ["_law_script"]) F fun _ _ _ _ _ _ us hl => match us, hl with | [_], _ => rfl
  refine ⟨fd, fun s v => b s [v] rfl, fun base => ?_⟩
  obtain ⟨fd', F', Gd⟩ := ok_law (P := P) (w := w) (base := base) hy
  have ef : fd' = fd := by
    obtain ⟨_, _, _, _, _, _, _, _, _, _, e1, l1, _⟩ := F.ex
    obtain ⟨_, _, _, _, _, _, _, _, _, _, e2, l2, _⟩ := F'.ex
    rw [l1] at l2
    injection l2 with l2
    injection l2 with _ _ l2 _
    injection l2 with l2
    exact l2.symm
  rw [← ef]
  exact Gd
end LW
open PySem PySem.W PySem.Calls PyProof.Rows
theorem LW.fin_ (hp : ∀ ns : List Int, ns.length ≤ 63 → LW.sem_law [.scr ns] = some (.ok (.bl true))) : PySem.Challenge.rw_millsluices_k01_settings_and_turns.Holds := by
  w_on; o_law
  refine HandSHeadRun.head_any (r := OpenLaw.row PySem.Challenge.rw_millsluices_k01_settings_and_turns) (q := view (OpenLaw.row PySem.Challenge.rw_millsluices_k01_settings_and_turns).prog [37]) (H := LW.hk) (ob := LW.ob) (M := 9000) (loose := LW.loose) (d := HandSHeadRun.topDef (OpenLaw.row PySem.Challenge.rw_millsluices_k01_settings_and_turns).prog 37) (kwd := []) LW.ob_eq
    (by kernel_rfl) (fun s => by kernel_rfl) LW.run (by kernel_rfl) (by kernel_rfl) (by kernel_rfl) (by rfl) (by first | assumption | decide +kernel) (by decide +kernel) ⟨rfl, rfl, rfl, rfl, rfl, by decide +kernel⟩ ?hw ?hc
  case hw => w_witness2
  case hc =>
    refine EV.walk_end (l := PySem.Challenge.rw_millsluices_k01_settings_and_turns) (n := 63) (k := 7) (x := "_law_script") (fun w => L2N.CX (PySem.Challenge.rw_millsluices_k01_settings_and_turns).prog w) rfl (by decide) (by kernel_rfl) ⟨rfl, by decide, by decide⟩ ?F (fun w H s e s' c => ?_)
    · intro w mg fa h Y G hmg0
      obtain ⟨K, KX, c⟩ := Y
      have hmg : mg ("law" : PySem.Str) = some (.ref fa) := by
        have e : (HandSHeadRun.topDef (OpenLaw.row PySem.Challenge.rw_millsluices_k01_settings_and_turns).prog 37).name = ("law" : PySem.Str) := by kernel_rfl
        rw [← e]
        exact hmg0
      obtain ⟨fd, hb, hF⟩ := LW.law_fd (P := (PySem.Challenge.rw_millsluices_k01_settings_and_turns).prog) (w := w) KX G hmg c
      refine ⟨K, fd, _, KX, hb, fun H a ms hl hS => ?_, fun g _ _ => hF g⟩
      exact ⟨H, [.scr ms], _, EV.Sub.refl H, .cons (.scr hS (Nat.le_trans hl (by decide))) .nil, rfl, hp ms hl, fun v S' H' _ i => by cases i; rfl⟩
    · obtain ⟨_, _, _, _, _, _, _, _, _, _, _, _, z⟩ := c
      exact z
end
open PySem PySem.W PyProof.Rows
set_option Elab.async false
set_option maxRecDepth 100000 in
set_option maxHeartbeats 8000000 in
theorem PySem.Challenge.cw_millsluices_k01_settings_and_turns_holds : PySem.Challenge.rw_millsluices_k01_settings_and_turns.Holds := by
  exact LW.fin_ fun ns _ => LW.law_ok ns
