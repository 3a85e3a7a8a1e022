import PyProof.Rows.All
import VbtoadSpec
import KE.SortLaws
import Wide.All
import OpenK.AllK
import Wide.FinOn
import PyProof.EqAt
import PyProof.EqKinds
import PyProof.TupleCall
import KE.KStateDown
import KE.KFromBytes
import HandS.ForSpec
import HandS.Comp
import HandS.Dict
import HandS.More
import HandS.Iter
import HandS.Defaults
import HandS.ExcInit
import HandS.HeadHook1
import HandS.HeadHook2
import HandS.HeadHook3
import HandS.HeadHook4
import PySem.Challenge.RW_surejourney_s01_answers
import HandS.Head0
import HandS.Head1
import HandS.Head2
import HandS.Head3
import HandS.Head4
import HandS.Walk
import HandS.Evl
import HandS.ExcField
import KE.SortKeyHeap
import HandS.Lambda
import HandS.Conv
import HandS.Nested
import HandS.SortKw
import KE.GoesZip
import KE.GoesEnum
import KE.GoesMore
import KE.KDictZip
import HandS.Zip
import PyProof.FitsInt
import PyVbtoad
import KE.KLam
import KE.OsHead
import KE.OsGo
import Open.SpecLaws
import HandS.Spec
set_option Elab.async false
set_option linter.all false
set_option maxRecDepth 100000
set_option maxHeartbeats 0
/-! The roads by cars: the program's table (a mirror of it), the specification's rounds: both are the least of all ways. -/
namespace SJ
open Vbtoad

/-! ### the least of a set of numbers, if any -/
def IsMin (o : Option Nat) (S : Nat → Prop) : Prop := match o with
  | none => ∀ c, ¬ S c
  | some m => S m ∧ ∀ c, S c → m ≤ c
theorem IsMin.unique {o o' : Option Nat} {S : Nat → Prop} (h : IsMin o S) (h' : IsMin o' S) : o = o' := by
  cases o with
  | none => cases o' with
    | none => rfl
    | some m => exact absurd h'.1 (h m)
  | some m => cases o' with
    | none => exact absurd h.1 (h' m)
    | some k => exact congrArg some (Nat.le_antisymm (h.2 k h'.1) (h'.2 m h.1))
theorem IsMin.congr {o : Option Nat} {S T : Nat → Prop} (h : IsMin o S) (e : ∀ c, S c ↔ T c) : IsMin o T := by
  cases o with
  | none => exact fun c z => h c ((e c).2 z)
  | some m => exact ⟨(e m).1 h.1, fun c z => h.2 c ((e c).2 z)⟩
/-- a set between: with the same least -/
theorem IsMin.weak {o : Option Nat} {S T : Nat → Prop} (h : IsMin o S) (e : ∀ c, S c → T c) (b : ∀ c, T c → ∃ c', S c' ∧ c' ≤ c) : IsMin o T := by
  cases o with
  | none =>
    intro c z
    obtain ⟨c', s, _⟩ := b c z
    exact h c' s
  | some m =>
    refine ⟨e m h.1, fun c z => ?_⟩
    obtain ⟨c', s, l⟩ := b c z
    exact Nat.le_trans (h.2 c' s) l
theorem IsMin.some_of {o : Option Nat} {S : Nat → Prop} (h : IsMin o S) {c : Nat} (z : S c) : ∃ m, o = some m ∧ m ≤ c ∧ S m := by
  cases o with
  | none => exact absurd z (h c)
  | some m => exact ⟨m, rfl, h.2 c z, h.1⟩
theorem IsMin.of_some {o : Option Nat} {S : Nat → Prop} (h : IsMin o S) {m : Nat} (e : o = some m) : S m ∧ ∀ c, S c → m ≤ c := by
  subst e
  exact h
theorem isMin_none : IsMin none (fun _ => False) := fun _ h => h
theorem isMin_sooner {a b : Option Nat} {S T : Nat → Prop} (h : IsMin a S) (h' : IsMin b T) : IsMin (sooner a b) (fun c => S c ∨ T c) := by
  cases a with
  | none =>
    have e : sooner none b = b := rfl
    rw [e]
    exact h'.congr fun c => ⟨Or.inr, fun z => z.elim (fun q => absurd q (h c)) id⟩
  | some m => cases b with
    | none => exact (show IsMin (some m) S from h).congr fun c => ⟨Or.inl, fun z => z.elim id fun q => absurd q (h' c)⟩
    | some k =>
      refine ⟨?_, fun c z => ?_⟩
      · by_cases q : m ≤ k
        · rw [Nat.min_eq_left q]
          exact Or.inl h.1
        · rw [Nat.min_eq_right (by omega)]
          exact Or.inr h'.1
      · rcases z with z | z
        · have := h.2 c z
          exact Nat.le_trans (Nat.min_le_left _ _) this
        · have := h'.2 c z
          exact Nat.le_trans (Nat.min_le_right _ _) this
theorem isMin_fold : ∀ (l : List (Option Nat)) (a : Option Nat) (S : Nat → Prop), IsMin a S → IsMin (l.foldl sooner a) (fun c => S c ∨ some c ∈ l)
  | [], a, S, h => h.congr fun c => ⟨Or.inl, fun z => z.elim id fun q => by cases q⟩
  | x :: r, a, S, h => by
    have hx : IsMin x (fun c => some c = x) := by
      cases x with
      | none => exact fun c z => by cases z
      | some m => exact ⟨rfl, fun c z => by cases z; exact Nat.le_refl _⟩
    refine (isMin_fold r (sooner a x) _ (isMin_sooner h hx)).congr fun c => ?_
    rw [List.mem_cons, or_assoc]
theorem isMin_least (l : List (Option Nat)) : IsMin (leastOf l) (fun c => some c ∈ l) :=
  (isMin_fold l none _ isMin_none).congr fun c => by simp
theorem isMin_leastMap {α : Type} (l : List α) (f : α → Option Nat) : IsMin (leastOf (l.map f)) (fun c => ∃ x, x ∈ l ∧ f x = some c) :=
  (isMin_least _).congr fun c => by simp [List.mem_map]
theorem isMin_map {o : Option Nat} {S : Nat → Prop} (h : IsMin o S) (k : Nat) : IsMin (o.map fun m => k + m) (fun c => ∃ x, S x ∧ c = k + x) := by
  cases o with
  | none => exact fun c ⟨x, z, _⟩ => h x z
  | some m => exact ⟨⟨m, h.1, rfl⟩, fun c ⟨x, z, e⟩ => by
      have := h.2 x z
      have e2 : c = k + x := e
      show k + m ≤ c
      omega⟩

/-! ### what a net is like -/
structure PlaceOk (p : Place) : Prop where
  hand : p.handling ≤ 1000
  long : 1 ≤ p.name.length ∧ p.name.length ≤ 12
  byte : ∀ c ∈ p.name, c ≤ 255
structure CarOk (m : Nat) (c : Car) : Prop where
  fr : c.from_ < m
  to : c.to_ < m
  ne : c.from_ ≠ c.to_
  pos : 1 ≤ c.long
  top : c.long ≤ 10000
  long : 1 ≤ c.name.length ∧ c.name.length ≤ 12
  byte : ∀ b ∈ c.name, b ≤ 255
structure GoOk (m : Nat) (g : Go) : Prop where
  fr : g.from_ < m
  to : g.to_ < m
  ne : g.from_ ≠ g.to_
  up : g.dep < g.arr
  top : g.arr ≤ 100000
  long : 1 ≤ g.name.length ∧ g.name.length ≤ 12
  byte : ∀ b ∈ g.name, b ≤ 255
structure NetOk (n : Net) : Prop where
  pl : n.places.length ≤ 8
  cl : n.cars.length ≤ 16
  gl : n.goes.length ≤ 30
  p : ∀ x ∈ n.places, PlaceOk x
  c : ∀ x ∈ n.cars, CarOk n.places.length x
  g : ∀ x ∈ n.goes, GoOk n.places.length x
theorem netOk_empty : NetOk empty := ⟨by decide, by decide, by decide, (fun _ h => by cases h), (fun _ h => by cases h), (fun _ h => by cases h)⟩

/-! ### ways by cars -/
section
variable (n : Net)
/-- from one place to another by cars: minutes, with handling at each place between -/
inductive Way : Nat → Nat → Nat → Prop
  | one {c : Car} : c ∈ n.cars → Way c.from_ c.to_ c.long
  | more {c : Car} {d x : Nat} : c ∈ n.cars → Way c.to_ d x → Way c.from_ d (c.long + handlingAt n c.to_ + x)
/-- the same: places between below k, l cars -/
inductive WayK (k : Nat) : Nat → Nat → Nat → Nat → Prop
  | one {c : Car} : c ∈ n.cars → WayK k c.from_ c.to_ 1 c.long
  | more {c : Car} {d l x : Nat} : c ∈ n.cars → c.to_ < k → WayK k c.to_ d l x → WayK k c.from_ d (l + 1) (c.long + handlingAt n c.to_ + x)
end
section
variable {n : Net}
theorem Way.trans {a b d x y : Nat} (h : Way n a b x) (h' : Way n b d y) : Way n a d (x + handlingAt n b + y) := by
  induction h with
  | one hc => exact .more hc h'
  | more hc _ ih =>
    have z := Way.more hc (ih h')
    have e : ∀ p q r s t : Nat, p + q + r + s + t = p + q + (r + s + t) := fun p q r s t => by omega
    rw [e]
    exact z
theorem WayK.split {k a d l x : Nat} (h : WayK n (k + 1) a d l x) : WayK n k a d l x ∨ ∃ l1 x1 l2 x2, WayK n k a k l1 x1 ∧ WayK n (k + 1) k d l2 x2 ∧ l2 < l ∧ x1 + handlingAt n k + x2 = x := by
  induction h with
  | one hc => exact Or.inl (.one hc)
  | @more c d l x hc hk hr ih =>
    by_cases q : c.to_ = k
    · rw [q] at hr
      exact Or.inr ⟨1, c.long, l, x, by rw [← q]; exact .one hc, hr, by omega, by rw [q]⟩
    · have hk' : c.to_ < k := by omega
      rcases ih with ih | ⟨l1, x1, l2, x2, p1, p2, p3, p4⟩
      · exact Or.inl (.more hc hk' ih)
      · exact Or.inr ⟨l1 + 1, _, l2, x2, .more hc hk' p1, p2, by omega, by omega⟩
theorem Way.toK (ok : NetOk n) {a d x : Nat} (h : Way n a d x) : ∃ l, WayK n n.places.length a d l x := by
  induction h with
  | one hc => exact ⟨_, .one hc⟩
  | more hc _ ih =>
    obtain ⟨l, q⟩ := ih
    exact ⟨_, .more hc (ok.c _ hc).to q⟩
theorem Way.lt (ok : NetOk n) {a d x : Nat} (h : Way n a d x) : a < n.places.length ∧ d < n.places.length := by
  induction h with
  | one hc => exact ⟨(ok.c _ hc).fr, (ok.c _ hc).to⟩
  | more hc _ ih => exact ⟨(ok.c _ hc).fr, ih.2⟩
theorem Way.pos (ok : NetOk n) {a d x : Nat} (h : Way n a d x) : 1 ≤ x := by
  induction h with
  | one hc => exact (ok.c _ hc).pos
  | more hc _ ih => omega
end

/-! ### tables of numbers -/
abbrev Tab := List (List Int)
def tg (t : Tab) (i j : Nat) : Int := (t.getD i []).getD j (-1)
def ts (t : Tab) (i j : Nat) (v : Int) : Tab := t.set i ((t.getD i []).set j v)
def Sq (m : Nat) (t : Tab) : Prop := t.length = m ∧ ∀ i, i < m → (t.getD i []).length = m
theorem getD_set_eq {α : Type} {l : List α} {i j : Nat} {v d : α} (h : i < l.length) : (l.set i v).getD j d = if j = i then v else l.getD j d := by
  rw [List.getD_eq_getElem?_getD, List.getD_eq_getElem?_getD, List.getElem?_set]
  by_cases q : i = j
  · subst q
    simp [h]
  · rw [if_neg q, if_neg (fun z => q z.symm)]
theorem ts_sq {m : Nat} {t : Tab} {i j : Nat} {v : Int} (h : Sq m t) : Sq m (ts t i j v) := by
  refine ⟨by rw [ts, List.length_set]; exact h.1, fun a ha => ?_⟩
  by_cases hi : i < t.length
  · rw [ts, getD_set_eq hi]
    by_cases q : a = i
    · rw [if_pos q, List.length_set, ← q]
      exact h.2 a ha
    · rw [if_neg q]
      exact h.2 a ha
  · rw [ts, List.set_eq_of_length_le (by omega)]
    exact h.2 a ha
theorem tg_ts {m : Nat} {t : Tab} {i j a b : Nat} {v : Int} (h : Sq m t) (hi : i < m) (hj : j < m) : tg (ts t i j v) a b = if a = i ∧ b = j then v else tg t a b := by
  unfold tg ts
  rw [getD_set_eq (by rw [h.1]; exact hi)]
  by_cases q : a = i
  · subst q
    rw [if_pos rfl, getD_set_eq (by rw [h.2 a hi]; exact hj)]
    by_cases q2 : b = j
    · rw [if_pos q2, if_pos ⟨rfl, q2⟩]
    · rw [if_neg q2, if_neg fun z => q2 z.2]
  · rw [if_neg q, if_neg fun z => q z.1]

/-! ### the mirror of the program's table -/
def fw0 (m : Nat) : Tab := (List.range m).map fun i => (List.range m).map fun j => if i = j then 0 else -1
def fwCar (t : Tab) (c : Car) : Tab := if tg t c.from_ c.to_ < 0 ∨ (c.long : Int) < tg t c.from_ c.to_ then ts t c.from_ c.to_ c.long else t
def fwPut (n : Net) (i b : Nat) (t : Tab) (j : Nat) : Tab :=
  if (b = i ∨ b = j) ∨ i = j ∨ tg t i b < 0 ∨ tg t b j < 0 then t
  else if tg t i j < 0 ∨ tg t i b + (handlingAt n b : Int) + tg t b j < tg t i j then ts t i j (tg t i b + (handlingAt n b : Int) + tg t b j) else t
def fwRow (n : Net) (b : Nat) (t : Tab) (i : Nat) : Tab := (List.range n.places.length).foldl (fwPut n i b) t
def fwPhase (n : Net) (t : Tab) (b : Nat) : Tab := (List.range n.places.length).foldl (fwRow n b) t
def fwCars (n : Net) : Tab := n.cars.foldl fwCar (fw0 n.places.length)
def comeT (n : Net) : Tab := (List.range n.places.length).foldl (fwPhase n) (fwCars n)

/-- a fold over 0 .. m - 1, by a word of how many are through -/
theorem fold_range {σ : Type} (f : σ → Nat → σ) (P : Nat → σ → Prop) (m : Nat) (s : σ) (h0 : P 0 s) (hs : ∀ i s, i < m → P i s → P (i + 1) (f s i)) : P m ((List.range m).foldl f s) := by
  induction m with
  | zero => exact h0
  | succ m ih =>
    rw [List.range_succ, List.foldl_append]
    exact hs m _ (by omega) (ih fun i s hi => hs i s (by omega))
theorem fold_list {σ α : Type} (f : σ → α → σ) (P : List α → σ → Prop) : ∀ (l pre : List α) (s : σ), P pre s → (∀ pre x s, x ∈ l → P pre s → P (pre ++ [x]) (f s x)) → P (pre ++ l) (l.foldl f s)
  | [], pre, s, h, _ => by rw [List.append_nil]; exact h
  | x :: r, pre, s, h, hs => by
    have z := fold_list f P r (pre ++ [x]) (f s x) (hs pre x s List.mem_cons_self h) fun pre y s hy => hs pre y s (List.mem_cons_of_mem _ hy)
    rw [List.append_assoc] at z
    exact z

section
variable {n : Net} (ok : NetOk n)
/-- x is as good as y -/
def Good (x y : Int) : Prop := y < 0 ∨ (0 ≤ x ∧ x ≤ y)
theorem Good.refl (x : Int) : Good x x := by unfold Good; omega
theorem Good.trans {x y z : Int} (h : Good x y) (h' : Good y z) : Good x z := by unfold Good at *; omega
/-- each number of the table is a way's -/
structure Sound (n : Net) (t : Tab) : Prop where
  sq : Sq n.places.length t
  self : ∀ i, i < n.places.length → tg t i i = 0
  way : ∀ i j, i < n.places.length → j < n.places.length → i ≠ j → (tg t i j = -1 ∨ ∃ c : Nat, tg t i j = c ∧ Way n i j c)
theorem fw0_getD {m i : Nat} (h : i < m) : (fw0 m).getD i [] = (List.range m).map fun j => if i = j then 0 else -1 := by
  unfold fw0
  simp [List.getD_eq_getElem?_getD, List.getElem?_map, List.getElem?_range h]
theorem fw0_tg {m i j : Nat} (h : i < m) (h' : j < m) : tg (fw0 m) i j = if i = j then 0 else -1 := by
  unfold tg
  rw [fw0_getD h]
  simp [List.getD_eq_getElem?_getD, List.getElem?_map, List.getElem?_range h']
theorem sound0 : Sound n (fw0 n.places.length) where
  sq := ⟨by simp [fw0], fun i hi => by rw [fw0_getD hi]; simp⟩
  self := fun i hi => by rw [fw0_tg hi hi]; simp
  way := fun i j hi hj ne => Or.inl (by rw [fw0_tg hi hj, if_neg ne])
include ok in
theorem sound_car {t : Tab} {c : Car} (hc : c ∈ n.cars) (s : Sound n t) : Sound n (fwCar t c) ∧ (∀ i j, Good (tg (fwCar t c) i j) (tg t i j)) ∧ Good (tg (fwCar t c) c.from_ c.to_) c.long := by
  have o := ok.c c hc
  unfold fwCar
  split
  · rename_i h
    refine ⟨⟨ts_sq s.sq, fun i hi => ?_, fun i j hi hj ne => ?_⟩, fun i j => ?_, ?_⟩
    · rw [tg_ts s.sq o.fr o.to, if_neg fun z => o.ne (z.1.symm.trans z.2)]
      exact s.self i hi
    · rw [tg_ts s.sq o.fr o.to]
      split
      · rename_i e
        exact Or.inr ⟨c.long, rfl, by rw [e.1, e.2]; exact .one hc⟩
      · exact s.way i j hi hj ne
    · rw [tg_ts s.sq o.fr o.to]
      split
      · rename_i e
        rw [e.1, e.2]
        unfold Good
        omega
      · exact .refl _
    · rw [tg_ts s.sq o.fr o.to, if_pos ⟨rfl, rfl⟩]
      exact .refl _
  · rename_i h
    exact ⟨s, fun i j => .refl _, by unfold Good; omega⟩
include ok in
theorem cars_ok : Sound n (fwCars n) ∧ ∀ c ∈ n.cars, Good (tg (fwCars n) c.from_ c.to_) c.long := by
  have z := fold_list fwCar (fun pre t => Sound n t ∧ ∀ c ∈ pre, Good (tg t c.from_ c.to_) c.long) n.cars [] (fw0 n.places.length) ⟨sound0, fun _ h => by cases h⟩ fun pre x s hx ⟨h1, h2⟩ => by
    obtain ⟨g1, g2, g3⟩ := sound_car ok hx h1
    refine ⟨g1, fun c hc => ?_⟩
    rcases List.mem_append.mp hc with hc | hc
    · exact (g2 _ _).trans (h2 c hc)
    · cases List.mem_singleton.mp hc
      exact g3
  exact z
/-- one more way by b, put where it is shorter -/
theorem put_ok {t : Tab} {i b j : Nat} (hi : i < n.places.length) (hb : b < n.places.length) (hj : j < n.places.length) (s : Sound n t) :
    Sound n (fwPut n i b t j) ∧ (∀ x y, Good (tg (fwPut n i b t j) x y) (tg t x y)) ∧ (∀ x y, x = b ∨ y = b → tg (fwPut n i b t j) x y = tg t x y) ∧
      (i ≠ b → j ≠ b → i ≠ j → ∀ p q : Int, 0 ≤ p → 0 ≤ q → Good (tg t i b) p → Good (tg t b j) q → Good (tg (fwPut n i b t j) i j) (p + handlingAt n b + q)) := by
  unfold fwPut
  split
  · rename_i h
    refine ⟨s, fun x y => .refl _, fun x y _ => rfl, fun h1 h2 h3 p q p0 q0 h4 h5 => ?_⟩
    unfold Good at *
    omega
  · rename_i h
    have hib : b ≠ i := fun z => h (Or.inl (Or.inl z))
    have hbj : b ≠ j := fun z => h (Or.inl (Or.inr z))
    have hij : i ≠ j := fun z => h (Or.inr (Or.inl z))
    have h4 : ¬ tg t i b < 0 := fun z => h (Or.inr (Or.inr (Or.inl z)))
    have h5 : ¬ tg t b j < 0 := fun z => h (Or.inr (Or.inr (Or.inr z)))
    split
    · rename_i g
      refine ⟨⟨ts_sq s.sq, fun x hx => ?_, fun x y hx hy ne => ?_⟩, fun x y => ?_, fun x y e => ?_, fun h1 h2 h3 p q p0 q0 h4 h5 => ?_⟩
      · rw [tg_ts s.sq hi hj, if_neg fun z => hij (z.1.symm.trans z.2)]
        exact s.self x hx
      · rw [tg_ts s.sq hi hj]
        split
        · rename_i e
          rcases s.way i b hi hb (Ne.symm hib) with z | ⟨c1, e1, w1⟩
          · omega
          · rcases s.way b j hb hj hbj with z | ⟨c2, e2, w2⟩
            · omega
            · exact Or.inr ⟨c1 + handlingAt n b + c2, by rw [e1, e2]; omega, by rw [e.1, e.2]; exact w1.trans w2⟩
        · exact s.way x y hx hy ne
      · rw [tg_ts s.sq hi hj]
        split
        · rename_i e
          rw [e.1, e.2]
          unfold Good
          omega
        · exact .refl _
      · rw [tg_ts s.sq hi hj, if_neg fun z => ?_]
        rcases e with e | e
        · exact hib (e.symm.trans z.1)
        · exact hbj (e.symm.trans z.2)
      · rw [tg_ts s.sq hi hj, if_pos ⟨rfl, rfl⟩]
        unfold Good at *
        omega
    · rename_i g
      refine ⟨s, fun x y => .refl _, fun x y _ => rfl, fun h1 h2 h3 p q p0 q0 h4 h5 => ?_⟩
      unfold Good at *
      omega
/-- what holds of the table behind some of a phase's turns -/
structure Phase (n : Net) (b : Nat) (t0 t : Tab) (done : Nat → Nat → Prop) : Prop where
  sound : Sound n t
  good : ∀ x y, Good (tg t x y) (tg t0 x y)
  still : ∀ x y, x = b ∨ y = b → tg t x y = tg t0 x y
  did : ∀ i j, done i j → i ≠ b → j ≠ b → i ≠ j → ∀ p q : Int, 0 ≤ p → 0 ≤ q → Good (tg t0 i b) p → Good (tg t0 b j) q → Good (tg t i j) (p + handlingAt n b + q)
theorem phase_put {b i j : Nat} {t0 t : Tab} {done : Nat → Nat → Prop} (hi : i < n.places.length) (hb : b < n.places.length) (hj : j < n.places.length) (h : Phase n b t0 t done) :
    Phase n b t0 (fwPut n i b t j) (fun x y => done x y ∨ (x = i ∧ y = j)) := by
  obtain ⟨g1, g2, g3, g4⟩ := put_ok hi hb hj h.sound
  refine ⟨g1, fun x y => (g2 x y).trans (h.good x y), fun x y e => (g3 x y e).trans (h.still x y e), fun x y d n1 n2 n3 p q p0 q0 h1 h2 => ?_⟩
  rcases d with d | ⟨rfl, rfl⟩
  · exact (g2 x y).trans (h.did x y d n1 n2 n3 p q p0 q0 h1 h2)
  · exact g4 n1 n2 n3 p q p0 q0 (by rw [h.still _ _ (Or.inr rfl)]; exact h1) (by rw [h.still _ _ (Or.inl rfl)]; exact h2)
theorem phase_row {b i : Nat} {t0 t : Tab} {done : Nat → Nat → Prop} (hi : i < n.places.length) (hb : b < n.places.length) (h : Phase n b t0 t done) :
    Phase n b t0 (fwRow n b t i) (fun x y => done x y ∨ (x = i ∧ y < n.places.length)) := by
  have z := fold_range (fwPut n i b) (fun k t => Phase n b t0 t (fun x y => done x y ∨ (x = i ∧ y < k))) n.places.length t
    ⟨h.sound, h.good, h.still, fun x y d => h.did x y (d.elim id fun q => absurd q.2 (by omega))⟩ fun k s hk p => by
      have q := phase_put hi hb hk p
      refine ⟨q.sound, q.good, q.still, fun x y d => q.did x y ?_⟩
      rcases d with d | ⟨d1, d2⟩
      · exact Or.inl (Or.inl d)
      · by_cases e : y = k
        · exact Or.inr ⟨d1, e⟩
        · exact Or.inl (Or.inr ⟨d1, by omega⟩)
  exact z
theorem phase_all {b : Nat} {t0 : Tab} (hb : b < n.places.length) (s : Sound n t0) : Phase n b t0 (fwPhase n t0 b) (fun x y => x < n.places.length ∧ y < n.places.length) := by
  have z := fold_range (fwRow n b) (fun k t => Phase n b t0 t (fun x y => x < k ∧ y < n.places.length)) n.places.length t0
    ⟨s, fun x y => .refl _, fun _ _ _ => rfl, fun x y d => absurd d.1 (by omega)⟩ fun k s hk p => by
      have q := phase_row hk hb p
      refine ⟨q.sound, q.good, q.still, fun x y d => q.did x y ?_⟩
      by_cases e : x = k
      · exact Or.inr ⟨e, d.2⟩
      · exact Or.inl ⟨by omega, d.2⟩
  exact z
/-- as good as each way whose places between are below k -/
def Whole (n : Net) (k : Nat) (t : Tab) : Prop := ∀ l i j c, i ≠ j → WayK n k i j l c → i < n.places.length → j < n.places.length → Good (tg t i j) c
theorem whole_step {b : Nat} {t0 : Tab} (hb : b < n.places.length) (s : Sound n t0) (w : Whole n b t0) : Whole n (b + 1) (fwPhase n t0 b) := by
  have ph := phase_all hb s
  intro l
  induction l using Nat.strongRecOn with
  | ind l ih =>
    intro i j c ne h hi hj
    rcases h.split with h | ⟨l1, x1, l2, x2, h1, h2, hl, e⟩
    · exact (ph.good i j).trans (w l i j c ne h hi hj)
    · by_cases e1 : i = b
      · have z := ih l2 hl i j x2 ne (by rw [e1]; exact h2) hi hj
        unfold Good at *
        omega
      · by_cases e2 : j = b
        · have z := w l1 i j x1 ne (by rw [e2]; exact h1) hi hj
          have z2 := ph.good i j
          unfold Good at *
          omega
        · have z1 := w l1 i b x1 e1 h1 hi hb
          have z2 := ih l2 hl b j x2 (Ne.symm e2) h2 hb hj
          rw [ph.still b j (Or.inl rfl)] at z2
          have z := ph.did i j ⟨hi, hj⟩ e1 e2 ne x1 x2 (by omega) (by omega) z1 z2
          rw [← e]
          have e3 : ((x1 + handlingAt n b + x2 : Nat) : Int) = (x1 : Int) + (handlingAt n b : Int) + (x2 : Int) := by omega
          rw [e3]
          exact z
include ok in
theorem come_ok : Sound n (comeT n) ∧ Whole n n.places.length (comeT n) := by
  have c := cars_ok ok
  have z := fold_range (fwPhase n) (fun k t => Sound n t ∧ Whole n k t) n.places.length (fwCars n) ⟨c.1, fun l i j x ne h hi hj => by
    cases h with
    | one hc => exact c.2 _ hc
    | more hc hk _ => omega⟩ fun k t hk ⟨s, w⟩ => ⟨(phase_all hk s).sound, whole_step hk s w⟩
  exact z
end

/-! ### the least way -/
/-- coming from one place to another by cars, 0 to itself -/
def fwD (n : Net) (p d : Nat) : Option Nat := if tg (comeT n) p d < 0 then none else some (tg (comeT n) p d).toNat
/-- being ready there -/
def rdy (n : Net) (p u : Nat) : Option Nat := if p = u then some 0 else (fwD n p u).map fun m => m + handlingAt n u
section
variable {n : Net} (ok : NetOk n)
include ok
theorem fwD_self {p : Nat} (hp : p < n.places.length) : fwD n p p = some 0 := by
  unfold fwD
  rw [(come_ok ok).1.self p hp]
  rfl
theorem fwD_tg {p d : Nat} (hp : p < n.places.length) (hd : d < n.places.length) : tg (comeT n) p d = orNone (fwD n p d) := by
  unfold fwD
  by_cases e : p = d
  · subst e
    rw [(come_ok ok).1.self p hp]
    rfl
  · rcases (come_ok ok).1.way p d hp hd e with z | ⟨c, z, _⟩
    · rw [z]
      rfl
    · rw [z, if_neg (by omega)]
      rfl
theorem fwD_min {p d : Nat} (hp : p < n.places.length) (hd : d < n.places.length) (ne : p ≠ d) : IsMin (fwD n p d) (Way n p d) := by
  have w : ∀ c, Way n p d c → Good (tg (comeT n) p d) c := fun c h => by
    obtain ⟨l, q⟩ := h.toK ok
    exact (come_ok ok).2 l p d c ne q hp hd
  unfold fwD
  rcases (come_ok ok).1.way p d hp hd ne with z | ⟨c, z, h⟩
  · rw [z, if_pos (by omega)]
    intro c h
    have := w c h
    unfold Good at this
    omega
  · rw [z, if_neg (by omega)]
    refine ⟨h, fun x hx => ?_⟩
    have := w x hx
    unfold Good at this
    show (c : Int).toNat ≤ x
    omega
/-- being ready: the cost of some way, or none -/
def Rdy (n : Net) (p u c : Nat) : Prop := (p = u ∧ c = 0) ∨ ∃ x, Way n p u x ∧ c = x + handlingAt n u
theorem rdy_min {p u : Nat} (hp : p < n.places.length) (hu : u < n.places.length) : IsMin (rdy n p u) (Rdy n p u) := by
  unfold rdy
  by_cases e : p = u
  · rw [if_pos e]
    exact ⟨Or.inl ⟨e, rfl⟩, fun c _ => Nat.zero_le c⟩
  · rw [if_neg e]
    have z := fwD_min ok hp hu e
    cases h : fwD n p u with
    | none =>
      rw [h] at z
      rintro c (⟨q, _⟩ | ⟨x, q, _⟩)
      · exact e q
      · exact z x q
    | some m =>
      rw [h] at z
      refine ⟨Or.inr ⟨m, z.1, rfl⟩, ?_⟩
      rintro c (⟨q, _⟩ | ⟨x, q, r⟩)
      · exact absurd q e
      · have := z.2 x q
        show m + handlingAt n u ≤ c
        omega
omit ok in
/-- a car ahead of being ready -/
theorem Rdy.more {c : Car} {u x : Nat} (hc : c ∈ n.cars) (h : Rdy n c.to_ u x) : Rdy n c.from_ u (c.long + handlingAt n c.to_ + x) := by
  rcases h with ⟨e, rfl⟩ | ⟨y, w, rfl⟩
  · exact Or.inr ⟨c.long, by rw [← e]; exact .one hc, by rw [← e]; rfl⟩
  · exact Or.inr ⟨_, .more hc w, by omega⟩
omit ok in
/-- the first car of being ready -/
theorem Rdy.first {p u x : Nat} (ne : p ≠ u) (h : Rdy n p u x) : ∃ c ∈ n.cars, c.from_ = p ∧ ∃ y, Rdy n c.to_ u y ∧ x = c.long + handlingAt n c.to_ + y := by
  rcases h with ⟨e, _⟩ | ⟨y, w, rfl⟩
  · exact absurd e ne
  · cases w with
    | @one c hc => exact ⟨c, hc, rfl, 0, Or.inl ⟨rfl, rfl⟩, rfl⟩
    | @more c d z hc w => exact ⟨c, hc, rfl, z + handlingAt n u, Or.inr ⟨z, w, rfl⟩, by omega⟩

/-! ### the specification's rounds -/
/-- being ready by at most k cars -/
inductive RdyK (n : Net) (u : Nat) : Nat → Nat → Nat → Prop
  | zero {k : Nat} : RdyK n u k u 0
  | more {k x : Nat} {c : Car} : c ∈ n.cars → RdyK n u k c.to_ x → RdyK n u (k + 1) c.from_ (c.long + handlingAt n c.to_ + x)
omit ok in
theorem RdyK.up {u k p x : Nat} (h : RdyK n u k p x) : RdyK n u (k + 1) p x := by
  induction h with
  | zero => exact .zero
  | more hc _ ih => exact .more hc ih
omit ok in
theorem RdyK.rdy {u k p x : Nat} (h : RdyK n u k p x) : Rdy n p u x := by
  induction h with
  | zero => exact Or.inl ⟨rfl, rfl⟩
  | more hc _ ih => exact ih.more hc
/-- what a round's list says -/
def Round (n : Net) (u k : Nat) (l : List (Option Nat)) : Prop := l.length = n.places.length ∧ ∀ p, p < n.places.length → IsMin ((l[p]?).getD none) (RdyK n u k p)
theorem round_step {u k : Nat} {l : List (Option Nat)} (hu : u < n.places.length) (h : Round n u k l) : Round n u (k + 1) (readyRound n l) := by
  obtain ⟨h1, h2⟩ := h
  refine ⟨by unfold readyRound; simp [h1], fun p hp => ?_⟩
  have e : ((readyRound n l)[p]?).getD none = sooner ((l[p]?).getD none) (leastOf (n.cars.map fun c => if c.from_ = p then ((l[c.to_]?).getD none).map fun m => c.long + handlingAt n c.to_ + m else none)) := by
    unfold readyRound
    rw [List.getElem?_map, List.getElem?_zipIdx, List.getElem?_eq_getElem (by omega)]
    simp
  rw [e]
  refine (isMin_sooner (h2 p hp) (isMin_leastMap n.cars _)).weak (fun x hx => ?_) (fun x hx => ?_)
  · rcases hx with hx | ⟨c, hc, hx⟩
    · exact hx.up
    · split at hx
      · rename_i e
        subst e
        obtain ⟨m, e1, e2⟩ := Option.map_eq_some_iff.mp hx
        subst e2
        exact .more hc ((h2 _ (ok.c c hc).to).of_some e1).1
      · cases hx
  · cases hx with
    | zero => exact ⟨0, Or.inl .zero, Nat.le_refl _⟩
    | @more _ y c hc hr =>
      obtain ⟨m, e1, e2, _⟩ := (h2 _ (ok.c c hc).to).some_of hr
      exact ⟨c.long + handlingAt n c.to_ + m, Or.inr ⟨c, hc, by rw [if_pos rfl, e1]; rfl⟩, by omega⟩
theorem rounds_ok {u : Nat} (hu : u < n.places.length) : ∀ (k j : Nat) (l : List (Option Nat)), Round n u j l → Round n u (j + k) (rounds n k l)
  | 0, _, _, h => h
  | k + 1, j, l, h => by
    have z := rounds_ok hu k (j + 1) (readyRound n l) (round_step ok hu h)
    have e : j + 1 + k = j + (k + 1) := by omega
    rw [e] at z
    exact z
/-- how many places are nearer to u -/
def nearer (n : Net) (u p : Nat) : Nat := ((List.range n.places.length).filter fun q => match rdy n q u, rdy n p u with
  | some a, some b => decide (a < b)
  | _, _ => false).length
omit ok in
theorem filter_lt {α : Type} {l : List α} {f g : α → Bool} (h : ∀ x, f x = true → g x = true) {x : α} (hx : x ∈ l) (h1 : f x = false) (h2 : g x = true) : (l.filter f).length < (l.filter g).length := by
  induction l with
  | nil => cases hx
  | cons y r ih =>
    have le : ∀ l : List α, (l.filter f).length ≤ (l.filter g).length := fun l => by
      induction l with
      | nil => exact Nat.le_refl _
      | cons z l ih2 =>
        rw [List.filter_cons, List.filter_cons]
        cases e : f z with
        | true => rw [h z e, if_pos rfl, if_pos rfl]; exact Nat.succ_le_succ ih2
        | false =>
          rw [if_neg (by decide)]
          split
          · exact Nat.le_succ_of_le ih2
          · exact ih2
    rcases List.mem_cons.mp hx with e | e
    · subst e
      rw [List.filter_cons, List.filter_cons, h1, h2, if_neg (by decide), if_pos rfl]
      exact Nat.lt_succ_of_le (le r)
    · rw [List.filter_cons, List.filter_cons]
      cases e2 : f y with
      | true => rw [h y e2, if_pos rfl, if_pos rfl]; exact Nat.succ_lt_succ (ih e)
      | false =>
        rw [if_neg (by decide)]
        split
        · exact Nat.lt_succ_of_lt (ih e)
        · exact ih e
omit ok in
theorem nearer_lt {u p q a b : Nat} (hq : q < n.places.length) (ha : rdy n q u = some a) (hb : rdy n p u = some b) (h : a < b) : nearer n u q < nearer n u p := by
  unfold nearer
  refine filter_lt (fun x hx => ?_) (List.mem_range.mpr hq) ?_ ?_
  · rw [ha] at hx
    rw [hb]
    cases e : rdy n x u with
    | none => rw [e] at hx; cases hx
    | some c =>
      rw [e] at hx
      have : c < a := of_decide_eq_true hx
      exact decide_eq_true (show c < b by omega)
  · rw [ha]
    exact decide_eq_false (Nat.lt_irrefl a)
  · rw [ha, hb]
    exact decide_eq_true h
omit ok in
theorem nearer_self {u p b : Nat} (hp : p < n.places.length) (hb : rdy n p u = some b) : nearer n u p < n.places.length := by
  have z : nearer n u p < ((List.range n.places.length).filter fun _ => true).length := filter_lt (fun _ _ => rfl) (List.mem_range.mpr hp) (by rw [hb]; exact decide_eq_false (Nat.lt_irrefl b)) rfl
  rw [List.filter_eq_self.mpr (fun _ _ => rfl), List.length_range] at z
  exact z
/-- the first car of a shortest way to be ready -/
theorem rdy_first {p u b : Nat} (hp : p < n.places.length) (hu : u < n.places.length) (ne : p ≠ u) (hb : rdy n p u = some b) :
    ∃ c ∈ n.cars, c.from_ = p ∧ ∃ a, rdy n c.to_ u = some a ∧ b = c.long + handlingAt n c.to_ + a := by
  have hm := (rdy_min ok hp hu).of_some hb
  obtain ⟨c, hc, e, y, hy, ey⟩ := Rdy.first ne hm.1
  obtain ⟨a, ha, le, ra⟩ := (rdy_min ok (ok.c c hc).to hu).some_of hy
  refine ⟨c, hc, e, a, ha, ?_⟩
  have z := hm.2 _ (by rw [← e]; exact ra.more hc)
  omega
theorem rdy_rank : ∀ (r p u b : Nat), p < n.places.length → u < n.places.length → rdy n p u = some b → nearer n u p ≤ r → RdyK n u r p b := by
  intro r
  induction r using Nat.strongRecOn with
  | ind r ih =>
    intro p u b hp hu hb hr
    by_cases e : p = u
    · subst e
      unfold rdy at hb
      rw [if_pos rfl] at hb
      cases hb
      exact .zero
    · obtain ⟨c, hc, e1, a, ha, e2⟩ := rdy_first ok hp hu e hb
      have hl := nearer_lt (ok.c c hc).to ha hb (by have := (ok.c c hc).pos; omega)
      have z := ih (r - 1) (by omega) c.to_ u a (ok.c c hc).to hu ha (by omega)
      have z2 := RdyK.more hc z
      have e3 : r - 1 + 1 = r := by omega
      rw [e1, e3, ← e2] at z2
      exact z2
theorem roads_rdy {p u : Nat} (hp : p < n.places.length) (hu : u < n.places.length) : readyFrom (roadsOf n) p u = rdy n p u := by
  have e : readyFrom (roadsOf n) p u = ((readyTo n u)[p]?).getD none := by
    unfold readyFrom roadsOf
    rw [List.getElem?_map, List.getElem?_range hu]
    rfl
  rw [e]
  have r0 : Round n u 0 ((List.range n.places.length).map fun p => if p = u then some 0 else none) := by
    refine ⟨by simp, fun p hp => ?_⟩
    rw [List.getElem?_map, List.getElem?_range hp]
    show IsMin (if p = u then some 0 else none) _
    split
    · rename_i q
      subst q
      exact ⟨.zero, fun c _ => Nat.zero_le c⟩
    · rename_i q
      intro c h
      cases h with
      | zero => exact q rfl
  have z := (rounds_ok ok hu n.places.length 0 _ r0).2 p hp
  rw [Nat.zero_add] at z
  refine IsMin.unique (z.weak (fun c h => h.rdy) fun c h => ?_) (rdy_min ok hp hu)
  obtain ⟨m, e1, le, _⟩ := (rdy_min ok hp hu).some_of h
  exact ⟨m, rdy_rank ok _ p u m hp hu e1 (Nat.le_of_lt (nearer_self hp e1)), le⟩
omit ok in
/-- a way's last car -/
theorem Way.last {p d x : Nat} (h : Way n p d x) : ∃ c ∈ n.cars, c.to_ = d ∧ ∃ y, Rdy n p c.from_ y ∧ x = y + c.long := by
  induction h with
  | @one c hc => exact ⟨c, hc, rfl, 0, Or.inl ⟨rfl, rfl⟩, by omega⟩
  | @more c d x hc _ ih =>
    obtain ⟨c', hc', e, y, hy, ey⟩ := ih
    exact ⟨c', hc', e, _, hy.more hc, by omega⟩
omit ok in
theorem Rdy.last {p x : Nat} {c : Car} (hc : c ∈ n.cars) (h : Rdy n p c.from_ x) : Way n p c.to_ (x + c.long) := by
  rcases h with ⟨e, rfl⟩ | ⟨y, w, rfl⟩
  · rw [e, Nat.zero_add]
    exact .one hc
  · exact w.trans (.one hc)
theorem drive_fw {p d : Nat} (hp : p < n.places.length) (hd : d < n.places.length) : driveTo n (roadsOf n) p d = fwD n p d := by
  unfold driveTo
  by_cases e : p = d
  · subst e
    rw [if_pos rfl, fwD_self ok hp]
  · rw [if_neg e]
    refine IsMin.unique ((isMin_leastMap n.cars _).weak (fun x hx => ?_) fun x hx => ?_) (fwD_min ok hp hd e)
    · obtain ⟨c, hc, hx⟩ := hx
      split at hx
      · rename_i e1
        rw [roads_rdy ok hp (ok.c c hc).fr] at hx
        obtain ⟨m, e2, e3⟩ := Option.map_eq_some_iff.mp hx
        have z := Rdy.last hc ((rdy_min ok hp (ok.c c hc).fr).of_some e2).1
        rw [e1] at z
        rw [← e3]
        exact z
      · cases hx
    · obtain ⟨c, hc, e1, y, hy, ey⟩ := hx.last
      obtain ⟨m, e2, le, _⟩ := (rdy_min ok hp (ok.c c hc).fr).some_of hy
      exact ⟨m + c.long, ⟨c, hc, by rw [if_pos e1, roads_rdy ok hp (ok.c c hc).fr, e2]; rfl⟩, by omega⟩
end
end SJ
/-! What's sure: the program's numbers (-1 for none) against the specification's. -/
namespace SJ
open Vbtoad

/-! ### numbers that may be none -/
theorem orNone_inj {a b : Option Nat} (h : orNone a = orNone b) : a = b := by
  cases a <;> cases b <;> simp only [orNone] at h
  · rfl
  · omega
  · omega
  · congr
    omega
theorem orNone_none {a : Option Nat} : orNone a = -1 ↔ a = none := by
  cases a with
  | none => simp [orNone]
  | some m =>
    simp only [orNone]
    exact ⟨fun h => by omega, fun h => by cases h⟩
theorem orNone_some {a : Option Nat} {m : Nat} : orNone a = (m : Int) ↔ a = some m := by
  cases a with
  | none =>
    simp only [orNone]
    exact ⟨fun h => by omega, fun h => by cases h⟩
  | some k =>
    simp only [orNone, Option.some.injEq]
    omega
theorem orNone_ge (a : Option Nat) : -1 ≤ orNone a := by
  cases a <;> simp only [orNone] <;> omega
def mSum (a b : Int) : Int := if a = -1 ∨ b = -1 then -1 else a + b
def mLess (a b : Int) : Int := if a = -1 then b else if b = -1 then a else if b < a then b else a
def mGreat (a b : Int) : Int := if a = -1 ∨ b = -1 then -1 else if b > a then b else a
theorem mSum_nat (a : Option Nat) (t : Nat) : mSum (orNone a) (t : Int) = orNone (a.map fun m => t + m) := by
  unfold mSum
  cases a with
  | none => simp [orNone]
  | some m =>
    rw [if_neg (by simp only [orNone]; omega)]
    simp only [orNone, Option.map_some]
    omega
theorem mSum_opt (a : Nat) (o : Option Nat) : mSum (a : Int) (orNone o) = orNone (o.map fun m => a + m) := by
  unfold mSum
  cases o with
  | none => simp [orNone]
  | some m =>
    rw [if_neg (by simp only [orNone]; omega)]
    simp only [orNone, Option.map_some]
    omega
theorem mLess_nat (a b : Option Nat) : mLess (orNone a) (orNone b) = orNone (sooner a b) := by
  unfold mLess
  cases a with
  | none => simp [orNone, sooner]
  | some m => cases b with
    | none =>
      rw [if_neg (by simp only [orNone]; omega)]
      simp [orNone, sooner]
    | some k =>
      rw [if_neg (by simp only [orNone]; omega), if_neg (by simp only [orNone]; omega)]
      show (if (k : Int) < (m : Int) then (k : Int) else (m : Int)) = ((min m k : Nat) : Int)
      split <;> omega
theorem mGreat_nat (a b : Option Nat) : mGreat (orNone a) (orNone b) = orNone (later a b) := by
  unfold mGreat
  cases a with
  | none => simp [orNone, later]
  | some m => cases b with
    | none => simp [orNone, later]
    | some k =>
      rw [if_neg (by simp only [orNone]; omega)]
      show (if (k : Int) > (m : Int) then (k : Int) else (m : Int)) = ((max m k : Nat) : Int)
      split <;> omega

/-! ### what's sure, by the worths by their numbers -/
def inTime (n : Net) (p t : Nat) (g : Go) : Bool := (rdy n p g.from_).any fun m => decide (t + m ≤ g.dep)
def sureO (n : Net) (d : Nat) (v : Nat → Option Nat) (p t : Nat) : Option Nat :=
  if p = d then some t else sooner ((fwD n p d).map fun m => t + m) (leastOf ((List.range n.goes.length).map fun i => (n.goes[i]?).bind fun g => if inTime n p t g = true then v i else none))
/-- the program's: ws are the worths in order -/
def sureI (n : Net) (d : Nat) (ws : List Int) (p t : Nat) : Int :=
  if p = d then t else (n.goes.zip ws).foldl (fun f x => if inTime n p t x.1 = true then mLess f x.2 else f) (mSum (orNone (fwD n p d)) t)
def rowOf (n : Net) (v : Nat → Option Nat) : List Int := (List.range n.goes.length).map fun i => orNone (v i)
theorem rowOf_len (n : Net) (v : Nat → Option Nat) : (rowOf n v).length = n.goes.length := by simp [rowOf]
theorem rowOf_get {n : Net} {v : Nat → Option Nat} {i : Nat} (h : i < n.goes.length) : (rowOf n v)[i]? = some (orNone (v i)) := by
  unfold rowOf
  rw [List.getElem?_map, List.getElem?_range h]
  rfl
/-- the ways of being sure, one by one -/
def SureS (n : Net) (d : Nat) (v : Nat → Option Nat) (p t c : Nat) : Prop := (∃ m, fwD n p d = some m ∧ c = t + m) ∨ ∃ i g, n.goes[i]? = some g ∧ inTime n p t g = true ∧ v i = some c
theorem sureO_min {n : Net} {d : Nat} {v : Nat → Option Nat} {p t : Nat} (ne : p ≠ d) : IsMin (sureO n d v p t) (SureS n d v p t) := by
  unfold sureO
  rw [if_neg ne]
  have hd : IsMin (fwD n p d) (fun m => fwD n p d = some m) := by
    cases fwD n p d with
    | none => exact fun c z => by cases z
    | some m => exact ⟨rfl, fun c z => by cases z; exact Nat.le_refl _⟩
  refine (isMin_sooner (isMin_map hd t) (isMin_leastMap _ _)).congr fun c => ?_
  unfold SureS
  refine or_congr Iff.rfl ⟨fun ⟨i, hi, z⟩ => ?_, fun ⟨i, g, h1, h2, h3⟩ => ?_⟩
  · cases e : n.goes[i]? with
    | none => rw [e] at z; cases z
    | some g =>
      rw [e] at z
      have z2 : (if inTime n p t g = true then v i else none) = some c := z
      split at z2
      · exact ⟨i, g, e, by assumption, z2⟩
      · cases z2
  · refine ⟨i, List.mem_range.mpr (List.getElem?_eq_some_iff.mp h1).1, ?_⟩
    rw [h1]
    show (if inTime n p t g = true then v i else none) = some c
    rw [if_pos h2, h3]
theorem foldZip_get {α β σ : Type} (f : σ → α × β → σ) : ∀ (l : List α) (r : List β) (s : σ) (g : Nat → β), r = (List.range l.length).map g → (l.zip r).foldl f s = l.zipIdx.foldl (fun s x => f s (x.1, g x.2)) s := by
  intro l
  have key : ∀ (l : List α) (k : Nat) (r : List β) (s : σ) (g : Nat → β), r = (List.range' k l.length).map g → (l.zip r).foldl f s = (l.zipIdx k).foldl (fun s x => f s (x.1, g x.2)) s := by
    intro l
    induction l with
    | nil => intro k r s g _; rfl
    | cons x l ih =>
      intro k r s g e
      rw [List.length_cons, List.range'_succ, List.map_cons] at e
      rw [e, List.zip_cons_cons, List.foldl_cons, List.zipIdx_cons, List.foldl_cons]
      exact ih (k + 1) _ _ g rfl
  intro r s g e
  exact key l 0 r s g (by rw [e, List.range_eq_range'])
theorem foldLess (n : Net) (p t : Nat) (v : Nat → Option Nat) : ∀ (l : List (Go × Nat)) (a : Option Nat),
    l.foldl (fun f x => if inTime n p t x.1 = true then mLess f (orNone (v x.2)) else f) (orNone a) = orNone ((l.map fun x => if inTime n p t x.1 = true then v x.2 else none).foldl sooner a)
  | [], _ => rfl
  | x :: l, a => by
    rw [List.foldl_cons, List.map_cons, List.foldl_cons]
    by_cases h : inTime n p t x.1 = true
    · rw [if_pos h, if_pos h, mLess_nat]
      exact foldLess n p t v l _
    · rw [if_neg h, if_neg h]
      have e : sooner a none = a := by cases a <;> rfl
      rw [e]
      exact foldLess n p t v l _
theorem sooner_fold : ∀ (l : List (Option Nat)) (a : Option Nat), l.foldl sooner a = sooner a (leastOf l) := by
  intro l a
  have h1 : IsMin a (fun c => a = some c) := by
    cases a with
    | none => exact fun c z => by cases z
    | some m => exact ⟨rfl, fun c z => by cases z; exact Nat.le_refl _⟩
  exact IsMin.unique (isMin_fold l a _ h1) (isMin_sooner h1 (isMin_least l))
theorem zipIdx_range {α β : Type} (l : List α) (f : α → Nat → β) (g : Nat → β) (h : ∀ i x, l[i]? = some x → g i = f x i) : (l.zipIdx.map fun x => f x.1 x.2) = (List.range l.length).map g := by
  apply List.ext_getElem?
  intro i
  rw [List.getElem?_map, List.getElem?_zipIdx, List.getElem?_map]
  cases e : l[i]? with
  | none =>
    rw [List.getElem?_eq_none (by rw [List.length_range]; exact List.getElem?_eq_none_iff.mp e)]
    rfl
  | some x =>
    rw [List.getElem?_range (List.getElem?_eq_some_iff.mp e).1]
    have := h i x e
    simp [this]
theorem sureI_row (n : Net) (d : Nat) (v : Nat → Option Nat) (p t : Nat) : sureI n d (rowOf n v) p t = orNone (sureO n d v p t) := by
  unfold sureI sureO
  by_cases e : p = d
  · rw [if_pos e, if_pos e]
    rfl
  · rw [if_neg e, if_neg e, foldZip_get _ n.goes (rowOf n v) _ (fun i => orNone (v i)) rfl, mSum_nat, foldLess n p t v, sooner_fold]
    rw [zipIdx_range n.goes (fun g i => if inTime n p t g = true then v i else none) (fun i => (n.goes[i]?).bind fun g => if inTime n p t g = true then v i else none)]
    intro i x h
    rw [h]
    rfl

/-! ### tables -/
def lookT (vs : Table) (i : Nat) : Option Nat := (vs.find? fun v => v.1 == i).bind fun v => v.2
theorem lookT_nil (i : Nat) : lookT [] i = none := rfl
theorem lookT_mem {vs : Table} (nd : (vs.map (·.1)).Nodup) {i : Nat} {o : Option Nat} (h : (i, o) ∈ vs) : lookT vs i = o := by
  unfold lookT
  induction vs with
  | nil => cases h
  | cons x r ih =>
    rw [List.map_cons, List.nodup_cons] at nd
    rw [List.find?_cons]
    rcases List.mem_cons.mp h with e | e
    · rw [← e]
      simp
    · have q : (x.1 == i) = false := by
        rw [beq_eq_false_iff_ne]
        intro z
        exact nd.1 (List.mem_map.mpr ⟨_, e, z.symm⟩)
      rw [q]
      exact ih nd.2 e
theorem lookT_some {vs : Table} {i c : Nat} (h : lookT vs i = some c) : (i, some c) ∈ vs := by
  unfold lookT at h
  cases e : vs.find? fun v => v.1 == i with
  | none => rw [e] at h; cases h
  | some x =>
    rw [e] at h
    have h1 := List.mem_of_find?_eq_some e
    have h2 := List.find?_some e
    have h3 : x.1 = i := beq_iff_eq.mp h2
    have h4 : x.2 = some c := h
    rw [← h3, ← h4]
    exact h1
theorem lookT_app {vs : Table} {i j : Nat} {o : Option Nat} (h : i ∉ vs.map (·.1)) : lookT (vs ++ [(i, o)]) j = if j = i then o else lookT vs j := by
  unfold lookT
  rw [List.find?_append]
  by_cases e : j = i
  · subst e
    rw [if_pos rfl]
    have q : vs.find? (fun v => v.1 == j) = none := by
      rw [List.find?_eq_none]
      intro x hx z
      exact h (List.mem_map.mpr ⟨x, hx, beq_iff_eq.mp z⟩)
    rw [q]
    simp
  · rw [if_neg e]
    have q : ([(i, o)] : Table).find? (fun v => v.1 == j) = none := by
      rw [List.find?_eq_none]
      intro x hx z
      cases List.mem_singleton.mp hx
      exact e (beq_iff_eq.mp z).symm
    rw [q]
    cases vs.find? fun v => v.1 == j <;> rfl
section
variable {n : Net} (ok : NetOk n)
include ok
theorem go_ok {i : Nat} {g : Go} (h : n.goes[i]? = some g) : GoOk n.places.length g := ok.g g (List.mem_of_getElem? h)
theorem sureBy_O {d p t : Nat} {vs : Table} (nd : (vs.map (·.1)).Nodup) (hp : p < n.places.length) (hd : d < n.places.length) : sureBy n (roadsOf n) d vs p t = sureO n d (lookT vs) p t := by
  by_cases e : p = d
  · unfold sureBy sureO
    rw [if_pos e, if_pos e]
  · refine IsMin.unique ?_ (sureO_min e)
    unfold sureBy
    rw [if_neg e, drive_fw ok hp hd]
    have hm : IsMin (fwD n p d) (fun m => fwD n p d = some m) := by
      cases fwD n p d with
      | none => exact fun c z => by cases z
      | some m => exact ⟨rfl, fun c z => by cases z; exact Nat.le_refl _⟩
    refine (isMin_sooner (isMin_map hm t) (isMin_leastMap vs _)).congr fun c => ?_
    unfold SureS
    refine or_congr Iff.rfl ⟨fun ⟨x, hx, z⟩ => ?_, fun ⟨i, g, h1, h2, h3⟩ => ?_⟩
    · obtain ⟨i, o⟩ := x
      cases e1 : n.goes[i]? with
      | none => simp only [e1] at z; cases z
      | some g => cases o with
        | none => simp only [e1] at z; cases z
        | some a =>
          simp only [e1] at z
          rw [roads_rdy ok hp (go_ok ok e1).fr] at z
          cases e2 : rdy n p g.from_ with
          | none => rw [e2] at z; cases z
          | some m =>
            rw [e2] at z
            have z2 : (if t + m ≤ g.dep then some a else none) = some c := z
            split at z2
            · cases z2
              exact ⟨i, g, e1, by unfold inTime; rw [e2]; exact decide_eq_true (by assumption), lookT_mem nd hx⟩
            · cases z2
    · refine ⟨(i, some c), lookT_some h3, ?_⟩
      simp only [h1]
      rw [roads_rdy ok hp (go_ok ok h1).fr]
      unfold inTime at h2
      cases e2 : rdy n p g.from_ with
      | none => rw [e2] at h2; cases h2
      | some m =>
        rw [e2] at h2
        show (if t + m ≤ g.dep then some c else none) = some c
        rw [if_pos (of_decide_eq_true h2)]
end
def goneO (n : Net) (d : Nat) (v : Nat → Option Nat) (g : Go) : Option Nat := if g.to_ = d then some g.arr else sureO n d v g.to_ (g.arr + handlingAt n g.to_)
def goneI (n : Net) (d : Nat) (ws : List Int) (g : Go) : Int := if g.to_ = d then g.arr else sureI n d ws g.to_ (g.arr + handlingAt n g.to_)
theorem goneI_row (n : Net) (d : Nat) (v : Nat → Option Nat) (g : Go) : goneI n d (rowOf n v) g = orNone (goneO n d v g) := by
  unfold goneI goneO
  split
  · rfl
  · exact sureI_row n d v _ _
/-- the program's worth of a departure: the row so far, the row of one fewer -/
def worthI (n : Net) (d k : Nat) (ws us : List Int) (g : Go) : Int := if k = 0 then goneI n d ws g else mGreat (goneI n d ws g) (sureI n d us g.from_ (g.dep + 1))
/-- a part of a table: what's looked at in this order -/
def tableUp (n : Net) (d : Nat) (fewer : Option Table) (l : List Nat) : Table := l.foldl (fun vs i => vs ++ [(i, worth n (roadsOf n) d fewer vs i)]) []
theorem tableUp_more (n : Net) (d : Nat) (fewer : Option Table) (l : List Nat) (i : Nat) : tableUp n d fewer (l ++ [i]) = tableUp n d fewer l ++ [(i, worth n (roadsOf n) d fewer (tableUp n d fewer l) i)] := by
  unfold tableUp
  rw [List.foldl_append]
  rfl
theorem tableUp_keys (n : Net) (d : Nat) (fewer : Option Table) (l : List Nat) : (tableUp n d fewer l).map (·.1) = l := by
  have z := fold_list (fun vs i => vs ++ [(i, worth n (roadsOf n) d fewer vs i)]) (fun pre (vs : Table) => vs.map (·.1) = pre) l [] [] rfl fun pre x s _ h => by
    rw [List.map_append, h]
    rfl
  exact z
def fewerOf (n : Net) (d : Nat) : Nat → Option Table
  | 0 => none
  | k + 1 => some (tableFor n (roadsOf n) d k)
theorem tableFor_up (n : Net) (d k : Nat) : tableFor n (roadsOf n) d k = tableUp n d (fewerOf n d k) (lastFirst n) := by
  cases k <;> rfl

/-! ### the departures, the last ones first -/
theorem putLater_mem (n : Net) (i x : Nat) : ∀ l : List Nat, x ∈ putLater n i l ↔ x = i ∨ x ∈ l
  | [] => by simp [putLater]
  | j :: l => by
    unfold putLater
    split
    · simp
    · rw [List.mem_cons, putLater_mem n i x l, List.mem_cons]
      exact ⟨fun h => h.elim (fun e => Or.inr (Or.inl e)) fun h => h.elim Or.inl fun e => Or.inr (Or.inr e), fun h => h.elim (fun e => Or.inr (Or.inl e)) fun h => h.elim Or.inl fun e => Or.inr (Or.inr e)⟩
theorem putLater_nodup (n : Net) (i : Nat) : ∀ l : List Nat, i ∉ l → l.Nodup → (putLater n i l).Nodup
  | [], _, _ => by simp [putLater]
  | j :: l, h, nd => by
    unfold putLater
    split
    · exact List.nodup_cons.mpr ⟨h, nd⟩
    · rw [List.nodup_cons] at nd ⊢
      refine ⟨fun z => ?_, putLater_nodup n i l (fun z => h (List.mem_cons_of_mem _ z)) nd.2⟩
      rcases (putLater_mem n i j l).mp z with e | e
      · exact h (by rw [← e]; exact List.mem_cons_self)
      · exact nd.1 e
theorem putLater_len (n : Net) (i : Nat) : ∀ l : List Nat, (putLater n i l).length = l.length + 1
  | [] => rfl
  | j :: l => by
    unfold putLater
    split
    · rfl
    · rw [List.length_cons, putLater_len n i l]
      rfl
theorem lastFirst_ok (n : Net) : (lastFirst n).Nodup ∧ (lastFirst n).length = n.goes.length ∧ ∀ i, i ∈ lastFirst n ↔ i < n.goes.length := by
  have z := fold_range (fun l i => putLater n i l) (fun k l => l.Nodup ∧ l.length = k ∧ ∀ i, i ∈ l ↔ i < k) n.goes.length [] ⟨List.nodup_nil, rfl, fun i => by simp⟩ fun k l _ ⟨h1, h2, h3⟩ => by
    refine ⟨putLater_nodup n k l (fun z => Nat.lt_irrefl _ ((h3 k).mp z)) h1, by rw [putLater_len, h2], fun i => ?_⟩
    rw [putLater_mem, h3]
    omega
  exact z
theorem tableFor_nodup (n : Net) (d k : Nat) : ((tableFor n (roadsOf n) d k).map (·.1)).Nodup := by
  rw [tableFor_up, tableUp_keys]
  exact (lastFirst_ok n).1
section
variable {n : Net} (ok : NetOk n)
include ok
/-- one more departure's worth, as the program reckons it: its own row so far, the row before -/
theorem worth_row {d k : Nat} (hd : d < n.places.length) {l : List Nat} (nd : l.Nodup) {i : Nat} {g : Go} (hg : n.goes[i]? = some g) :
    worthI n d k (rowOf n (lookT (tableUp n d (fewerOf n d k) l))) (rowOf n (lookT (tableFor n (roadsOf n) d (k - 1)))) g = orNone (worth n (roadsOf n) d (fewerOf n d k) (tableUp n d (fewerOf n d k) l) i) := by
  have og := go_ok ok hg
  have nk : ((tableUp n d (fewerOf n d k) l).map (·.1)).Nodup := by
    rw [tableUp_keys]
    exact nd
  have eg : gone n (roadsOf n) d (tableUp n d (fewerOf n d k) l) g = goneO n d (lookT (tableUp n d (fewerOf n d k) l)) g := by
    unfold gone goneO
    split
    · rfl
    · exact sureBy_O ok nk og.to hd
  unfold worthI worth
  rw [hg]
  cases k with
  | zero =>
    rw [if_pos rfl, goneI_row]
    exact congrArg orNone eg.symm
  | succ k =>
    rw [if_neg (Nat.succ_ne_zero k), goneI_row, sureI_row, mGreat_nat]
    show _ = orNone (later (gone n (roadsOf n) d (tableUp n d (fewerOf n d (k + 1)) l) g) (sureBy n (roadsOf n) d (tableFor n (roadsOf n) d k) g.from_ (g.dep + 1)))
    rw [eg, sureBy_O ok (tableFor_nodup n d k) og.fr hd]
    rfl
omit ok in
/-- the row with one more -/
theorem rowOf_up {d : Nat} {fewer : Option Table} {l : List Nat} {i : Nat} (h : i ∉ l) : rowOf n (lookT (tableUp n d fewer (l ++ [i]))) = (rowOf n (lookT (tableUp n d fewer l))).set i (orNone (worth n (roadsOf n) d fewer (tableUp n d fewer l) i)) := by
  apply List.ext_getElem?
  intro j
  rw [List.getElem?_set, rowOf_len]
  by_cases hj : j < n.goes.length
  · rw [rowOf_get hj, tableUp_more, lookT_app (by rw [tableUp_keys]; exact h)]
    by_cases e : i = j
    · subst e
      rw [if_pos rfl, if_pos rfl, if_pos hj]
    · rw [if_neg e, if_neg fun z => e z.symm, rowOf_get hj]
  · rw [List.getElem?_eq_none (by rw [rowOf_len]; omega)]
    by_cases e : i = j
    · rw [if_pos e, if_neg (by omega)]
    · rw [if_neg e, List.getElem?_eq_none (by rw [rowOf_len]; omega)]
omit ok in
theorem rowOf_nil {d : Nat} {fewer : Option Table} : rowOf n (lookT (tableUp n d fewer [])) = List.replicate n.goes.length (-1) := by
  apply List.ext_getElem?
  intro j
  by_cases hj : j < n.goes.length
  · rw [rowOf_get hj, List.getElem?_replicate, if_pos hj]
    rfl
  · rw [List.getElem?_eq_none (by rw [rowOf_len]; omega), List.getElem?_eq_none (by rw [List.length_replicate]; omega)]
/-- the row of a whole table -/
def rowK (n : Net) (d k : Nat) : List Int := rowOf n (lookT (tableFor n (roadsOf n) d k))
/-- what's sure, of whole tables -/
def sureK (n : Net) (d k p t : Nat) : Option Nat := sureO n d (lookT (tableFor n (roadsOf n) d k)) p t
theorem sureIn_K {d k p t : Nat} (hp : p < n.places.length) (hd : d < n.places.length) : sureIn n (roadsOf n) d k p t = sureK n d k p t := sureBy_O ok (tableFor_nodup n d k) hp hd
omit ok in
theorem sureI_K (d k p t : Nat) : sureI n d (rowK n d k) p t = orNone (sureK n d k p t) := sureI_row n d _ p t
end
end SJ
/-! What to do, and journeys: the program's choices against the specification's; a journey's steps are few. -/
namespace SJ
open Vbtoad

/-! ### the first thing of a list -/
theorem range_find {α : Type} (f : α → Bool) : ∀ l : List α, (List.range l.length).find? (fun i => (l[i]?).any f) = l.findIdx? f := by
  intro l
  generalize hk : l.length = k
  induction k generalizing l with
  | zero =>
    have e : l = [] := List.length_eq_zero_iff.mp hk
    subst e
    rfl
  | succ k ih =>
    obtain ⟨r, x, rfl⟩ : ∃ r x, l = r ++ [x] := by
      refine ⟨l.dropLast, l.getLast (fun z => by rw [z] at hk; cases hk), (List.dropLast_concat_getLast _).symm⟩
    have hr : r.length = k := by simpa using hk
    have z := ih r hr
    rw [List.range_succ, List.find?_append, List.findIdx?_append, ← z]
    have e1 : (List.range k).find? (fun i => ((r ++ [x])[i]?).any f) = (List.range k).find? (fun i => (r[i]?).any f) := by
      have key : ∀ (L : List Nat), (∀ i ∈ L, i < k) → L.find? (fun i => ((r ++ [x])[i]?).any f) = L.find? (fun i => (r[i]?).any f) := by
        intro L
        induction L with
        | nil => intro _; rfl
        | cons i L ihL =>
          intro h
          have hi := h i List.mem_cons_self
          rw [List.find?_cons, List.find?_cons, List.getElem?_append_left (by omega), ihL fun j hj => h j (List.mem_cons_of_mem _ hj)]
      exact key _ fun i hi => List.mem_range.mp hi
    rw [e1]
    cases (List.range k).find? (fun i => (r[i]?).any f) with
    | some i => rfl
    | none =>
      have e2 : (r ++ [x])[k]? = some x := by rw [List.getElem?_append_right (by omega)]; simp [hr]
      rw [List.find?_cons, e2]
      simp only [Option.any_some, List.find?_nil, Option.none_or, List.findIdx?_cons, List.findIdx?_nil]
      cases f x <;> simp [hr]
def idxI {α : Type} (f : α → Bool) (l : List α) : Int := match l.findIdx? f with
  | some i => i
  | none => -1
theorem idxI_some {α : Type} {f : α → Bool} {l : List α} {i : Nat} (h : l.findIdx? f = some i) : idxI f l = i := by
  unfold idxI
  rw [h]

/-! ### what to do -/
def goalLong (n : Net) (d : Nat) (c : Car) : Int := if c.to_ = d then c.long else mSum ((c.long + handlingAt n c.to_ : Nat) : Int) (orNone (fwD n c.to_ d))
def isGoalCar (n : Net) (d p : Nat) (c : Car) : Bool := c.from_ == p && decide (goalLong n d c = orNone (fwD n p d))
def readyLong (n : Net) (u : Nat) (c : Car) : Int := mSum ((c.long + handlingAt n c.to_ : Nat) : Int) (orNone (rdy n c.to_ u))
def isReadyCar (n : Net) (u p : Nat) (c : Car) : Bool := c.from_ == p && decide (readyLong n u c = orNone (rdy n p u))
def depOf (n : Net) (i : Nat) : Nat := ((n.goes[i]?).map fun g => g.dep).getD 0
/-- one more departure looked at -/
def firstStep (n : Net) (ws : List Int) (p t : Nat) (s : Int) (b : Option Nat) (i : Nat) : Option Nat :=
  if ((n.goes[i]?).any fun g => decide ((ws.getD i (-1)) = s) && inTime n p t g) = true then (match b with
    | none => some i
    | some j => if depOf n i < depOf n j then some i else some j) else b
def firstO (n : Net) (ws : List Int) (p t : Nat) (s : Int) : Option Nat := (List.range n.goes.length).foldl (firstStep n ws p t s) none
/-- those that may be chosen -/
def Cand (n : Net) (d k p t a i : Nat) : Prop := ∃ g, n.goes[i]? = some g ∧ lookT (tableFor n (roadsOf n) d k) i = some a ∧ inTime n p t g = true
/-- the first of them -/
def FirstIs (n : Net) (C : Nat → Prop) (i : Nat) : Prop := C i ∧ ∀ j, C j → depOf n i < depOf n j ∨ (depOf n i = depOf n j ∧ i ≤ j)
theorem FirstIs.unique {n : Net} {C : Nat → Prop} {i j : Nat} (h : FirstIs n C i) (h' : FirstIs n C j) : i = j := by
  have a := h.2 j h'.1
  have b := h'.2 i h.1
  omega
section
variable {n : Net} (ok : NetOk n)
include ok
/-- what a way to the goal begins with -/
theorem drive_first {p d b : Nat} (hp : p < n.places.length) (hd : d < n.places.length) (ne : p ≠ d) (hb : fwD n p d = some b) :
    ∃ c ∈ n.cars, c.from_ = p ∧ ((c.to_ = d ∧ b = c.long) ∨ (c.to_ ≠ d ∧ ∃ a, fwD n c.to_ d = some a ∧ b = c.long + handlingAt n c.to_ + a)) := by
  have hm := (fwD_min ok hp hd ne).of_some hb
  cases hm.1 with
  | @one c hc => exact ⟨c, hc, rfl, Or.inl ⟨rfl, rfl⟩⟩
  | @more c _ x hc w =>
    refine ⟨c, hc, rfl, Or.inr ?_⟩
    have ne2 : c.to_ ≠ d := fun e => by
      have z := hm.2 c.long (by rw [← e]; exact .one hc)
      have := (ok.c c hc).pos
      have := w.pos ok
      omega
    obtain ⟨a, ha, le, wa⟩ := (fwD_min ok (ok.c c hc).to hd ne2).some_of w
    refine ⟨ne2, a, ha, ?_⟩
    have z := hm.2 _ (.more hc wa)
    omega
/-- a car is no short cut -/
theorem drive_le {c : Car} {d a : Nat} (hc : c ∈ n.cars) (hd : d < n.places.length) (ne : c.from_ ≠ d) (ha : fwD n c.to_ d = some a) (ne2 : c.to_ ≠ d) :
    ∃ b, fwD n c.from_ d = some b ∧ b ≤ c.long + handlingAt n c.to_ + a := by
  have w := ((fwD_min ok (ok.c c hc).to hd ne2).of_some ha).1
  obtain ⟨b, hb, le, _⟩ := (fwD_min ok (ok.c c hc).fr hd ne).some_of (.more hc w)
  exact ⟨b, hb, le⟩
theorem rdy_le {c : Car} {u a : Nat} (hc : c ∈ n.cars) (hu : u < n.places.length) (ha : rdy n c.to_ u = some a) : ∃ b, rdy n c.from_ u = some b ∧ b ≤ c.long + handlingAt n c.to_ + a := by
  have w := ((rdy_min ok (ok.c c hc).to hu).of_some ha).1
  obtain ⟨b, hb, le, _⟩ := (rdy_min ok (ok.c c hc).fr hu).some_of (w.more hc)
  exact ⟨b, hb, le⟩
omit ok in
theorem goalLong_eq {d b : Nat} {c : Car} {p : Nat} (hb : fwD n p d = some b) : isGoalCar n d p c = (c.from_ == p && (match if c.to_ = d then some 0 else (fwD n c.to_ d).map fun m => m + handlingAt n c.to_ with
    | some m => c.long + m == b
    | none => false)) := by
  unfold isGoalCar goalLong
  rw [hb]
  congr 1
  split
  · rename_i e
    show decide ((c.long : Int) = (b : Int)) = (c.long + 0 == b)
    rw [Nat.add_zero]
    by_cases q : c.long = b
    · rw [q]
      simp
    · rw [decide_eq_false (by omega)]
      simp [q]
  · rw [mSum_opt]
    cases fwD n c.to_ d with
    | none =>
      show decide ((-1 : Int) = (b : Int)) = false
      exact decide_eq_false (by omega)
    | some m =>
      show decide (((c.long + handlingAt n c.to_ + m : Nat) : Int) = (b : Int)) = (c.long + (m + handlingAt n c.to_) == b)
      by_cases q : c.long + (m + handlingAt n c.to_) = b
      · rw [q, decide_eq_true (by omega)]
        simp
      · rw [decide_eq_false (by omega)]
        simp [q]
omit ok in
theorem readyLong_eq {u b : Nat} {c : Car} {p : Nat} (hb : rdy n p u = some b) : isReadyCar n u p c = (c.from_ == p && (match rdy n c.to_ u with
    | some m => c.long + handlingAt n c.to_ + m == b
    | none => false)) := by
  unfold isReadyCar readyLong
  rw [hb, mSum_opt]
  congr 1
  cases rdy n c.to_ u with
  | none =>
    show decide ((-1 : Int) = (b : Int)) = false
    exact decide_eq_false (by omega)
  | some m =>
    show decide (((c.long + handlingAt n c.to_ + m : Nat) : Int) = (b : Int)) = (c.long + handlingAt n c.to_ + m == b)
    by_cases q : c.long + handlingAt n c.to_ + m = b
    · rw [q, decide_eq_true (by omega)]
      simp
    · rw [decide_eq_false (by omega)]
      simp [q]
omit ok in
theorem any_congr {α : Type} {f g : α → Bool} {l : List α} (i : Nat) (h : ∀ x ∈ l, f x = g x) : (l[i]?).any f = (l[i]?).any g := by
  cases e : l[i]? with
  | none => rfl
  | some x => exact h x (List.mem_of_getElem? e)
theorem carTo_eq {p d b : Nat} (hp : p < n.places.length) (hd : d < n.places.length) (hb : fwD n p d = some b) : carTo n (roadsOf n) p d = n.cars.findIdx? (isGoalCar n d p) := by
  rw [← range_find]
  unfold carTo
  congr 1
  funext i
  refine any_congr i fun c hc => ?_
  rw [goalLong_eq hb, drive_fw ok hp hd, hb, drive_fw ok (ok.c c hc).to hd]
  congr 1
  cases (if c.to_ = d then some 0 else (fwD n c.to_ d).map fun m => m + handlingAt n c.to_) <;> rfl
theorem carTowards_eq {p u b : Nat} (hp : p < n.places.length) (hu : u < n.places.length) (hb : rdy n p u = some b) : carTowards n (roadsOf n) p u = n.cars.findIdx? (isReadyCar n u p) := by
  rw [← range_find]
  unfold carTowards
  congr 1
  funext i
  refine any_congr i fun c hc => ?_
  rw [readyLong_eq hb, roads_rdy ok hp hu, hb, roads_rdy ok (ok.c c hc).to hu]
  congr 1
  cases rdy n c.to_ u <;> rfl
omit ok in
theorem idx_of {α : Type} {f : α → Bool} {l : List α} {x : α} (hx : x ∈ l) (h : f x = true) : ∃ i y, l.findIdx? f = some i ∧ l[i]? = some y ∧ f y = true := by
  cases e : l.findIdx? f with
  | none =>
    rw [List.findIdx?_eq_none_iff] at e
    rw [e x hx] at h
    cases h
  | some i =>
    obtain ⟨h1, h2, _⟩ := List.findIdx?_eq_some_iff_getElem.mp e
    exact ⟨i, l[i], rfl, List.getElem?_eq_getElem h1, h2⟩
/-- the first car towards the goal -/
theorem goalCar {p d b : Nat} (hp : p < n.places.length) (hd : d < n.places.length) (ne : p ≠ d) (hb : fwD n p d = some b) :
    ∃ i c, n.cars.findIdx? (isGoalCar n d p) = some i ∧ n.cars[i]? = some c ∧ c.from_ = p ∧ ((c.to_ = d ∧ b = c.long) ∨ (c.to_ ≠ d ∧ ∃ a, fwD n c.to_ d = some a ∧ b = c.long + handlingAt n c.to_ + a)) := by
  obtain ⟨c, hc, e1, e2⟩ := drive_first ok hp hd ne hb
  have hf : isGoalCar n d p c = true := by
    rw [goalLong_eq hb, e1]
    rcases e2 with ⟨q, e⟩ | ⟨q, a, ha, e⟩
    · rw [if_pos q]
      simp [e]
    · rw [if_neg q, ha]
      show (p == p && (c.long + (a + handlingAt n c.to_) == b)) = true
      have : c.long + (a + handlingAt n c.to_) = b := by omega
      simp [this]
  obtain ⟨i, x, h1, h2, h3⟩ := idx_of hc hf
  refine ⟨i, x, h1, h2, ?_⟩
  rw [goalLong_eq hb, Bool.and_eq_true, beq_iff_eq] at h3
  refine ⟨h3.1, ?_⟩
  by_cases q : x.to_ = d
  · have z := h3.2
    rw [if_pos q] at z
    have z2 : (x.long + 0 == b) = true := z
    rw [beq_iff_eq] at z2
    exact Or.inl ⟨q, by omega⟩
  · have z := h3.2
    rw [if_neg q] at z
    cases e : fwD n x.to_ d with
    | none => rw [e] at z; cases z
    | some a =>
      rw [e] at z
      have z2 : (x.long + (a + handlingAt n x.to_) == b) = true := z
      rw [beq_iff_eq] at z2
      exact Or.inr ⟨q, a, rfl, by omega⟩
/-- the first car towards being ready -/
theorem readyCar {p u b : Nat} (hp : p < n.places.length) (hu : u < n.places.length) (ne : p ≠ u) (hb : rdy n p u = some b) :
    ∃ i c, n.cars.findIdx? (isReadyCar n u p) = some i ∧ n.cars[i]? = some c ∧ c.from_ = p ∧ ∃ a, rdy n c.to_ u = some a ∧ b = c.long + handlingAt n c.to_ + a := by
  obtain ⟨c, hc, e1, a, ha, e2⟩ := rdy_first ok hp hu ne hb
  have hf : isReadyCar n u p c = true := by
    rw [readyLong_eq hb, e1, ha]
    simp [e2]
  obtain ⟨i, x, h1, h2, h3⟩ := idx_of hc hf
  refine ⟨i, x, h1, h2, ?_⟩
  rw [readyLong_eq hb, Bool.and_eq_true, beq_iff_eq] at h3
  refine ⟨h3.1, ?_⟩
  cases e : rdy n x.to_ u with
  | none =>
    have z := h3.2
    rw [e] at z
    cases z
  | some a =>
    have z := h3.2
    rw [e] at z
    have z2 : (x.long + handlingAt n x.to_ + a == b) = true := z
    rw [beq_iff_eq] at z2
    exact ⟨a, rfl, by omega⟩
omit ok in
/-- the fold over the departures finds the first -/
theorem firstFold {C : Nat → Prop} (f : Option Nat → Nat → Option Nat) (hf : ∀ b i, i < n.goes.length → (C i → f b i = (match b with
    | none => some i
    | some j => if depOf n i < depOf n j then some i else some j)) ∧ (¬ C i → f b i = b)) :
    (∃ i, (List.range n.goes.length).foldl f none = some i ∧ FirstIs n (fun j => C j ∧ j < n.goes.length) i) ∨ ((List.range n.goes.length).foldl f none = none ∧ ∀ i, i < n.goes.length → ¬ C i) := by
  have z := fold_range f (fun k b => (∃ i, b = some i ∧ FirstIs n (fun j => C j ∧ j < k) i) ∨ (b = none ∧ ∀ i, i < k → ¬ C i)) n.goes.length none (Or.inr ⟨rfl, fun i hi => absurd hi (by omega)⟩) fun i b hi h => by
    obtain ⟨h1, h2⟩ := hf b i hi
    by_cases c : C i
    · rw [h1 c]
      rcases h with ⟨j, rfl, hj, hm⟩ | ⟨rfl, hm⟩
      · show (∃ x, (if depOf n i < depOf n j then some i else some j) = some x ∧ _) ∨ _
        split
        · rename_i lt
          refine Or.inl ⟨i, rfl, ⟨c, by omega⟩, fun x hx => ?_⟩
          by_cases e : x = i
          · subst e
            exact Or.inr ⟨rfl, Nat.le_refl _⟩
          · have := hm x ⟨hx.1, by omega⟩
            omega
        · rename_i lt
          refine Or.inl ⟨j, rfl, ⟨hj.1, by omega⟩, fun x hx => ?_⟩
          by_cases e : x = i
          · subst e
            omega
          · exact hm x ⟨hx.1, by omega⟩
      · refine Or.inl ⟨i, rfl, ⟨c, by omega⟩, fun x hx => ?_⟩
        by_cases e : x = i
        · subst e
          exact Or.inr ⟨rfl, Nat.le_refl _⟩
        · exact absurd hx.1 (hm x (by omega))
    · rw [h2 c]
      rcases h with ⟨j, rfl, hj, hm⟩ | ⟨rfl, hm⟩
      · refine Or.inl ⟨j, rfl, ⟨hj.1, by omega⟩, fun x hx => ?_⟩
        by_cases e : x = i
        · subst e
          exact absurd hx.1 c
        · exact hm x ⟨hx.1, by omega⟩
      · refine Or.inr ⟨rfl, fun x hx => ?_⟩
        by_cases e : x = i
        · subst e
          exact c
        · exact hm x (by omega)
  exact z
omit ok in
theorem cand_lt {d k p t a i : Nat} (h : Cand n d k p t a i) : i < n.goes.length := by
  obtain ⟨g, h1, _⟩ := h
  exact (List.getElem?_eq_some_iff.mp h1).1
omit ok in
/-- the program's choice -/
theorem firstO_is {d k p t a : Nat} : (∃ i, firstO n (rowK n d k) p t (a : Int) = some i ∧ FirstIs n (Cand n d k p t a) i) ∨ (firstO n (rowK n d k) p t (a : Int) = none ∧ ∀ i, ¬ Cand n d k p t a i) := by
  have hc : ∀ i, ((n.goes[i]?).any fun g => decide (((rowK n d k).getD i (-1)) = (a : Int)) && inTime n p t g) = true ↔ Cand n d k p t a i := fun i => by
    unfold Cand
    cases e : n.goes[i]? with
    | none => simp
    | some g =>
      have hi := (List.getElem?_eq_some_iff.mp e).1
      have e2 : (rowK n d k).getD i (-1) = orNone (lookT (tableFor n (roadsOf n) d k) i) := by
        unfold rowK
        rw [List.getD_eq_getElem?_getD, rowOf_get hi]
        rfl
      simp only [Option.any_some, e2, Bool.and_eq_true, decide_eq_true_eq, orNone_some, Option.some.injEq]
      exact ⟨fun h => ⟨g, rfl, h.1, h.2⟩, fun ⟨g', e, h⟩ => by cases e; exact h⟩
  rcases firstFold (n := n) (C := Cand n d k p t a) (firstStep n (rowK n d k) p t (a : Int)) (fun b i hi => ⟨fun c => if_pos ((hc i).mpr c), fun c => if_neg fun z => c ((hc i).mp z)⟩) with ⟨i, h1, h2, h3⟩ | ⟨h1, h2⟩
  · exact Or.inl ⟨i, h1, h2.1, fun j hj => h3 j ⟨hj, cand_lt hj⟩⟩
  · exact Or.inr ⟨h1, fun i hi => h2 i (cand_lt hi) hi⟩
/-- the specification's choice -/
theorem firstS_is {d k p t a : Nat} (hp : p < n.places.length) :
    (∃ i, firstGoing n ((List.range n.goes.length).filter fun i => (n.goes[i]?).any fun g => (((tableFor n (roadsOf n) d k).find? fun v => v.1 == i).bind fun v => v.2) == some a && (readyFrom (roadsOf n) p g.from_).any fun m => decide (t + m ≤ g.dep)) = some i ∧ FirstIs n (Cand n d k p t a) i) ∨
      (firstGoing n ((List.range n.goes.length).filter fun i => (n.goes[i]?).any fun g => (((tableFor n (roadsOf n) d k).find? fun v => v.1 == i).bind fun v => v.2) == some a && (readyFrom (roadsOf n) p g.from_).any fun m => decide (t + m ≤ g.dep)) = none ∧ ∀ i, ¬ Cand n d k p t a i) := by
  have hc : ∀ i, ((n.goes[i]?).any fun g => (((tableFor n (roadsOf n) d k).find? fun v => v.1 == i).bind fun v => v.2) == some a && (readyFrom (roadsOf n) p g.from_).any fun m => decide (t + m ≤ g.dep)) = true ↔ Cand n d k p t a i := fun i => by
    unfold Cand
    cases e : n.goes[i]? with
    | none => simp
    | some g =>
      rw [Option.any_some, Bool.and_eq_true, beq_iff_eq, roads_rdy ok hp (go_ok ok e).fr]
      exact ⟨fun h => ⟨g, rfl, h.1, h.2⟩, fun ⟨g', e', h⟩ => by cases e'; exact h⟩
  unfold firstGoing
  rw [List.foldl_filter]
  rcases firstFold (n := n) (C := Cand n d k p t a) (fun (b : Option Nat) i => if ((n.goes[i]?).any fun g => (((tableFor n (roadsOf n) d k).find? fun v => v.1 == i).bind fun v => v.2) == some a && (readyFrom (roadsOf n) p g.from_).any fun m => decide (t + m ≤ g.dep)) = true then (match b with
      | none => some i
      | some j => if ((n.goes[i]?).map fun g => g.dep).getD 0 < ((n.goes[j]?).map fun g => g.dep).getD 0 then some i else b) else b) (fun b i hi => ⟨fun c => by
        rw [if_pos ((hc i).mpr c)]
        cases b <;> rfl, fun c => if_neg fun z => c ((hc i).mp z)⟩) with ⟨i, h1, h2, h3⟩ | ⟨h1, h2⟩
  · exact Or.inl ⟨i, h1, h2.1, fun j hj => h3 j ⟨hj, cand_lt hj⟩⟩
  · exact Or.inr ⟨h1, fun i hi => h2 i (cand_lt hi) hi⟩
/-- what to do, with all that the program reckons on its way -/
inductive Todo (n : Net) (d k p t : Nat) : Prop
  | there (e : p = d) (h : toDo n (roadsOf n) d k p t = some .there)
  | none (ne : p ≠ d) (s : sureK n d k p t = none) (h : toDo n (roadsOf n) d k p t = none)
  | goal (ne : p ≠ d) {a m i : Nat} {c : Car} (s : sureK n d k p t = some a) (hm : fwD n p d = some m) (e : t + m = a) (hi : n.cars.findIdx? (isGoalCar n d p) = some i) (hc : n.cars[i]? = some c) (hf : c.from_ = p)
      (nx : (c.to_ = d ∧ m = c.long) ∨ (c.to_ ≠ d ∧ ∃ b, fwD n c.to_ d = some b ∧ m = c.long + handlingAt n c.to_ + b)) (h : toDo n (roadsOf n) d k p t = some (.drive i))
  | wait (ne : p ≠ d) {a i : Nat} {g : Go} (s : sureK n d k p t = some a) (no : ∀ m, fwD n p d = some m → t + m ≠ a) (hi : firstO n (rowK n d k) p t a = some i) (f : FirstIs n (Cand n d k p t a) i) (hg : n.goes[i]? = some g) (hf : g.from_ = p)
      (h : toDo n (roadsOf n) d k p t = some (.wait i))
  | ready (ne : p ≠ d) {a i b j : Nat} {g : Go} {c : Car} (s : sureK n d k p t = some a) (no : ∀ m, fwD n p d = some m → t + m ≠ a) (hi : firstO n (rowK n d k) p t a = some i) (f : FirstIs n (Cand n d k p t a) i) (hg : n.goes[i]? = some g) (hf : g.from_ ≠ p)
      (hb : rdy n p g.from_ = some b) (hj : n.cars.findIdx? (isReadyCar n g.from_ p) = some j) (hc : n.cars[j]? = some c) (hfr : c.from_ = p) (nx : ∃ x, rdy n c.to_ g.from_ = some x ∧ b = c.long + handlingAt n c.to_ + x)
      (h : toDo n (roadsOf n) d k p t = some (.drive j))
theorem todo {d k p t : Nat} (hp : p < n.places.length) (hd : d < n.places.length) : Todo n d k p t := by
  by_cases e : p = d
  · exact .there e (by unfold toDo; rw [if_pos e])
  · have hs := sureIn_K (k := k) (t := t) ok hp hd
    cases s : sureK n d k p t with
    | none => exact .none e s (by unfold toDo; rw [if_neg e, hs, s])
    | some a =>
      by_cases hm : ∃ m, fwD n p d = some m ∧ t + m = a
      · obtain ⟨m, hm, ea⟩ := hm
        obtain ⟨i, c, h1, h2, h3, h4⟩ := goalCar ok hp hd e hm
        refine .goal e s hm ea h1 h2 h3 h4 ?_
        unfold toDo
        rw [if_neg e, hs, s, drive_fw ok hp hd, hm, carTo_eq ok hp hd hm, h1]
        simp [ea]
      · have no : ∀ m, fwD n p d = some m → t + m ≠ a := fun m h1 h2 => hm ⟨m, h1, h2⟩
        have hS := (sureO_min e).of_some s
        obtain ⟨i0, g0, q1, q2, q3⟩ := hS.1.elim (fun ⟨m, h1, h2⟩ => absurd h2.symm (no m h1)) id
        have hC : Cand n d k p t a i0 := ⟨g0, q1, q3, q2⟩
        have nd : ((fwD n p d).any fun m => t + m == a) = false := by
          cases e1 : fwD n p d with
          | none => rfl
          | some m =>
            have := no m e1
            simp [this]
        rcases firstO_is (n := n) (d := d) (k := k) (p := p) (t := t) (a := a) with ⟨i, h1, h2⟩ | ⟨_, h2⟩
        · rcases firstS_is (d := d) (k := k) (t := t) (a := a) ok hp with ⟨i', h3, h4⟩ | ⟨_, h4⟩
          · have ei := h2.unique h4
            subst ei
            obtain ⟨g, hg, hl, hin⟩ := h2.1
            have ht : toDo n (roadsOf n) d k p t = (if g.from_ = p then some (.wait i) else (carTowards n (roadsOf n) p g.from_).map .drive) := by
              unfold toDo
              rw [if_neg e, hs, s]
              simp only
              rw [drive_fw ok hp hd, nd, if_neg Bool.false_ne_true, h3]
              simp only [hg]
            by_cases hf : g.from_ = p
            · exact .wait e s no h1 h2 hg hf (by rw [ht, if_pos hf])
            · cases hb : rdy n p g.from_ with
              | none =>
                unfold inTime at hin
                rw [hb] at hin
                cases hin
              | some b =>
                obtain ⟨j, c, h5, h6, h7, h8⟩ := readyCar ok hp (go_ok ok hg).fr (fun z => hf z.symm) hb
                exact .ready e s no h1 h2 hg hf hb h5 h6 h7 h8 (by rw [ht, if_neg hf, carTowards_eq ok hp (go_ok ok hg).fr hb, h5]; rfl)
          · exact absurd hC (h4 i0)
        · exact absurd hC (h2 i0)
end
end SJ
/-! The order in which worths are reckoned; the table while they are. -/
namespace SJ
open Vbtoad PySem.W
def lateLe (n : Net) (a b : Nat) : Bool := decide ((0 - (depOf n a : Int)) ≤ 0 - (depOf n b : Int))
theorem lateLe_iff {n : Net} {a b : Nat} : lateLe n a b = true ↔ depOf n b ≤ depOf n a := by
  unfold lateLe
  rw [decide_eq_true_iff]
  omega
theorem lateLe_total (n : Net) : TotalLe (lateLe n) := ⟨fun a b c h1 h2 => by
  rw [lateLe_iff] at *
  omega, fun a b => by
  rw [lateLe_iff, lateLe_iff]
  omega⟩
theorem putLater_cons (n : Net) (i j : Nat) (l : List Nat) : putLater n i (j :: l) = if depOf n j < depOf n i then i :: j :: l else j :: putLater n i l := rfl
theorem putLater_sorted (n : Net) (i : Nat) : ∀ l : List Nat, l.Pairwise (fun a b => lateLe n a b = true) → (putLater n i l).Pairwise (fun a b => lateLe n a b = true)
  | [], _ => List.pairwise_singleton ..
  | j :: l, h => by
    rw [putLater_cons]
    obtain ⟨h1, h2⟩ := List.pairwise_cons.mp h
    split
    · rename_i hlt
      refine List.pairwise_cons.mpr ⟨fun x hx => ?_, h⟩
      rw [lateLe_iff]
      rcases List.mem_cons.mp hx with rfl | hx
      · omega
      · have := lateLe_iff.mp (h1 x hx)
        omega
    · rename_i hge
      refine List.pairwise_cons.mpr ⟨fun x hx => ?_, putLater_sorted n i l h2⟩
      rcases (putLater_mem n i x l).mp hx with rfl | hx
      · rw [lateLe_iff]
        omega
      · exact h1 x hx
theorem putLater_filter (n : Net) (i c : Nat) : ∀ l : List Nat, l.Pairwise (fun a b => lateLe n a b = true) → (putLater n i l).filter (sameRank (lateLe n) c) = l.filter (sameRank (lateLe n) c) ++ [i].filter (sameRank (lateLe n) c)
  | [], _ => rfl
  | j :: l, h => by
    rw [putLater_cons]
    obtain ⟨h1, h2⟩ := List.pairwise_cons.mp h
    split
    · rename_i hlt
      cases q : sameRank (lateLe n) c i with
      | false => simp [List.filter_cons, q]
      | true =>
        have none_ : (j :: l).filter (sameRank (lateLe n) c) = [] := by
          rw [List.filter_eq_nil_iff]
          intro x hx z
          unfold sameRank at q z
          rw [Bool.and_eq_true, lateLe_iff, lateLe_iff] at q z
          rcases List.mem_cons.mp hx with rfl | hx
          · omega
          · have := lateLe_iff.mp (h1 x hx)
            omega
        rw [List.filter_cons, if_pos q, none_]
        simp [q]
    · rw [List.filter_cons, List.filter_cons, putLater_filter n i c l h2]
      split <;> rfl
theorem lastFirst_sort (n : Net) : (List.range n.goes.length).mergeSort (fun a b => decide ((0 - (depOf n a : Int)) ≤ 0 - (depOf n b : Int))) = lastFirst n := by
  have z := fold_range (fun l i => putLater n i l) (fun k l => l.Pairwise (fun a b => lateLe n a b = true) ∧ ∀ c, l.filter (sameRank (lateLe n) c) = (List.range k).filter (sameRank (lateLe n) c)) n.goes.length [] ⟨List.Pairwise.nil, fun c => rfl⟩ fun k l _ ⟨h1, h2⟩ =>
    ⟨putLater_sorted n k l h1, fun c => by rw [putLater_filter n k c l h1, h2, List.range_succ, List.filter_append]⟩
  exact (sort_unique (lateLe_total n) z.1 z.2).symm
/-! ### the table of worths, while it is filled -/
def tabI (n : Net) (d k : Nat) (l : List Nat) : Tab := (List.range 4).map fun j => if j < k then rowK n d j else if j = k then rowOf n (lookT (tableUp n d (fewerOf n d k) l)) else List.replicate n.goes.length (-1)
theorem tabI_get {n : Net} {d k j : Nat} {l : List Nat} (h : j < 4) : (tabI n d k l).getD j [] = if j < k then rowK n d j else if j = k then rowOf n (lookT (tableUp n d (fewerOf n d k) l)) else List.replicate n.goes.length (-1) := by
  unfold tabI
  rw [List.getD_eq_getElem?_getD, List.getElem?_map, List.getElem?_range h]
  rfl
theorem tabI_len (n : Net) (d k : Nat) (l : List Nat) : (tabI n d k l).length = 4 := by
  unfold tabI
  rw [List.length_map, List.length_range]
theorem tabI_row {n : Net} {d k j : Nat} {l : List Nat} (h : j < 4) : ((tabI n d k l).getD j []).length = n.goes.length := by
  rw [tabI_get h]
  split
  · exact rowOf_len n _
  · split
    · exact rowOf_len n _
    · exact List.length_replicate ..
theorem tabI_start (n : Net) (d : Nat) : tabI n d 0 [] = (List.range 4).map fun _ => List.replicate n.goes.length (-1) := by
  unfold tabI
  refine List.map_congr_left fun j _ => ?_
  rw [if_neg (Nat.not_lt_zero j)]
  split
  · exact rowOf_nil
  · rfl
theorem tabI_next (n : Net) (d k : Nat) : tabI n d k (lastFirst n) = tabI n d (k + 1) [] := by
  unfold tabI
  refine List.map_congr_left fun j _ => ?_
  rcases Nat.lt_trichotomy j k with h | h | h
  · rw [if_pos h, if_pos (by omega)]
  · rw [if_neg (by omega), if_pos h, if_pos (by omega), h, ← tableFor_up]
    rfl
  · rw [if_neg (by omega), if_neg (by omega), if_neg (by omega)]
    split
    · exact rowOf_nil.symm
    · rfl
theorem tabI_end (n : Net) (d : Nat) : tabI n d 4 [] = (List.range 4).map (rowK n d) := by
  unfold tabI
  refine List.map_congr_left fun j hj => ?_
  rw [if_pos (by simpa using hj)]
theorem tabI_more {n : Net} {d k i : Nat} {l : List Nat} (hk : k < 4) (hi : i ∉ l) : tabI n d k (l ++ [i]) = (tabI n d k l).set k (((tabI n d k l).getD k []).set i (orNone (worth n (roadsOf n) d (fewerOf n d k) (tableUp n d (fewerOf n d k) l) i))) := by
  rw [tabI_get hk, if_neg (Nat.lt_irrefl k), if_pos rfl]
  apply List.ext_getElem?
  intro j
  rw [List.getElem?_set, tabI_len]
  by_cases hj : j < 4
  · unfold tabI
    rw [List.getElem?_map, List.getElem?_map, List.getElem?_range hj]
    by_cases e : k = j
    · subst e
      rw [if_pos rfl, if_pos hk]
      show some (if k < k then _ else if k = k then _ else _) = _
      rw [if_neg (Nat.lt_irrefl k), if_pos rfl, rowOf_up hi]
    · rw [if_neg e]
      show some (if j < k then _ else if j = k then _ else _) = some (if j < k then _ else if j = k then _ else _)
      rw [if_neg (show ¬ j = k from fun z => e z.symm), if_neg (show ¬ j = k from fun z => e z.symm)]
  · rw [List.getElem?_eq_none (by rw [tabI_len]; omega), if_neg (show ¬ k = j by omega), List.getElem?_eq_none (by rw [tabI_len]; omega)]
theorem tabI_worth {n : Net} (ok : NetOk n) {d k i : Nat} {l : List Nat} {g : Go} (hd : d < n.places.length) (hk : k < 4) (nd : l.Nodup) (hg : n.goes[i]? = some g) :
    worthI n d k ((tabI n d k l).getD k []) ((tabI n d k l).getD (k - 1) []) g = orNone (worth n (roadsOf n) d (fewerOf n d k) (tableUp n d (fewerOf n d k) l) i) := by
  rw [← worth_row ok hd nd hg, tabI_get hk, if_neg (Nat.lt_irrefl k), if_pos rfl]
  unfold worthI
  by_cases e : k = 0
  · rw [if_pos e, if_pos e]
  · rw [if_neg e, if_neg e, tabI_get (by omega), if_pos (by omega)]
    rfl
end SJ
/-! Journeys come to an end; what's played, the worst cases. -/
namespace SJ
open Vbtoad
/-- minutes from coming to a place to going on: none at the goal -/
def stay (n : Net) (d q : Nat) : Nat := if q = d then 0 else handlingAt n q
inductive Halts (n : Net) (d : Nat) : Nat → Nat → Nat → Nat → Prop
  | stop {k p t m : Nat} (h : toDo n (roadsOf n) d k p t = none ∨ p = d) : Halts n d k p t m
  | drive {k p t m i : Nat} {c : Car} (ne : p ≠ d) (h : toDo n (roadsOf n) d k p t = some (.drive i)) (hc : n.cars[i]? = some c) (e : Halts n d k c.to_ (t + c.long + stay n d c.to_) m) : Halts n d k p t (m + 1)
  | wait {k p t m i a : Nat} {g : Go} (ne : p ≠ d) (h : toDo n (roadsOf n) d k p t = some (.wait i)) (hg : n.goes[i]? = some g) (hf : g.from_ = p) (s : lookT (tableFor n (roadsOf n) d k) i = some a)
      (e1 : Halts n d (k - 1) p (g.dep + 1) m) (e2 : Halts n d k g.to_ (g.arr + stay n d g.to_) m) : Halts n d k p t (m + 1)
theorem Halts.mono {n : Net} {d k p t m : Nat} (h : Halts n d k p t m) : ∀ {m' : Nat}, m ≤ m' → Halts n d k p t m' := by
  induction h with
  | stop h => exact fun _ => .stop h
  | drive ne h hc _ ih =>
    intro m' hm
    obtain ⟨x, rfl⟩ : ∃ x, m' = x + 1 := ⟨m' - 1, by omega⟩
    exact .drive ne h hc (ih (by omega))
  | wait ne h hg hf s _ _ ih1 ih2 =>
    intro m' hm
    obtain ⟨x, rfl⟩ : ∃ x, m' = x + 1 := ⟨m' - 1, by omega⟩
    exact .wait ne h hg hf s (ih1 (by omega)) (ih2 (by omega))
/-- departures that still go -/
def late (n : Net) (t : Nat) : Nat := (n.goes.filter fun g => decide (t ≤ g.dep)).length
theorem filter_le {α : Type} {l : List α} {f g : α → Bool} (h : ∀ x, f x = true → g x = true) : (l.filter f).length ≤ (l.filter g).length := by
  induction l with
  | nil => exact Nat.le_refl _
  | cons x l ih =>
    rw [List.filter_cons, List.filter_cons]
    cases e : f x with
    | true =>
      rw [h x e, if_pos rfl, if_pos rfl]
      exact Nat.succ_le_succ ih
    | false =>
      rw [if_neg (by decide)]
      split
      · exact Nat.le_succ_of_le ih
      · exact ih
theorem late_le {n : Net} {t t' : Nat} (h : t ≤ t') : late n t' ≤ late n t := filter_le fun x hx => by
  have := of_decide_eq_true hx
  exact decide_eq_true (by omega)
theorem late_lt {n : Net} {t t' i : Nat} {g : Go} (hg : n.goes[i]? = some g) (h : t ≤ g.dep) (h' : g.dep < t') : late n t' < late n t :=
  filter_lt (fun x hx => by
    have := of_decide_eq_true hx
    exact decide_eq_true (by omega)) (List.mem_of_getElem? hg) (decide_eq_false (by omega)) (decide_eq_true h)
section
variable {n : Net} (ok : NetOk n)
include ok
theorem inTime_dep {p t : Nat} {g : Go} (h : inTime n p t g = true) : t ≤ g.dep := by
  unfold inTime at h
  cases e : rdy n p g.from_ with
  | none => rw [e] at h; cases h
  | some m =>
    rw [e] at h
    have := of_decide_eq_true (show decide (t + m ≤ g.dep) = true from h)
    omega
/-- what's in time behind a car was in time ahead of it -/
theorem inTime_back {p t : Nat} {c : Car} {g : Go} (hc : c ∈ n.cars) (hf : c.from_ = p) (hu : g.from_ < n.places.length) (h : inTime n c.to_ (t + c.long + handlingAt n c.to_) g = true) : inTime n p t g = true := by
  unfold inTime at *
  cases e : rdy n c.to_ g.from_ with
  | none => rw [e] at h; cases h
  | some m =>
    rw [e] at h
    have h1 := of_decide_eq_true (show decide (t + c.long + handlingAt n c.to_ + m ≤ g.dep) = true from h)
    obtain ⟨b, hb, le⟩ := rdy_le ok hc hu e
    rw [← hf, hb]
    exact decide_eq_true (by omega)
theorem sureS_back {v : Nat → Option Nat} {d p t x : Nat} {c : Car} (hd : d < n.places.length) (hc : c ∈ n.cars) (hf : c.from_ = p) (ne : p ≠ d) (ne2 : c.to_ ≠ d) (h : SureS n d v c.to_ (t + c.long + handlingAt n c.to_) x) : ∃ y, SureS n d v p t y ∧ y ≤ x := by
  rcases h with ⟨m, h1, h2⟩ | ⟨i, g, h1, h2, h3⟩
  · obtain ⟨b, hb, le⟩ := drive_le ok hc hd (by rw [hf]; exact ne) h1 ne2
    exact ⟨t + b, .inl ⟨b, by rw [← hf]; exact hb, rfl⟩, by omega⟩
  · exact ⟨x, .inr ⟨i, g, h1, inTime_back ok hc hf (go_ok ok h1).fr h2, h3⟩, Nat.le_refl _⟩
theorem sure_along {d k p t a : Nat} {c : Car} (hd : d < n.places.length) (hc : c ∈ n.cars) (hf : c.from_ = p) (ne : p ≠ d) (ne2 : c.to_ ≠ d) (s : sureK n d k p t = some a)
    (h : SureS n d (lookT (tableFor n (roadsOf n) d k)) c.to_ (t + c.long + handlingAt n c.to_) a) : sureK n d k c.to_ (t + c.long + handlingAt n c.to_) = some a := by
  refine IsMin.unique (sureO_min ne2) (show IsMin (some a) _ from ⟨h, fun x hx => ?_⟩)
  obtain ⟨y, hy, le⟩ := sureS_back ok hd hc hf ne ne2 hx
  have := ((sureO_min ne).of_some s).2 y hy
  omega
theorem ends_goal {d k N : Nat} (hd : d < n.places.length) : ∀ (r p t a m : Nat), p < n.places.length → sureK n d k p t = some a → fwD n p d = some m → t + m = a → nearer n d p ≤ r → Halts n d k p t (N + r + 1) := by
  intro r
  induction r with
  | zero =>
    intro p t a m hp s hm e hr
    by_cases ep : p = d
    · exact .stop (.inr ep)
    · cases todo (k := k) (t := t) ok hp hd with
      | there e' _ => exact absurd e' ep
      | none _ s' _ => rw [s] at s'; cases s'
      | goal ne s' hm' e' hi hc hf nx h =>
        rcases nx with ⟨e1, _⟩ | ⟨e1, b, hb, em⟩
        · exact .drive ep h hc (.stop (.inr e1))
        · have oc := ok.c _ (List.mem_of_getElem? hc)
          rw [hm] at hm'
          cases hm'
          have l := nearer_lt (u := d) (p := p) oc.to (a := b + handlingAt n d) (b := m + handlingAt n d) (by unfold rdy; rw [if_neg e1, hb]; rfl) (by unfold rdy; rw [if_neg ep, hm]; rfl) (by have := oc.pos; omega)
          omega
      | wait _ s' no _ _ _ _ _ => rw [s] at s'; cases s'; exact absurd e (no m hm)
      | ready _ s' no _ _ _ _ _ _ _ _ _ _ => rw [s] at s'; cases s'; exact absurd e (no m hm)
  | succ r ih =>
    intro p t a m hp s hm e hr
    by_cases ep : p = d
    · exact .stop (.inr ep)
    · cases todo (k := k) (t := t) ok hp hd with
      | there e' _ => exact absurd e' ep
      | none _ s' _ => rw [s] at s'; cases s'
      | goal ne s' hm' e' hi hc hf nx h =>
        rcases nx with ⟨e1, _⟩ | ⟨e1, b, hb, em⟩
        · exact .drive ep h hc (.stop (.inr e1))
        · have oc := ok.c _ (List.mem_of_getElem? hc)
          rw [hm] at hm'
          cases hm'
          have l := nearer_lt (u := d) (p := p) oc.to (a := b + handlingAt n d) (b := m + handlingAt n d) (by unfold rdy; rw [if_neg e1, hb]; rfl) (by unfold rdy; rw [if_neg ep, hm]; rfl) (by have := oc.pos; omega)
          refine .drive ep h hc ?_
          unfold stay
          rw [if_neg e1]
          have s2 := sure_along ok hd (List.mem_of_getElem? hc) hf ep e1 s (.inl ⟨b, hb, by omega⟩)
          exact ih _ _ a b oc.to s2 hb (by omega) (by omega)
      | wait _ s' no _ _ _ _ _ => rw [s] at s'; cases s'; exact absurd e (no m hm)
      | ready _ s' no _ _ _ _ _ _ _ _ _ _ => rw [s] at s'; cases s'; exact absurd e (no m hm)
/-- on the way to the departure that was chosen -/
theorem ends_ready {k N i : Nat} {d : Nat} {g : Go} (hd : d < n.places.length) (hg : n.goes[i]? = some g) (IH : ∀ k p t, p < n.places.length → g.dep < t → Halts n d k p t N) : ∀ (r p t a b : Nat), p < n.places.length → p ≠ d → sureK n d k p t = some a → (∀ m, fwD n p d = some m → t + m ≠ a) →
    FirstIs n (Cand n d k p t a) i → rdy n p g.from_ = some b → nearer n g.from_ p ≤ r → Halts n d k p t (N + r + 1) := by
  have og := go_ok ok hg
  intro r
  induction r with
  | zero =>
    intro p t a b hp ep s no hi hb hr
    have first : ∀ {j : Nat}, FirstIs n (Cand n d k p t a) j → j = i := fun h => h.unique hi
    cases todo (k := k) (t := t) ok hp hd with
    | there e' _ => exact absurd e' ep
    | none _ s' _ => rw [s] at s'; cases s'
    | goal _ s' hm e' _ _ _ _ _ => rw [s] at s'; cases s'; exact absurd e' (no _ hm)
    | wait _ s' _ hi' f hg' hf h =>
      rw [s] at s'
      cases s'
      cases first f
      rw [hg] at hg'
      cases hg'
      obtain ⟨⟨g2, c1, c2, c3⟩, _⟩ := hi
      exact .wait ep h hg hf c2 ((IH (k - 1) p (g.dep + 1) hp (by omega)).mono (by omega)) ((IH k g.to_ (g.arr + stay n d g.to_) og.to (by have := og.up; omega)).mono (by omega))
    | ready ne' s' no' hi' f hg' hf hb' hj hc hfr nx h =>
      rw [s] at s'
      cases s'
      cases first f
      rw [hg] at hg'
      cases hg'
      obtain ⟨x, hx, ex⟩ := nx
      have oc := ok.c _ (List.mem_of_getElem? hc)
      have l := nearer_lt (u := g.from_) (p := p) oc.to hx hb' (by have := oc.pos; omega)
      omega
  | succ r ih =>
    intro p t a b hp ep s no hi hb hr
    have first : ∀ {j : Nat}, FirstIs n (Cand n d k p t a) j → j = i := fun h => h.unique hi
    cases todo (k := k) (t := t) ok hp hd with
    | there e' _ => exact absurd e' ep
    | none _ s' _ => rw [s] at s'; cases s'
    | goal _ s' hm e' _ _ _ _ _ => rw [s] at s'; cases s'; exact absurd e' (no _ hm)
    | wait _ s' _ hi' f hg' hf h =>
      rw [s] at s'
      cases s'
      cases first f
      rw [hg] at hg'
      cases hg'
      obtain ⟨⟨g2, c1, c2, c3⟩, _⟩ := hi
      exact .wait ep h hg hf c2 ((IH (k - 1) p (g.dep + 1) hp (by omega)).mono (by omega)) ((IH k g.to_ (g.arr + stay n d g.to_) og.to (by have := og.up; omega)).mono (by omega))
    | ready ne' s' no' hi' f hg' hf hb' hj hc hfr nx h =>
      rw [s] at s'
      cases s'
      cases first f
      rw [hg] at hg'
      cases hg'
      rw [hb] at hb'
      cases hb'
      obtain ⟨x, hx, ex⟩ := nx
      rename_i c
      have mc := List.mem_of_getElem? hc
      have oc := ok.c _ mc
      have l := nearer_lt (u := g.from_) (p := p) oc.to hx hb (by have := oc.pos; omega)
      refine .drive ep h hc ?_
      by_cases e1 : c.to_ = d
      · exact .stop (.inr e1)
      · unfold stay
        rw [if_neg e1]
        obtain ⟨⟨g2, c1, c2, c3⟩, least⟩ := hi
        rw [hg] at c1
        cases c1
        have tm : inTime n c.to_ (t + c.long + handlingAt n c.to_) g = true := by
          unfold inTime at c3 ⊢
          rw [hb] at c3
          rw [hx]
          have := of_decide_eq_true (show decide (t + b ≤ g.dep) = true from c3)
          exact decide_eq_true (by omega)
        have s2 := sure_along ok hd mc hfr ep e1 s (.inr ⟨i, g, hg, tm, c2⟩)
        refine ih _ _ a x oc.to e1 s2 (fun m hm z => ?_) ⟨⟨g, hg, c2, tm⟩, fun j ⟨gj, j1, j2, j3⟩ => least j ⟨gj, j1, j2, inTime_back ok mc hfr (go_ok ok j1).fr j3⟩⟩ hx (by omega)
        obtain ⟨y, hy, le⟩ := drive_le ok mc hd (by rw [hfr]; exact ep) hm e1
        rw [hfr] at hy
        have := ((sureO_min ep).of_some s).2 (t + y) (.inl ⟨y, hy, rfl⟩)
        exact no y hy (by omega)
theorem ends_of {d : Nat} (hd : d < n.places.length) : ∀ (N k p t : Nat), p < n.places.length → late n t < N → Halts n d k p t (8 * N) := by
  have pl := ok.pl
  intro N
  induction N with
  | zero => intro k p t _ h; exact absurd h (Nat.not_lt_zero _)
  | succ N ih =>
    intro k p t hp hl
    have td := todo (k := k) (t := t) ok hp hd
    cases td with
    | there e _ => exact .stop (.inr e)
    | none _ _ h => exact .stop (.inl h)
    | goal ne s hm e hi hc hf nx h =>
      have q := nearer_self (u := d) hp (show rdy n p d = some _ by unfold rdy; rw [if_neg ne, hm]; rfl)
      exact (ends_goal (N := 8 * N) ok hd _ p t _ _ hp s hm e (Nat.le_refl _)).mono (by omega)
    | wait ne s no hi f hg hf h =>
      rename_i a i g
      have tm := f.1
      obtain ⟨g2, c1, c2, c3⟩ := tm
      rw [hg] at c1
      cases c1
      have td := inTime_dep ok c3
      have hb : rdy n p g.from_ = some 0 := by unfold rdy; rw [if_pos hf.symm]
      have q := nearer_self hp hb
      exact (ends_ready (N := 8 * N) ok hd hg (fun k' p' t' hp' ht => ih k' p' t' hp' (by have := late_lt hg td ht; omega)) _ p t a 0 hp ne s no f hb (Nat.le_refl _)).mono (by omega)
    | ready ne s no hi f hg hf hb hj hc hfr nx h =>
      rename_i a i b j g c
      have tm := f.1
      obtain ⟨g2, c1, c2, c3⟩ := tm
      rw [hg] at c1
      cases c1
      have td := inTime_dep ok c3
      have q := nearer_self hp hb
      exact (ends_ready (N := 8 * N) ok hd hg (fun k' p' t' hp' ht => ih k' p' t' hp' (by have := late_lt hg td ht; omega)) _ p t a b hp ne s no f hb (Nat.le_refl _)).mono (by omega)
theorem ends {d k p t : Nat} (hd : d < n.places.length) (hp : p < n.places.length) : Halts n d k p t 248 := by
  have h : late n t ≤ 30 := Nat.le_trans (List.length_filter_le ..) ok.gl
  exact ends_of ok hd 31 k p t hp (by omega)
end
end SJ
/-! What's played, worst cases: step by step. -/
namespace SJ
open Vbtoad
section
variable {n : Net} {d k p t f i : Nat} {out : List Nat}
theorem toDo_there : toDo n (roadsOf n) d k d t = some .there := by
  unfold toDo
  rw [if_pos rfl]
theorem play_stop (h : p = d) : play n (roadsOf n) d out (f + 1) k p t = ([], some t) := by
  subst h
  unfold play
  rw [toDo_there]
theorem play_none (h : toDo n (roadsOf n) d k p t = none) : play n (roadsOf n) d out (f + 1) k p t = ([], none) := by
  unfold play
  rw [h]
theorem play_drive {c : Car} (h : toDo n (roadsOf n) d k p t = some (.drive i)) (hc : n.cars[i]? = some c) (hf : 1 ≤ f) :
    play n (roadsOf n) d out (f + 1) k p t = (⟨1, i, t⟩ :: (play n (roadsOf n) d out f k c.to_ (t + c.long + stay n d c.to_)).1, (play n (roadsOf n) d out f k c.to_ (t + c.long + stay n d c.to_)).2) := by
  obtain ⟨f, rfl⟩ : ∃ x, f = x + 1 := ⟨f - 1, by omega⟩
  rw [play, h]
  simp only [hc]
  by_cases e : c.to_ = d
  · rw [if_pos e]
    rw [play_stop e]
    unfold stay
    rw [if_pos e]
    rfl
  · rw [if_neg e]
    unfold stay
    rw [if_neg e]
theorem play_wait {g : Go} (h : toDo n (roadsOf n) d k p t = some (.wait i)) (hg : n.goes[i]? = some g) (hf : 1 ≤ f) :
    play n (roadsOf n) d out (f + 1) k p t = if out.contains i = true then (⟨3, i, g.dep⟩ :: (play n (roadsOf n) d out f (k - 1) p (g.dep + 1)).1, (play n (roadsOf n) d out f (k - 1) p (g.dep + 1)).2)
      else (⟨2, i, g.dep⟩ :: (play n (roadsOf n) d out f k g.to_ (g.arr + stay n d g.to_)).1, (play n (roadsOf n) d out f k g.to_ (g.arr + stay n d g.to_)).2) := by
  obtain ⟨f, rfl⟩ : ∃ x, f = x + 1 := ⟨f - 1, by omega⟩
  rw [play, h]
  simp only [hg]
  by_cases q : out.contains i = true
  · rw [if_pos q, if_pos q]
  · rw [if_neg q, if_neg q]
    by_cases e : g.to_ = d
    · rw [if_pos e, play_stop e]
      unfold stay
      rw [if_pos e]
      rfl
    · rw [if_neg e]
      unfold stay
      rw [if_neg e]
theorem worst_stop (h : p = d) : worst n (roadsOf n) d f k p t = [] := by
  cases f with
  | zero => rfl
  | succ f =>
    subst h
    unfold worst
    rw [toDo_there]
theorem worst_none (h : toDo n (roadsOf n) d k p t = none) : worst n (roadsOf n) d f k p t = [] := by
  cases f with
  | zero => rfl
  | succ f =>
    unfold worst
    rw [h]
theorem worst_drive {c : Car} (h : toDo n (roadsOf n) d k p t = some (.drive i)) (hc : n.cars[i]? = some c) : worst n (roadsOf n) d (f + 1) k p t = worst n (roadsOf n) d f k c.to_ (t + c.long + stay n d c.to_) := by
  rw [worst, h]
  simp only [hc]
  by_cases e : c.to_ = d
  · rw [if_pos e, worst_stop e]
  · rw [if_neg e]
    unfold stay
    rw [if_neg e]
/-- a worst case has it cancelled -/
def bad (n : Net) (d k : Nat) (g : Go) : Bool := decide (0 < k) && decide (goneI n d (rowK n d k) g < sureI n d (rowK n d (k - 1)) g.from_ (g.dep + 1))
end
theorem goneO_more {n : Net} {d : Nat} {v v' : Nat → Option Nat} {g : Go} (h : ∀ i a, v i = some a → v' i = some a) (s : (goneO n d v g).isSome = true) : (goneO n d v' g).isSome = true := by
  unfold goneO at *
  by_cases e : g.to_ = d
  · rw [if_pos e]
    rfl
  · rw [if_neg e] at s ⊢
    obtain ⟨a, ha⟩ := Option.isSome_iff_exists.mp s
    have hs := ((sureO_min e).of_some ha).1
    have hs' : SureS n d v' g.to_ (g.arr + handlingAt n g.to_) a := hs.elim .inl fun ⟨i, x, h1, h2, h3⟩ => .inr ⟨i, x, h1, h2, h _ _ h3⟩
    obtain ⟨b, hb, _⟩ := (sureO_min e).some_of hs'
    rw [hb]
    rfl
section
variable {n : Net} (ok : NetOk n)
include ok
theorem gone_O {d : Nat} {vs : Table} {i : Nat} {g : Go} (hd : d < n.places.length) (nk : (vs.map (·.1)).Nodup) (hg : n.goes[i]? = some g) : gone n (roadsOf n) d vs g = goneO n d (lookT vs) g := by
  unfold gone goneO
  split
  · rfl
  · exact sureBy_O ok nk (go_ok ok hg).to hd
/-- what has a worth is sure where it goes -/
theorem gone_some {d i a : Nat} {fewer : Option Table} {g : Go} (hd : d < n.places.length) (hg : n.goes[i]? = some g) : ∀ (m : Nat) (l : List Nat), l.length = m → l.Nodup → lookT (tableUp n d fewer l) i = some a → (goneO n d (lookT (tableUp n d fewer l)) g).isSome = true := by
  intro m
  induction m with
  | zero =>
    intro l hl _ h
    rw [List.eq_nil_of_length_eq_zero hl] at h
    cases h
  | succ m ih =>
    intro l hl nd h
    rcases List.eq_nil_or_concat l with e | ⟨l', j, e⟩
    · rw [e] at hl
      cases hl
    · rw [List.concat_eq_append] at e
      subst e
      have nd' : l'.Nodup := (List.nodup_append.mp nd).1
      have nj : j ∉ l' := fun z => (List.nodup_append.mp nd).2.2 j z j (List.mem_singleton.mpr rfl) rfl
      have ky : j ∉ (tableUp n d fewer l').map (·.1) := by rw [tableUp_keys]; exact nj
      rw [tableUp_more] at h ⊢
      have more : ∀ x b, lookT (tableUp n d fewer l') x = some b → lookT (tableUp n d fewer l' ++ [(j, worth n (roadsOf n) d fewer (tableUp n d fewer l') j)]) x = some b := fun x b hx => by
        rw [lookT_app ky]
        by_cases ex : x = j
        · subst ex
          have z : lookT (tableUp n d fewer l') x = none := by
            unfold lookT
            cases q : (tableUp n d fewer l').find? (fun v => v.1 == x) with
            | none => rfl
            | some y =>
              have h1 := List.mem_of_find?_eq_some q
              have h2 := List.find?_some q
              exact absurd (List.mem_map.mpr ⟨y, h1, by simpa using h2⟩) ky
          rw [z] at hx
          cases hx
        · rw [if_neg ex]
          exact hx
      rw [lookT_app ky] at h
      by_cases ex : i = j
      · rw [if_pos ex] at h
        refine goneO_more more ?_
        subst ex
        unfold worth at h
        rw [hg] at h
        have nk : ((tableUp n d fewer l').map (·.1)).Nodup := by rw [tableUp_keys]; exact nd'
        rw [← gone_O ok hd nk hg]
        cases fewer with
        | none =>
          rw [show gone n (roadsOf n) d (tableUp n d none l') g = some a from h]
          rfl
        | some us =>
          have h2 : later (gone n (roadsOf n) d (tableUp n d (some us) l') g) (sureBy n (roadsOf n) d us g.from_ (g.dep + 1)) = some a := h
          cases q : gone n (roadsOf n) d (tableUp n d (some us) l') g with
          | none => rw [q] at h2; cases h2
          | some b => rfl
      · rw [if_neg ex] at h
        refine goneO_more more (ih l' ?_ nd' h)
        rw [List.length_append] at hl
        simpa using hl
theorem worst_wait {d k p t i a f : Nat} {g : Go} (hd : d < n.places.length) (hp : p < n.places.length) (h : toDo n (roadsOf n) d k p t = some (.wait i)) (hg : n.goes[i]? = some g) (hf : g.from_ = p) (s : lookT (tableFor n (roadsOf n) d k) i = some a) :
    worst n (roadsOf n) d (f + 1) k p t = if bad n d k g = true then i :: worst n (roadsOf n) d f (k - 1) p (g.dep + 1) else worst n (roadsOf n) d f k g.to_ (g.arr + stay n d g.to_) := by
  have go := gone_O (d := d) ok hd (tableFor_nodup n d k) hg
  have gs : (goneO n d (lookT (tableFor n (roadsOf n) d k)) g).isSome = true := by
    rw [tableFor_up] at s ⊢
    exact gone_some ok hd hg _ _ rfl (lastFirst_ok n).1 s
  obtain ⟨b, hb⟩ := Option.isSome_iff_exists.mp gs
  have gi : goneI n d (rowK n d k) g = (b : Int) := by
    unfold rowK
    rw [goneI_row, hb]
    rfl
  have si : sureI n d (rowK n d (k - 1)) g.from_ (g.dep + 1) = orNone (sureIn n (roadsOf n) d (k - 1) p (g.dep + 1)) := by
    rw [sureI_K, sureIn_K ok hp hd, hf]
  have ec : (k ≠ 0 ∧ (match gone n (roadsOf n) d (tableFor n (roadsOf n) d k) g, sureIn n (roadsOf n) d (k - 1) p (g.dep + 1) with
      | some a, some b => decide (a < b)
      | _, _ => false) = true) ↔ bad n d k g = true := by
    unfold bad
    rw [gi, si, go, hb, Bool.and_eq_true, decide_eq_true_iff, decide_eq_true_iff]
    cases sureIn n (roadsOf n) d (k - 1) p (g.dep + 1) with
    | none =>
      show k ≠ 0 ∧ false = true ↔ 0 < k ∧ (b : Int) < -1
      constructor
      · rintro ⟨_, z⟩; cases z
      · rintro ⟨_, z⟩; omega
    | some c =>
      show k ≠ 0 ∧ decide (b < c) = true ↔ 0 < k ∧ (b : Int) < (c : Int)
      rw [decide_eq_true_iff]
      omega
  rw [worst, h]
  simp only [hg]
  by_cases e : bad n d k g = true
  · rw [if_pos e]
    exact if_pos (ec.mpr e)
  · rw [if_neg e]
    refine (if_neg fun z => e (ec.mp z)).trans ?_
    by_cases e2 : g.to_ = d
    · rw [if_pos e2, worst_stop e2]
    · rw [if_neg e2]
      unfold stay
      rw [if_neg e2]
end
end SJ
/-! Last minutes, profiles. -/
namespace SJ
open Vbtoad
def MaxOf (f : Int) (S : Nat → Prop) : Prop := (f = -1 ∨ ∃ m : Nat, f = m ∧ S m) ∧ ∀ x : Nat, S x → (x : Int) ≤ f
theorem MaxOf.ge {f : Int} {S : Nat → Prop} (h : MaxOf f S) : -1 ≤ f := by
  rcases h.1 with e | ⟨m, e, _⟩ <;> omega
theorem MaxOf.eq {f g : Int} {S T : Nat → Prop} (h : MaxOf f S) (h' : MaxOf g T) (a : ∀ x, S x → ∃ y, T y ∧ x ≤ y) (b : ∀ x, T x → ∃ y, S y ∧ x ≤ y) : f = g := by
  have p := h.ge
  have q := h'.ge
  have l1 : f ≤ g := by
    rcases h.1 with e | ⟨m, e, s⟩
    · omega
    · obtain ⟨y, ty, le⟩ := a m s
      have := h'.2 y ty
      omega
  have l2 : g ≤ f := by
    rcases h'.1 with e | ⟨m, e, s⟩
    · omega
    · obtain ⟨y, ty, le⟩ := b m s
      have := h.2 y ty
      omega
  omega
theorem MaxOf.more {f v : Int} {S : Nat → Prop} (h : MaxOf f S) : MaxOf (max f v) (fun x => S x ∨ (x : Int) = v) := by
  have p := h.ge
  refine ⟨?_, fun x hx => ?_⟩
  · by_cases e : f ≤ v
    · rw [Int.max_eq_right e]
      by_cases z : v = -1
      · exact .inl z
      · exact .inr ⟨v.toNat, by omega, .inr (by omega)⟩
    · rw [Int.max_eq_left (by omega)]
      exact h.1.imp id fun ⟨m, e1, e2⟩ => ⟨m, e1, .inl e2⟩
  · rcases hx with hx | hx
    · have := h.2 x hx
      exact Int.le_trans this (Int.le_max_left ..)
    · rw [hx]
      exact Int.le_max_right ..
theorem MaxOf.congr {f : Int} {S T : Nat → Prop} (h : MaxOf f S) (e : ∀ x, S x ↔ T x) : MaxOf f T := ⟨h.1.imp id fun ⟨m, a, b⟩ => ⟨m, a, (e m).mp b⟩, fun x hx => h.2 x ((e x).mpr hx)⟩
theorem maxOf_none : MaxOf (-1) (fun _ => False) := ⟨.inl rfl, fun _ h => h.elim⟩
theorem maxOf_fold {α : Type} (c : α → Bool) (v : α → Int) : ∀ (l : List α) (f : Int) (S : Nat → Prop), MaxOf f S → MaxOf (l.foldl (fun f y => if c y = true then max f (v y) else f) f) (fun x => S x ∨ ∃ y ∈ l, c y = true ∧ (x : Int) = v y)
  | [], f, S, h => h.congr fun x => ⟨.inl, fun z => z.elim id fun ⟨_, hy, _⟩ => by cases hy⟩
  | y :: l, f, S, h => by
    rw [List.foldl_cons]
    cases e : c y with
    | true =>
      rw [if_pos rfl]
      refine (maxOf_fold c v l _ _ h.more).congr fun x => ?_
      constructor
      · rintro ((z | z) | ⟨w, hw, z⟩)
        · exact .inl z
        · exact .inr ⟨y, List.mem_cons_self .., e, z⟩
        · exact .inr ⟨w, List.mem_cons_of_mem _ hw, z⟩
      · rintro (z | ⟨w, hw, z1, z2⟩)
        · exact .inl (.inl z)
        · rcases List.mem_cons.mp hw with rfl | hw
          · exact .inl (.inr z2)
          · exact .inr ⟨w, hw, z1, z2⟩
    | false =>
      rw [if_neg (by decide)]
      refine (maxOf_fold c v l _ _ h).congr fun x => ?_
      constructor
      · exact fun z => z.imp id fun ⟨w, hw, z⟩ => ⟨w, List.mem_cons_of_mem _ hw, z⟩
      · rintro (z | ⟨w, hw, z1, z2⟩)
        · exact .inl z
        · rcases List.mem_cons.mp hw with rfl | hw
          · rw [e] at z1
            cases z1
          · exact .inr ⟨w, hw, z1, z2⟩
def mx (b : Option Nat) (t : Nat) : Option Nat := match b with
  | none => some t
  | some u => some (max t u)
theorem maxOf_spec : ∀ (l : List Nat) (b : Option Nat) (S : Nat → Prop), MaxOf (orNone b) S → MaxOf (orNone (l.foldl mx b)) (fun x => S x ∨ x ∈ l)
  | [], b, S, h => h.congr fun x => ⟨.inl, fun z => z.elim id fun hy => by cases hy⟩
  | y :: l, b, S, h => by
    rw [List.foldl_cons]
    have h2 : MaxOf (orNone (mx b y)) (fun x => S x ∨ (x : Int) = (y : Int)) := by
      have e : orNone (mx b y) = max (orNone b) (y : Int) := by
        cases b with
        | none =>
          show (y : Int) = max (-1) (y : Int)
          omega
        | some u =>
          show ((max y u : Nat) : Int) = max (u : Int) (y : Int)
          omega
      rw [e]
      exact h.more
    refine (maxOf_spec l _ _ h2).congr fun x => ?_
    rw [List.mem_cons]
    constructor
    · rintro ((z | z) | z)
      · exact .inl z
      · exact .inr (.inl (by omega))
      · exact .inr (.inr z)
    · rintro (z | z | z)
      · exact .inl (.inl z)
      · exact .inl (.inr (by omega))
      · exact .inr z
/-- the program's last minute -/
def lastC (n : Net) (p : Nat) (limit : Int) (x : Go × Int) : Bool := !decide (x.2 = -1) && (decide (x.2 ≤ limit) && !decide (orNone (rdy n p x.1.from_) = -1))
def lastV (n : Net) (p : Nat) (x : Go × Int) : Int := (x.1.dep : Int) - orNone (rdy n p x.1.from_)
def lastStep (n : Net) (p : Nat) (limit : Int) (f : Int) (x : Go × Int) : Int := if lastC n p limit x = true then max f (lastV n p x) else f
def lastI (n : Net) (d k p : Nat) (limit : Int) : Int := if p = d then limit else (n.goes.zip (rowK n d k)).foldl (lastStep n p limit) (if orNone (fwD n p d) = -1 then -1 else max (-1) (limit - orNone (fwD n p d)))
section
variable {n : Net} (ok : NetOk n)
include ok
theorem last_eq {d k p limit : Nat} (hp : p < n.places.length) (hd : d < n.places.length) : lastI n d k p limit = orNone (lastStart n (roadsOf n) d k p limit) := by
  have spec : MaxOf (orNone (lastStart n (roadsOf n) d k p limit)) (fun x => x ∈ lastStarts n (roadsOf n) d p limit ∧ ∃ a, sureK n d k p x = some a ∧ a ≤ limit) := by
    show MaxOf (orNone (List.foldl mx none ((lastStarts n (roadsOf n) d p limit).filter fun t => (sureIn n (roadsOf n) d k p t).any fun a => decide (a ≤ limit)))) _
    refine (maxOf_spec _ none (fun _ => False) maxOf_none).congr fun x => ?_
    rw [false_or, List.mem_filter, sureIn_K ok hp hd]
    refine and_congr_right fun _ => ?_
    cases sureK n d k p x with
    | none => exact ⟨fun z => (by cases z), fun ⟨a, z, _⟩ => (by cases z)⟩
    | some a => exact ⟨fun z => ⟨a, rfl, of_decide_eq_true z⟩, fun ⟨b, z, le⟩ => by cases z; exact decide_eq_true le⟩
  unfold lastI
  by_cases e : p = d
  · rw [if_pos e]
    have sd : ∀ x, sureK n d k p x = some x := fun x => by
      unfold sureK sureO
      rw [if_pos e]
    have h : MaxOf ((limit : Nat) : Int) (fun x => x = limit) := ⟨.inr ⟨limit, rfl, rfl⟩, fun x hx => by rw [hx]; exact Int.le_refl _⟩
    refine h.eq spec (fun x hx => ⟨x, ⟨?_, x, sd x, Nat.le_of_eq hx⟩, Nat.le_refl _⟩) fun x ⟨_, a, ha, le⟩ => ⟨limit, rfl, ?_⟩
    · unfold lastStarts
      rw [if_pos e, hx]
      exact List.mem_append_left _ (List.mem_singleton.mpr rfl)
    · rw [sd] at ha
      cases ha
      exact le
  · rw [if_neg e]
    have h0 : MaxOf (if orNone (fwD n p d) = -1 then -1 else max (-1) ((limit : Int) - orNone (fwD n p d))) (fun x => ∃ m, fwD n p d = some m ∧ (x : Int) = (limit : Int) - m) := by
      cases fwD n p d with
      | none => exact maxOf_none.congr fun x => ⟨fun z => z.elim, fun ⟨m, z, _⟩ => (by cases z)⟩
      | some m =>
        rw [if_neg (show ¬ (orNone (some m) = -1) from fun z => (by have z2 : (m : Int) = -1 := z; omega))]
        exact maxOf_none.more.congr fun x => ⟨fun z => ⟨m, rfl, z.elim False.elim id⟩, fun ⟨m', z, q⟩ => by cases z; exact .inr q⟩
    have hP := maxOf_fold (lastC n p limit) (lastV n p) (n.goes.zip (rowK n d k)) _ _ h0
    have hz : ∀ (i : Nat) (g : Go), n.goes[i]? = some g → (g, orNone (lookT (tableFor n (roadsOf n) d k) i)) ∈ n.goes.zip (rowK n d k) := fun i g hg =>
      List.mem_iff_getElem?.mpr ⟨i, (List.getElem?_zip_eq_some).mpr ⟨hg, rowOf_get (List.getElem?_eq_some_iff.mp hg).1⟩⟩
    refine hP.eq spec (fun x hx => ⟨x, ?_, Nat.le_refl _⟩) fun x ⟨_, a, ha, le⟩ => ?_
    · rcases hx with ⟨m, hm, ex⟩ | ⟨⟨g, w⟩, hy, hc, hv⟩
      · have hs : SureS n d (lookT (tableFor n (roadsOf n) d k)) p x (x + m) := .inl ⟨m, hm, rfl⟩
        obtain ⟨c, hc, le, _⟩ := (sureO_min e).some_of hs
        refine ⟨?_, c, hc, by omega⟩
        unfold lastStarts
        rw [if_neg e, drive_fw ok hp hd, hm]
        show x ∈ [] ++ ((if m ≤ limit then [limit - m] else []) ++ _)
        rw [if_pos (by omega)]
        exact List.mem_append_right _ (List.mem_append_left _ (List.mem_singleton.mpr (by omega)))
      · obtain ⟨i, hi⟩ := List.mem_iff_getElem?.mp hy
        obtain ⟨hg, hw⟩ := (List.getElem?_zip_eq_some).mp hi
        have og := go_ok ok hg
        rw [show (rowK n d k)[i]? = some (orNone (lookT (tableFor n (roadsOf n) d k) i)) from rowOf_get (List.getElem?_eq_some_iff.mp hg).1] at hw
        have hw := Option.some.inj hw
        unfold lastC at hc
        simp only [Bool.and_eq_true, Bool.not_eq_true', decide_eq_false_iff_not, decide_eq_true_eq] at hc
        obtain ⟨h1, h2, h3⟩ := hc
        unfold lastV at hv
        cases er : rdy n p g.from_ with
        | none => rw [er] at h3; exact absurd rfl h3
        | some m =>
          cases el : lookT (tableFor n (roadsOf n) d k) i with
          | none => rw [el] at hw; exact absurd hw.symm h1
          | some a =>
            simp only [er] at hv
            have hv' : (x : Int) = (g.dep : Int) - (m : Int) := hv
            have h2' : (a : Int) ≤ (limit : Int) := by
              rw [el] at hw
              have hw' : (a : Int) = w := hw
              have : w ≤ (limit : Int) := h2
              omega
            have hs : SureS n d (lookT (tableFor n (roadsOf n) d k)) p x a := .inr ⟨i, g, hg, by unfold inTime; rw [er]; exact decide_eq_true (by omega), el⟩
            obtain ⟨c, hc, le, _⟩ := (sureO_min e).some_of hs
            refine ⟨?_, c, hc, by omega⟩
            unfold lastStarts
            refine List.mem_append_right _ (List.mem_append_right _ (List.mem_filterMap.mpr ⟨g, List.mem_of_getElem? hg, ?_⟩))
            rw [roads_rdy ok hp og.fr, er]
            show (if m ≤ g.dep then some (g.dep - m) else none) = some x
            rw [if_pos (by omega)]
            congr 1
            omega
    · rcases ((sureO_min e).of_some ha).1 with ⟨m, hm, ea⟩ | ⟨i, g, hg, ht, hl⟩
      · exact ⟨limit - m, .inl ⟨m, hm, by omega⟩, by omega⟩
      · unfold inTime at ht
        cases er : rdy n p g.from_ with
        | none => rw [er] at ht; cases ht
        | some m =>
          rw [er] at ht
          have ht' := of_decide_eq_true (show decide (x + m ≤ g.dep) = true from ht)
          refine ⟨g.dep - m, .inr ⟨_, hz i g hg, ?_, ?_⟩, by omega⟩
          · unfold lastC
            rw [hl, er]
            show (!decide ((a : Int) = -1) && (decide ((a : Int) ≤ (limit : Int)) && !decide ((m : Int) = -1))) = true
            rw [decide_eq_false (by omega), decide_eq_true (show (a : Int) ≤ (limit : Int) by omega), decide_eq_false (by omega)]
            rfl
          · unfold lastV
            rw [er]
            show ((g.dep - m : Nat) : Int) = (g.dep : Int) - (m : Int)
            omega
end
end SJ
/-! Profiles. -/
namespace SJ
open Vbtoad
theorem put_mem (t x : Nat) : ∀ l : List Nat, x ∈ profile.put t l ↔ x = t ∨ x ∈ l
  | [] => by simp [profile.put]
  | y :: l => by
    unfold profile.put
    split
    · simp
    · split
      · rename_i h1 h2
        subst h2
        simp
      · rw [List.mem_cons, put_mem t x l, List.mem_cons]
        constructor
        · rintro (z | z | z)
          · exact .inr (.inl z)
          · exact .inl z
          · exact .inr (.inr z)
        · rintro (z | z | z)
          · exact .inr (.inl z)
          · exact .inl z
          · exact .inr (.inr z)
theorem put_sorted (t : Nat) : ∀ l : List Nat, l.Pairwise (· < ·) → (profile.put t l).Pairwise (· < ·)
  | [], _ => List.pairwise_singleton ..
  | y :: l, h => by
    obtain ⟨h1, h2⟩ := List.pairwise_cons.mp h
    unfold profile.put
    split
    · rename_i hlt
      refine List.pairwise_cons.mpr ⟨fun x hx => ?_, h⟩
      rcases List.mem_cons.mp hx with rfl | hx
      · exact hlt
      · exact Nat.lt_trans hlt (h1 x hx)
    · split
      · exact h
      · refine List.pairwise_cons.mpr ⟨fun x hx => ?_, put_sorted t l h2⟩
        rcases (put_mem t x l).mp hx with rfl | hx
        · omega
        · exact h1 x hx
def putAll (l : List Nat) : List Nat := l.foldl (fun l t => profile.put t l) []
theorem putAll_ok (l : List Nat) : (putAll l).Pairwise (· < ·) ∧ ∀ x, x ∈ putAll l ↔ x ∈ l := by
  have key : ∀ (l acc : List Nat), acc.Pairwise (· < ·) → (l.foldl (fun l t => profile.put t l) acc).Pairwise (· < ·) ∧ ∀ x, x ∈ l.foldl (fun l t => profile.put t l) acc ↔ x ∈ l ∨ x ∈ acc := by
    intro l
    induction l with
    | nil => exact fun acc h => ⟨h, fun x => by simp⟩
    | cons y l ih =>
      intro acc h
      obtain ⟨a, b⟩ := ih (profile.put y acc) (put_sorted y acc h)
      refine ⟨a, fun x => ?_⟩
      rw [List.foldl_cons, b, put_mem, List.mem_cons]
      constructor
      · rintro (z | z | z)
        · exact .inl (.inr z)
        · exact .inl (.inl z)
        · exact .inr z
      · rintro ((z | z) | z)
        · exact .inr (.inl z)
        · exact .inl z
        · exact .inr (.inr z)
  obtain ⟨a, b⟩ := key l [] List.Pairwise.nil
  exact ⟨a, fun x => by unfold putAll; rw [b]; simp⟩
/-- rising lists of the same numbers -/
theorem rising_eq : ∀ l r : List Nat, l.Pairwise (· < ·) → r.Pairwise (· < ·) → (∀ x, x ∈ l ↔ x ∈ r) → l = r
  | [], [], _, _, _ => rfl
  | [], y :: r, _, _, h => absurd ((h y).mpr (List.mem_cons_self ..)) (by simp)
  | x :: l, [], _, _, h => absurd ((h x).mp (List.mem_cons_self ..)) (by simp)
  | x :: l, y :: r, hl, hr, h => by
    obtain ⟨l1, l2⟩ := List.pairwise_cons.mp hl
    obtain ⟨r1, r2⟩ := List.pairwise_cons.mp hr
    have e : x = y := by
      have a := (h x).mp (List.mem_cons_self ..)
      have b := (h y).mpr (List.mem_cons_self ..)
      rcases List.mem_cons.mp a with a | a
      · exact a
      · rcases List.mem_cons.mp b with b | b
        · exact b.symm
        · have := r1 x a
          have := l1 y b
          omega
    subst e
    rw [rising_eq l r l2 r2 fun z => ?_]
    constructor
    · intro hz
      rcases List.mem_cons.mp ((h z).mp (List.mem_cons_of_mem _ hz)) with e | e
      · have := l1 z hz
        omega
      · exact e
    · intro hz
      rcases List.mem_cons.mp ((h z).mpr (List.mem_cons_of_mem _ hz)) with e | e
      · have := r1 z hz
        omega
      · exact e
/-- the program's: sorted keys, each once -/
theorem sorted_keys {ks : List Int} {l : List Nat} (s : ks.Pairwise (· ≤ ·)) (nd : ks.Nodup) (h : ∀ x : Int, x ∈ ks ↔ ∃ m ∈ l, x = (m : Int)) : ks = (putAll l).map fun (m : Nat) => (m : Int) := by
  obtain ⟨a, b⟩ := putAll_ok l
  have e1 : ks = (ks.map Int.toNat).map fun (m : Nat) => (m : Int) := by
    rw [List.map_map]
    conv => lhs; rw [← List.map_id ks]
    refine List.map_congr_left fun x hx => ?_
    obtain ⟨m, _, e⟩ := (h x).mp hx
    show x = ((x.toNat : Nat) : Int)
    omega
  rw [e1, rising_eq (ks.map Int.toNat) (putAll l) ?_ a fun x => ?_]
  · have lt : ks.Pairwise (· < ·) := by
      rw [List.pairwise_iff_getElem] at *
      intro i j hi hj hij
      have p := s i j hi hj hij
      have q := List.pairwise_iff_getElem.mp nd i j hi hj hij
      omega
    rw [List.pairwise_map]
    refine List.Pairwise.imp_of_mem (fun {x y} hx hy hxy => ?_) lt
    obtain ⟨m, _, e⟩ := (h x).mp hx
    obtain ⟨m', _, e'⟩ := (h y).mp hy
    omega
  · rw [b, List.mem_map]
    constructor
    · rintro ⟨y, hy, rfl⟩
      obtain ⟨m, hm, e⟩ := (h y).mp hy
      have : y.toNat = m := by omega
      rw [this]
      exact hm
    · intro hx
      exact ⟨(x : Int), (h _).mpr ⟨x, hx, rfl⟩, by omega⟩
theorem filterMap_same {α β : Type} {f g : α → Option β} : ∀ {l : List α}, (∀ x ∈ l, f x = g x) → l.filterMap f = l.filterMap g
  | [], _ => rfl
  | x :: l, h => by
    rw [List.filterMap_cons, List.filterMap_cons, h x (List.mem_cons_self ..), filterMap_same fun y hy => h y (List.mem_cons_of_mem _ hy)]
/-- minutes at which one is just ready -/
def justReady (n : Net) (p : Nat) : List Nat := n.goes.filterMap fun g => (rdy n p g.from_).bind fun m => if m ≤ g.dep then some (g.dep - m) else none
def stepB (n : Net) (d k p t : Nat) : Bool :=
  if (decide (orNone (sureK n d k p t) = -1) || (!decide (orNone (fwD n p d) = -1) && decide ((t : Int) + orNone (fwD n p d) ≤ orNone (sureK n d k p t)))) = true then false
  else (decide (orNone (sureK n d k p (t + 1)) = -1) || decide (orNone (sureK n d k p t) < orNone (sureK n d k p (t + 1))))
section
variable {n : Net} (ok : NetOk n)
include ok
theorem profile_eq {d k p : Nat} (hp : p < n.places.length) (hd : d < n.places.length) : profile n (roadsOf n) d k p = (putAll (justReady n p)).filterMap fun t => if stepB n d k p t = true then some (t, (sureK n d k p t).getD 0) else none := by
  unfold profile
  have e1 : (n.goes.filterMap fun g => (readyFrom (roadsOf n) p g.from_).bind fun m => if m ≤ g.dep then some (g.dep - m) else none) = justReady n p := by
    unfold justReady
    refine filterMap_same fun g hg => ?_
    rw [roads_rdy ok hp (ok.g g hg).fr]
  rw [e1]
  refine filterMap_same fun t _ => ?_
  rw [sureIn_K ok hp hd, sureIn_K ok hp hd, drive_fw ok hp hd]
  unfold stepB
  have nn : ∀ m : Nat, decide (orNone (some m) = -1) = false := fun m => decide_eq_false fun z => by
    have z2 : (m : Int) = -1 := z
    omega
  cases sureK n d k p t with
  | none => rfl
  | some a =>
    rw [nn, Bool.false_or]
    have hb : (decide (orNone (sureK n d k p (t + 1)) = -1) || decide (orNone (some a) < orNone (sureK n d k p (t + 1)))) = (match sureK n d k p (t + 1) with
        | none => true
        | some c => decide (a < c)) := by
      cases sureK n d k p (t + 1) with
      | none => rfl
      | some c =>
        rw [nn, Bool.false_or]
        show decide ((a : Int) < (c : Int)) = decide (a < c)
        exact decide_eq_decide.mpr (by omega)
    have hc : (!decide (orNone (fwD n p d) = -1) && decide ((t : Int) + orNone (fwD n p d) ≤ orNone (some a))) = !((fwD n p d).all fun m => decide (a < t + m)) := by
      cases fwD n p d with
      | none => rfl
      | some m =>
        rw [nn, Bool.not_false, Bool.true_and]
        show decide ((t : Int) + (m : Int) ≤ (a : Int)) = !decide (a < t + m)
        rw [← decide_not]
        exact decide_eq_decide.mpr (by omega)
    rw [hb, hc]
    cases h1 : (fwD n p d).all fun m => decide (a < t + m) with
    | true =>
      simp only [Bool.not_true, Bool.false_eq_true, if_false]
      cases sureK n d k p (t + 1) with
      | none => exact if_pos ⟨rfl, h1⟩
      | some c =>
        show (if decide (a < c) = true ∧ _ then some (t, a) else none) = if decide (a < c) = true then some (t, a) else none
        by_cases q : decide (a < c) = true
        · rw [if_pos q]
          exact if_pos ⟨q, h1⟩
        · rw [if_neg q]
          exact if_neg fun z => q z.1
    | false =>
      simp only [Bool.not_false, if_true]
      rw [if_neg (show ¬ (false = true) by decide)]
      exact if_neg fun z => by
        have z2 := z.2
        rw [show ((fwD n p d).all fun m => decide (a < t + m)) = false from h1] at z2
        cases z2
end
end SJ
/-! Texts: lines and words. -/
namespace SJ
open Vbtoad Vbbtaa
def seg (T : List Nat) (s e : Nat) : List Nat := (T.drop s).take (e - s)
/-- the places behind the lines of what's left, from p on -/
def endsP : Nat → List Nat → List Nat
  | p, [] => [p]
  | p, c :: r => if c = 10 then p :: endsP (p + 1) r else endsP (p + 1) r
theorem endsP_ge : ∀ (t : List Nat) (p e : Nat), e ∈ endsP p t → p ≤ e ∧ e ≤ p + t.length
  | [], p, e, h => by
    cases List.mem_singleton.mp h
    exact ⟨Nat.le_refl _, Nat.le_refl _⟩
  | c :: r, p, e, h => by
    unfold endsP at h
    split at h
    · rcases List.mem_cons.mp h with rfl | h
      · exact ⟨Nat.le_refl _, Nat.le_add_right ..⟩
      · obtain ⟨a, b⟩ := endsP_ge r (p + 1) e h
        rw [List.length_cons]
        omega
    · obtain ⟨a, b⟩ := endsP_ge r (p + 1) e h
      rw [List.length_cons]
      omega
theorem endsP_cons (p : Nat) : ∀ t : List Nat, ∃ e es, endsP p t = e :: es
  | [] => ⟨_, _, rfl⟩
  | c :: r => by
    unfold endsP
    split
    · exact ⟨_, _, rfl⟩
    · exact endsP_cons (p + 1) r
theorem endsP_eq : ∀ (t : List Nat) (p : Nat), endsP p t = ((List.range t.length).filter fun i => decide (t[i]? = some 10)).map (fun i => p + i) ++ [p + t.length]
  | [], p => rfl
  | c :: r, p => by
    have ih := endsP_eq r (p + 1)
    have e : (List.range (c :: r).length).filter (fun i => decide ((c :: r)[i]? = some 10)) = (if c = 10 then [0] else []) ++ ((List.range r.length).filter fun i => decide (r[i]? = some 10)).map (· + 1) := by
      rw [List.length_cons, List.range_succ_eq_map, List.filter_cons, List.filter_map]
      have h0 : (decide ((c :: r)[0]? = some 10)) = decide (c = 10) := by
        rw [List.getElem?_cons_zero]
        exact decide_eq_decide.mpr ⟨fun z => Option.some.inj z, fun z => by rw [z]⟩
      rw [h0]
      have h1 : ((fun i => decide ((c :: r)[i]? = some 10)) ∘ Nat.succ) = fun i => decide (r[i]? = some 10) := rfl
      rw [h1]
      by_cases z : c = 10
      · rw [if_pos z, decide_eq_true z]
        rfl
      · rw [if_neg z, decide_eq_false z]
        rfl
    unfold endsP
    rw [ih, e, List.map_append, List.map_map]
    have h2 : ((fun i => p + i) ∘ fun x => x + 1) = fun i => p + 1 + i := by
      funext i
      show p + (i + 1) = p + 1 + i
      omega
    rw [h2]
    have h3 : p + 1 + r.length = p + (c :: r).length := by
      rw [List.length_cons]
      omega
    rw [h3]
    by_cases z : c = 10
    · rw [if_pos z, if_pos z]
      rfl
    · rw [if_neg z, if_neg z]
      rfl
/-- the lines of T, cut at these places -/
def linesAt (T : List Nat) : Nat → List Nat → List (Nat × List Nat)
  | _, [] => []
  | s, e :: es => (s, seg T s e) :: linesAt T (e + 1) es
theorem cut_lines (T : List Nat) : ∀ (m p : Nat), (T.drop p).length = m → cutAt 10 p (T.drop p) = linesAt T p (endsP p (T.drop p))
  | 0, p, h => by
    rw [List.eq_nil_of_length_eq_zero h]
    show [(p, ([] : List Nat))] = [(p, seg T p p)]
    unfold seg
    rw [Nat.sub_self, List.take_zero]
  | m + 1, p, h => by
    cases q : T.drop p with
    | nil => rw [q] at h; cases h
    | cons c r =>
      have hr : T.drop (p + 1) = r := by
        rw [← List.drop_drop, q]
        rfl
      have ih := cut_lines T m (p + 1) (by
        rw [hr]
        rw [q] at h
        simpa using h)
      rw [hr] at ih
      unfold cutAt endsP
      by_cases z : c = 10
      · rw [if_pos z, if_pos z, ih]
        show _ = (p, seg T p p) :: linesAt T (p + 1) _
        unfold seg
        rw [Nat.sub_self, List.take_zero]
      · rw [if_neg z, if_neg z, ih]
        obtain ⟨e, es, he⟩ := endsP_cons (p + 1) r
        have ge := (endsP_ge r (p + 1) e (by rw [he]; exact List.mem_cons_self ..)).1
        rw [he]
        show (p, c :: seg T (p + 1) e) :: linesAt T (e + 1) es = (p, seg T p e) :: linesAt T (e + 1) es
        have hs : seg T p e = c :: seg T (p + 1) e := by
          unfold seg
          rw [q, hr, show e - p = (e - (p + 1)) + 1 by omega]
          rfl
        rw [hs]
theorem lines_eq (T : List Nat) : cutAt 10 0 T = linesAt T 0 (endsP 0 T) := by
  have := cut_lines T T.length 0 rfl
  exact this
/-! ### words -/
theorem no_sign (c : Nat) : ¬ (plainSign c = true) := fun z => Bool.noConfusion (show false = true from z)
theorem wb1 (q c : Nat) : wordsBy plainSign q [c] = if c = 32 then wordsBy plainSign (q + 1) [] else if plainSign c = true then ⟨q, [c]⟩ :: wordsBy plainSign (q + 1) [] else [⟨q, [c]⟩] := rfl
theorem wb2 (q c d : Nat) (r : List Nat) : wordsBy plainSign q (c :: d :: r) = if c = 32 then wordsBy plainSign (q + 1) (d :: r) else if plainSign c = true then ⟨q, [c]⟩ :: wordsBy plainSign (q + 1) (d :: r)
    else if d = 32 ∨ plainSign d = true then ⟨q, [c]⟩ :: wordsBy plainSign (q + 1) (d :: r) else match wordsBy plainSign (q + 1) (d :: r) with
      | [] => [⟨q, [c]⟩]
      | w :: l => ⟨q, c :: w.text⟩ :: l := rfl
theorem wordsBy_blank (q : Nat) (r : List Nat) : wordsBy plainSign q (32 :: r) = wordsBy plainSign (q + 1) r := by
  cases r with
  | nil => rw [wb1, if_pos rfl]
  | cons d r => rw [wb2, if_pos rfl]
theorem wordsBy_word : ∀ (w r : List Nat) (q : Nat), w ≠ [] → (∀ c ∈ w, c ≠ 32) → wordsBy plainSign q (w ++ 32 :: r) = ⟨q, w⟩ :: wordsBy plainSign (q + w.length + 1) r
  | [], _, _, h, _ => absurd rfl h
  | [c], r, q, _, hc => by
    have h1 : ¬ c = 32 := hc c (List.mem_singleton.mpr rfl)
    show wordsBy plainSign q (c :: 32 :: r) = _
    rw [wb2, if_neg h1, if_neg (no_sign c), if_pos (Or.inl rfl), wordsBy_blank]
    rfl
  | c :: d :: w, r, q, _, hc => by
    have h1 : ¬ c = 32 := hc c (List.mem_cons_self ..)
    have h2 : ¬ d = 32 := hc d (List.mem_cons_of_mem _ (List.mem_cons_self ..))
    have ih := wordsBy_word (d :: w) r (q + 1) (by simp) fun x hx => hc x (List.mem_cons_of_mem _ hx)
    show wordsBy plainSign q (c :: d :: (w ++ 32 :: r)) = _
    have ih2 : wordsBy plainSign (q + 1) (d :: (w ++ 32 :: r)) = ⟨q + 1, d :: w⟩ :: wordsBy plainSign (q + 1 + (d :: w).length + 1) r := ih
    rw [wb2, if_neg h1, if_neg (no_sign c), if_neg (fun z => z.elim h2 (no_sign d)), ih2]
    show ⟨q, c :: d :: w⟩ :: wordsBy plainSign (q + 1 + (d :: w).length + 1) r = ⟨q, c :: d :: w⟩ :: wordsBy plainSign (q + (c :: d :: w).length + 1) r
    rw [List.length_cons (a := c), show q + 1 + (d :: w).length + 1 = q + ((d :: w).length + 1) + 1 by omega]
theorem wordsBy_last : ∀ (w : List Nat) (q : Nat), w ≠ [] → (∀ c ∈ w, c ≠ 32) → wordsBy plainSign q w = [⟨q, w⟩]
  | [], _, h, _ => absurd rfl h
  | [c], q, _, hc => by
    have h1 : ¬ c = 32 := hc c (List.mem_singleton.mpr rfl)
    rw [wb1, if_neg h1, if_neg (no_sign c)]
  | c :: d :: w, q, _, hc => by
    have h1 : ¬ c = 32 := hc c (List.mem_cons_self ..)
    have h2 : ¬ d = 32 := hc d (List.mem_cons_of_mem _ (List.mem_cons_self ..))
    have ih := wordsBy_last (d :: w) (q + 1) (by simp) fun x hx => hc x (List.mem_cons_of_mem _ hx)
    rw [wb2, if_neg h1, if_neg (no_sign c), if_neg (fun z => z.elim h2 (no_sign d)), ih]
/-- the loop over a line: what's found, the word that goes on -/
structure WLoop (p : Nat) (s : List Nat) (j : Nat) (found : List Word) (word : List Nat) : Prop where
  all : wordsBy plainSign p s = found ++ wordsBy plainSign (p + j - word.length) (word ++ s.drop j)
  len : word.length ≤ j
  no : ∀ c ∈ word, c ≠ 32
theorem WLoop.start (p : Nat) (s : List Nat) : WLoop p s 0 [] [] := ⟨rfl, Nat.le_refl _, fun _ h => by cases h⟩
section
variable {p j c : Nat} {s word : List Nat} {found : List Word}
theorem drop_cons (h : s[j]? = some c) : s.drop j = c :: s.drop (j + 1) := by
  obtain ⟨hj, e⟩ := List.getElem?_eq_some_iff.mp h
  rw [List.drop_eq_getElem_cons hj, e]
theorem WLoop.sign (w : WLoop p s j found word) (h : s[j]? = some c) (ne : c ≠ 32) : WLoop p s (j + 1) found (word ++ [c]) := by
  refine ⟨?_, by rw [List.length_append]; have := w.len; show word.length + 1 ≤ j + 1; omega, fun x hx => ?_⟩
  · rw [w.all, drop_cons h, List.append_assoc, List.length_append]
    show _ = found ++ wordsBy plainSign (p + (j + 1) - (word.length + 1)) _
    rw [show p + (j + 1) - (word.length + 1) = p + j - word.length by omega]
    rfl
  · rcases List.mem_append.mp hx with q | q
    · exact w.no x q
    · cases List.mem_singleton.mp q
      exact ne
theorem WLoop.word_ (w : WLoop p s j found word) (h : s[j]? = some 32) (ne : word ≠ []) : WLoop p s (j + 1) (found ++ [⟨p + j - word.length, word⟩]) [] := by
  refine ⟨?_, Nat.zero_le _, fun _ h => by cases h⟩
  have l := w.len
  rw [w.all, drop_cons h, wordsBy_word word _ _ ne w.no, List.append_assoc]
  show found ++ (_ :: wordsBy plainSign (p + j - word.length + word.length + 1) _) = found ++ (_ :: wordsBy plainSign (p + (j + 1) - 0) _)
  rw [show p + j - word.length + word.length + 1 = p + (j + 1) - 0 by omega]
  rfl
theorem WLoop.blank (w : WLoop p s j found []) (h : s[j]? = some 32) : WLoop p s (j + 1) found [] := by
  refine ⟨?_, Nat.zero_le _, fun _ h => by cases h⟩
  rw [w.all, drop_cons h]
  show found ++ wordsBy plainSign (p + j - 0) (32 :: s.drop (j + 1)) = found ++ wordsBy plainSign (p + (j + 1) - 0) (s.drop (j + 1))
  rw [wordsBy_blank]
  rfl
theorem WLoop.done (w : WLoop p s s.length found word) : wordsBy plainSign p s = if word = [] then found else found ++ [⟨p + s.length - word.length, word⟩] := by
  rw [w.all, List.drop_length, List.append_nil]
  by_cases e : word = []
  · rw [if_pos e, e]
    show found ++ [] = found
    rw [List.append_nil]
  · rw [if_neg e, wordsBy_last word _ e w.no]
end
end SJ
/-! What is read is a net as told. -/
namespace SJ
open Vbtoad Vbbtaa
theorem words_small : ∀ (s : List Nat) (p : Nat), (wordsBy plainSign p s).length ≤ s.length ∧ ∀ w ∈ wordsBy plainSign p s, w.text.length ≤ s.length
  | [], p => ⟨Nat.le_refl _, fun w h => by cases h⟩
  | [c], p => by
    rw [wb1]
    split
    · exact ⟨Nat.zero_le _, fun w h => by cases h⟩
    · rw [if_neg (no_sign c)]
      exact ⟨Nat.le_refl _, fun w h => by cases List.mem_singleton.mp h; exact Nat.le_refl _⟩
  | c :: d :: r, p => by
    obtain ⟨h1, h2⟩ := words_small (d :: r) (p + 1)
    rw [wb2]
    have len : (c :: d :: r).length = (d :: r).length + 1 := rfl
    split
    · exact ⟨by omega, fun w h => by have := h2 w h; omega⟩
    · rw [if_neg (no_sign c)]
      split
      · refine ⟨by rw [List.length_cons]; omega, fun w h => ?_⟩
        rcases List.mem_cons.mp h with rfl | h
        · show 1 ≤ _
          omega
        · have := h2 w h
          omega
      · cases e : wordsBy plainSign (p + 1) (d :: r) with
        | nil =>
          refine ⟨by show 1 ≤ _; omega, fun w h => ?_⟩
          cases List.mem_singleton.mp h
          show 1 ≤ _
          omega
        | cons w l =>
          rw [e] at h1 h2
          refine ⟨by show (w :: l).length ≤ _; omega, fun v h => ?_⟩
          rcases List.mem_cons.mp h with rfl | h
          · have := h2 w (List.mem_cons_self ..)
            show w.text.length + 1 ≤ _
            omega
          · have := h2 v (List.mem_cons_of_mem _ h)
            omega
theorem isName_ok {t : List Nat} (h : isName t = true) : (1 ≤ t.length ∧ t.length ≤ 12) ∧ ∀ c ∈ t, c ≤ 255 := by
  cases t with
  | nil => cases h
  | cons c r =>
    have h' : (isSmall c && (decide (r.length ≤ 11) && r.all fun d => isSmall d || isDigit d)) = true := h
    rw [Bool.and_eq_true, Bool.and_eq_true, decide_eq_true_iff] at h'
    obtain ⟨h1, h2, h3⟩ := h'
    refine ⟨⟨by rw [List.length_cons]; omega, by rw [List.length_cons]; omega⟩, fun x hx => ?_⟩
    have sm : ∀ x, isSmall x = true → x ≤ 255 := fun x z => by
      unfold isSmall at z
      rw [Bool.and_eq_true, decide_eq_true_iff, decide_eq_true_iff] at z
      omega
    have dg : ∀ x, isDigit x = true → x ≤ 255 := fun x z => by
      unfold isDigit at z
      rw [Bool.and_eq_true, decide_eq_true_iff, decide_eq_true_iff] at z
      omega
    rcases List.mem_cons.mp hx with rfl | hx
    · exact sm _ h1
    · have := List.all_eq_true.mp h3 x hx
      rw [Bool.or_eq_true] at this
      exact this.elim (sm x) (dg x)
theorem next_ok {α : Type} {k : Nat} {f : List Nat → Option α} {r q : Rest} {x : α} (h : next k f r = .ok (x, q)) : ∃ t, f t = some x := by
  unfold next at h
  split at h
  · cases h
  · split at h
    · rename_i y e
      cases h
      exact ⟨_, e⟩
    · cases h
theorem nameIn_ok {r q : Rest} {t : List Nat} (h : nameIn r = .ok (t, q)) : isName t = true := by
  obtain ⟨u, e⟩ := next_ok h
  by_cases z : isName u = true
  · rw [if_pos z] at e
    cases e
    exact z
  · rw [if_neg z] at e
    cases e
theorem numberIn_ok {lo hi v : Nat} {r q : Rest} (h : Vbtoad.numberIn lo hi r = .ok (v, q)) : lo ≤ v ∧ v ≤ hi := by
  unfold Vbtoad.numberIn at h
  split at h
  · cases h
  · split at h
    · rename_i z
      cases h
      exact z
    · cases h
theorem placeIn_ok {n : Net} {i : Nat} {r q : Rest} (h : placeIn n r = .ok (i, q)) : i < n.places.length := by
  unfold placeIn at h
  split at h
  · cases h
  · split at h
    · rename_i e
      cases h
      exact (List.findIdx?_eq_some_iff_getElem.mp e).1
    · cases h
theorem freshIn_ok {n : Net} {t : List Nat} {r q : Rest} (h : freshIn n r = .ok (t, q)) : isName t = true := by
  unfold freshIn at h
  split at h
  · cases h
  · rename_i e
    split at h
    · cases h
    · cases h
      exact nameIn_ok e
theorem ended_ok {α : Type} {k : Nat} {x y : α} {r : Rest} (h : ended k x r = .ok y) : x = y := by
  unfold ended at h
  split at h
  · cases h
    rfl
  · cases h
theorem netOk_place {n : Net} (ok : NetOk n) {t : List Nat} {h : Nat} (l : n.places.length < 8) (ht : isName t = true) (hh : h ≤ 1000) : NetOk { n with places := n.places ++ [⟨t, h⟩] } := by
  obtain ⟨h1, h2, h3, h4, h5, h6⟩ := ok
  have e : (n.places ++ [(⟨t, h⟩ : Place)]).length = n.places.length + 1 := by simp
  obtain ⟨n1, n2⟩ := isName_ok ht
  refine ⟨by show (n.places ++ [_]).length ≤ 8; rw [e]; omega, h2, h3, fun x hx => ?_, fun c hc => ?_, fun g hg => ?_⟩
  · rcases List.mem_append.mp hx with q | q
    · exact h4 x q
    · cases List.mem_singleton.mp q
      exact ⟨hh, n1, n2⟩
  · have o := h5 c hc
    exact ⟨by show _ < (n.places ++ [_]).length; rw [e]; have := o.fr; omega, by show _ < (n.places ++ [_]).length; rw [e]; have := o.to; omega, o.ne, o.pos, o.top, o.long, o.byte⟩
  · have o := h6 g hg
    exact ⟨by show _ < (n.places ++ [_]).length; rw [e]; have := o.fr; omega, by show _ < (n.places ++ [_]).length; rw [e]; have := o.to; omega, o.ne, o.up, o.top, o.long, o.byte⟩
theorem line_ok {n n' : Net} {r : Rest} (ok : NetOk n) (h : Vbtoad.lineIn n r = .ok n') : NetOk n' := by
  unfold Vbtoad.lineIn at h
  split at h
  · cases h
    exact ok
  · simp only at h
    split at h
    · split at h
      · cases h
      · rename_i hp
        have hp' : n.places.length < 8 := Nat.lt_of_not_le hp
        split at h
        · cases h
        · rename_i t y e
          split at h
          · cases h
          · split at h
            · cases h
              exact netOk_place ok hp' (nameIn_ok e) (Nat.zero_le _)
            · split at h
              · cases h
              · rename_i v z e2
                rw [← ended_ok h]
                exact netOk_place ok hp' (nameIn_ok e) (numberIn_ok e2).2
    · split at h
      · split at h
        · cases h
        · rename_i hc
          split at h
          · cases h
          · rename_i t y e
            split at h
            · cases h
            · rename_i a y2 ea
              split at h
              · cases h
              · rename_i b v eb
                split at h
                · cases h
                · rename_i nab
                  split at h
                  · cases h
                  · rename_i m v2 em
                    rw [← ended_ok h]
                    obtain ⟨h1, h2, h3, h4, h5, h6⟩ := ok
                    obtain ⟨n1, n2⟩ := isName_ok (freshIn_ok e)
                    have hc' : n.cars.length < 16 := Nat.lt_of_not_le hc
                    refine ⟨h1, by show (n.cars ++ [_]).length ≤ 16; rw [List.length_append]; show _ + 1 ≤ 16; omega, h3, h4, fun c hc2 => ?_, h6⟩
                    rcases List.mem_append.mp hc2 with q | q
                    · exact h5 c q
                    · cases List.mem_singleton.mp q
                      exact ⟨placeIn_ok ea, placeIn_ok eb, nab, (numberIn_ok em).1, (numberIn_ok em).2, n1, n2⟩
      · split at h
        · split at h
          · cases h
          · rename_i hc
            split at h
            · cases h
            · rename_i t y e
              split at h
              · cases h
              · rename_i a y2 ea
                split at h
                · cases h
                · rename_i d y3 ed
                  split at h
                  · cases h
                  · rename_i b v eb
                    split at h
                    · cases h
                    · rename_i nab
                      split at h
                      · cases h
                      · rename_i m u em
                        split at h
                        · cases h
                        · rename_i lt
                          rw [← ended_ok h]
                          obtain ⟨h1, h2, h3, h4, h5, h6⟩ := ok
                          obtain ⟨n1, n2⟩ := isName_ok (freshIn_ok e)
                          have hc' : n.goes.length < 30 := Nat.lt_of_not_le hc
                          refine ⟨h1, h2, by show (n.goes ++ [_]).length ≤ 30; rw [List.length_append]; show _ + 1 ≤ 30; omega, h4, h5, fun g hg => ?_⟩
                          rcases List.mem_append.mp hg with q | q
                          · exact h6 g q
                          · cases List.mem_singleton.mp q
                            exact ⟨placeIn_ok ea, placeIn_ok eb, nab, by show d < m; omega, (numberIn_ok em).2, n1, n2⟩
        · cases h
end SJ
/-! Answers: how long they are. -/
namespace SJ
open Vbtoad
theorem play_len (n : Net) (w : Roads) (d : Nat) (out : List Nat) : ∀ f k p t, (play n w d out f k p t).1.length ≤ f := by
  intro f
  induction f with
  | zero => intro k p t; exact Nat.zero_le _
  | succ f ih =>
    intro k p t
    unfold play
    split
    · exact Nat.zero_le _
    · exact Nat.zero_le _
    · split
      · exact Nat.zero_le _
      · simp only [List.length_cons]
        split
        · simp
        · have := ih k (by assumption : Car).to_ (t + (by assumption : Car).long + handlingAt n (by assumption : Car).to_)
          omega
    · split
      · exact Nat.zero_le _
      · rename_i i _ g _
        split
        · have := ih (k - 1) p (g.dep + 1)
          simp only [List.length_cons]
          omega
        · simp only [List.length_cons]
          split
          · simp
          · have := ih k g.to_ (g.arr + handlingAt n g.to_)
            omega
theorem worst_len (n : Net) (w : Roads) (d : Nat) : ∀ f k p t, (worst n w d f k p t).length ≤ f := by
  intro f
  induction f with
  | zero => intro k p t; exact Nat.zero_le _
  | succ f ih =>
    intro k p t
    unfold worst
    split
    · split
      · exact Nat.zero_le _
      · rename_i x _
        split
        · exact Nat.zero_le _
        · have := ih k x.to_ (t + x.long + handlingAt n x.to_)
          omega
    · split
      · exact Nat.zero_le _
      · rename_i i _ g _
        have h1 := ih (k - 1) p (g.dep + 1)
        have h2 := ih k g.to_ (g.arr + handlingAt n g.to_)
        dsimp only
        repeat' split
        all_goals first
          | (simp only [List.length_cons]; omega)
          | (simp only [List.length_nil]; omega)
          | omega
    · exact Nat.zero_le _
theorem put_len (t : Nat) : ∀ l : List Nat, (profile.put t l).length ≤ l.length + 1
  | [] => Nat.le_refl _
  | x :: l => by
    unfold profile.put
    split
    · simp
    · split
      · simp
      · have := put_len t l
        simp only [List.length_cons]
        omega
theorem puts_len (l : List Nat) : ∀ b : List Nat, (l.foldl (fun l t => profile.put t l) b).length ≤ b.length + l.length := by
  induction l with
  | nil => intro b; exact Nat.le_refl _
  | cons t l ih =>
    intro b
    have h1 := ih (profile.put t b)
    have h2 := put_len t b
    simp only [List.foldl_cons, List.length_cons]
    omega
theorem profile_len (n : Net) (w : Roads) (d k p : Nat) : (profile n w d k p).length ≤ n.goes.length := by
  unfold profile
  refine Nat.le_trans (List.length_filterMap_le _ _) ?_
  have h1 := puts_len (n.goes.filterMap fun g => (readyFrom w p g.from_).bind fun m => if m ≤ g.dep then some (g.dep - m) else none) []
  have h2 := List.length_filterMap_le (fun g : Go => (readyFrom w p g.from_).bind fun m => if m ≤ g.dep then some (g.dep - m) else none) n.goes
  simp only [List.length_nil, Nat.zero_add] at h1
  omega
end SJ
/-! A net stays one when a departure is left out, or goes later. -/
namespace SJ
open Vbtoad
theorem net_without {n : Net} (ok : NetOk n) (i : Nat) : NetOk { n with goes := n.goes.eraseIdx i } :=
  ⟨ok.pl, ok.cl, Nat.le_trans (List.length_eraseIdx_le ..) ok.gl, ok.p, ok.c, fun x hx => ok.g x (List.mem_of_mem_eraseIdx hx)⟩
theorem net_shift {n : Net} (ok : NetOk n) {i : Nat} {g : Go} {m : Int} (hg : n.goes[i]? = some g) (h0 : 0 ≤ (g.dep : Int) + m) (h1 : (g.arr : Int) + m ≤ 100000) :
    NetOk { n with goes := n.goes.set i { g with dep := ((g.dep : Int) + m).toNat, arr := ((g.arr : Int) + m).toNat } } := by
  have og := ok.g g (List.mem_of_getElem? hg)
  have up := og.up
  refine ⟨ok.pl, ok.cl, by show (n.goes.set i _).length ≤ 30; rw [List.length_set]; exact ok.gl, ok.p, ok.c, fun x hx => ?_⟩
  rcases List.mem_or_eq_of_mem_set hx with h | h
  · exact ok.g x h
  · rw [h]
    exact ⟨og.fr, og.to, og.ne, by show ((g.dep : Int) + m).toNat < ((g.arr : Int) + m).toNat; omega, by show ((g.arr : Int) + m).toNat ≤ 100000; omega, og.long, og.byte⟩
end SJ
/-! The program's top: its text by places, the facts that it leaves. -/
namespace SJ
open PySem PySem.Spec PyProof.Rows L2
/-! ### the text by places -/
def top (i : Nat) : Stmt := PySem.Challenge.pw_surejourney_s01_answers.main.body.getD i (.Pass ⟨0, 0, 0, 0⟩)
abbrev s_number_of : Stmt := top 5
abbrev s_without : Stmt := top 6
abbrev s_shifted : Stmt := top 7
abbrev s_come_tables : Stmt := top 8
abbrev s_put_shorter : Stmt := top 9
abbrev s_lesser : Stmt := top 16
abbrev s_greater : Stmt := top 17
abbrev s_summed : Stmt := top 18
abbrev s_behind_car : Stmt := top 22
abbrev s_behind_going : Stmt := top 23
abbrev s_played : Stmt := top 24
abbrev s_worst_case : Stmt := top 25
abbrev s_last_minute : Stmt := top 26
abbrev s_just_ready_minutes : Stmt := top 27
abbrev s_is_step : Stmt := top 28
abbrev s_profile_of : Stmt := top 29
abbrev s_bytes_of : Stmt := top 53
abbrev s_is_digit : Stmt := top 54
abbrev s_is_small : Stmt := top 55
abbrev s_is_name : Stmt := top 56
abbrev s_is_number : Stmt := top 57
abbrev s_worth_of : Stmt := top 58
abbrev s_ends_of_lines : Stmt := top 59
abbrev s_words_between : Stmt := top 60
abbrev s_want_room : Stmt := top 62
abbrev s_read_place_line : Stmt := top 63
abbrev s_read_car_line : Stmt := top 64
abbrev s_read_go_line : Stmt := top 65
abbrev s_read_line : Stmt := top 66
abbrev s_read_net : Stmt := top 67
abbrev s_row_of : Stmt := top 68
abbrev s_net_bytes : Stmt := top 69
abbrev s_is_as_told : Stmt := top 79
abbrev s_state_answer : Stmt := top 80
abbrev s_sure_answer : Stmt := top 81
abbrev s_table_answer : Stmt := top 82
abbrev s_next_answer : Stmt := top 83
abbrev s_play_answer : Stmt := top 84
abbrev s_profile_answer : Stmt := top 85
abbrev s_worst_answer : Stmt := top 86
abbrev s_who_answer : Stmt := top 87
abbrev s_stands_answer : Stmt := top 88
abbrev s_find_answer : Stmt := top 89
abbrev s_asked_of_ways : Stmt := top 90
abbrev s_answers : Stmt := top 92
abbrev s_Place_init : Stmt := inClass (top 1) 0
abbrev s_Car_init : Stmt := inClass (top 2) 0
abbrev s_Departure_init : Stmt := inClass (top 3) 0
abbrev s_Net_init : Stmt := inClass (top 4) 0
abbrev s_Sureness_init : Stmt := inClass (top 19) 0
abbrev s_Sureness_by_cars : Stmt := inClass (top 19) 1
abbrev s_Sureness_ready_in : Stmt := inClass (top 19) 2
abbrev s_Sureness_is_in_time : Stmt := inClass (top 19) 3
abbrev s_Sureness_sure : Stmt := inClass (top 19) 4
abbrev s_Sureness_if_it_goes : Stmt := inClass (top 19) 5
abbrev s_Sureness_if_cancelled : Stmt := inClass (top 19) 6
abbrev s_Sureness_worth_of : Stmt := inClass (top 19) 7
abbrev s_Sureness_car_to_goal : Stmt := inClass (top 19) 8
abbrev s_Sureness_car_to_ready : Stmt := inClass (top 19) 9
abbrev s_Sureness_first_going : Stmt := inClass (top 19) 10
abbrev s_Sureness_to_do : Stmt := inClass (top 19) 11
abbrev s_Fault_init : Stmt := inClass (top 52) 0
abbrev s_Line_init : Stmt := inClass (top 61) 0
abbrev s_Line_is_over : Stmt := inClass (top 61) 1
abbrev s_Line_place_here : Stmt := inClass (top 61) 2
abbrev s_Line_refuse : Stmt := inClass (top 61) 3
abbrev s_Line_word_here : Stmt := inClass (top 61) 4
abbrev s_Line_take : Stmt := inClass (top 61) 5
abbrev s_Line_read_name : Stmt := inClass (top 61) 6
abbrev s_Line_read_place : Stmt := inClass (top 61) 7
abbrev s_Line_number_here : Stmt := inClass (top 61) 8
abbrev s_Line_read_number : Stmt := inClass (top 61) 9
abbrev s_Line_want_end : Stmt := inClass (top 61) 10
abbrev s_Desk_init : Stmt := inClass (top 91) 0
abbrev s_Desk_read : Stmt := inClass (top 91) 1
abbrev s_Desk_leave_out : Stmt := inClass (top 91) 2
abbrev s_Desk_shift : Stmt := inClass (top 91) 3
abbrev s_Desk_call : Stmt := inClass (top 91) 4
/-! ### the facts -/
def d_number_of : He.DefD := ⟨("number_of", none), "number_of", "number_of", defArgs s_number_of, defBody s_number_of, defScope s_number_of, [], []⟩
def d_without : He.DefD := ⟨("without", none), "without", "without", defArgs s_without, defBody s_without, defScope s_without, [], []⟩
def d_shifted : He.DefD := ⟨("shifted", none), "shifted", "shifted", defArgs s_shifted, defBody s_shifted, defScope s_shifted, [], []⟩
def d_come_tables : He.DefD := ⟨("come_tables", none), "come_tables", "come_tables", defArgs s_come_tables, defBody s_come_tables, defScope s_come_tables, [], []⟩
def d_put_shorter : He.DefD := ⟨("put_shorter", none), "put_shorter", "put_shorter", defArgs s_put_shorter, defBody s_put_shorter, defScope s_put_shorter, [], []⟩
def d_lesser : He.DefD := ⟨("lesser", none), "lesser", "lesser", defArgs s_lesser, defBody s_lesser, defScope s_lesser, [], []⟩
def d_greater : He.DefD := ⟨("greater", none), "greater", "greater", defArgs s_greater, defBody s_greater, defScope s_greater, [], []⟩
def d_summed : He.DefD := ⟨("summed", none), "summed", "summed", defArgs s_summed, defBody s_summed, defScope s_summed, [], []⟩
def d_behind_car : He.DefD := ⟨("behind_car", none), "behind_car", "behind_car", defArgs s_behind_car, defBody s_behind_car, defScope s_behind_car, [], []⟩
def d_behind_going : He.DefD := ⟨("behind_going", none), "behind_going", "behind_going", defArgs s_behind_going, defBody s_behind_going, defScope s_behind_going, [], []⟩
def d_played : He.DefD := ⟨("played", none), "played", "played", defArgs s_played, defBody s_played, defScope s_played, [], []⟩
def d_worst_case : He.DefD := ⟨("worst_case", none), "worst_case", "worst_case", defArgs s_worst_case, defBody s_worst_case, defScope s_worst_case, [], []⟩
def d_last_minute : He.DefD := ⟨("last_minute", none), "last_minute", "last_minute", defArgs s_last_minute, defBody s_last_minute, defScope s_last_minute, [], []⟩
def d_just_ready_minutes : He.DefD := ⟨("just_ready_minutes", none), "just_ready_minutes", "just_ready_minutes", defArgs s_just_ready_minutes, defBody s_just_ready_minutes, defScope s_just_ready_minutes, [], []⟩
def d_is_step : He.DefD := ⟨("is_step", none), "is_step", "is_step", defArgs s_is_step, defBody s_is_step, defScope s_is_step, [], []⟩
def d_profile_of : He.DefD := ⟨("profile_of", none), "profile_of", "profile_of", defArgs s_profile_of, defBody s_profile_of, defScope s_profile_of, [], []⟩
def d_bytes_of : He.DefD := ⟨("bytes_of", none), "bytes_of", "bytes_of", defArgs s_bytes_of, defBody s_bytes_of, defScope s_bytes_of, [], []⟩
def d_is_digit : He.DefD := ⟨("is_digit", none), "is_digit", "is_digit", defArgs s_is_digit, defBody s_is_digit, defScope s_is_digit, [], []⟩
def d_is_small : He.DefD := ⟨("is_small", none), "is_small", "is_small", defArgs s_is_small, defBody s_is_small, defScope s_is_small, [], []⟩
def d_is_name : He.DefD := ⟨("is_name", none), "is_name", "is_name", defArgs s_is_name, defBody s_is_name, defScope s_is_name, [], []⟩
def d_is_number : He.DefD := ⟨("is_number", none), "is_number", "is_number", defArgs s_is_number, defBody s_is_number, defScope s_is_number, [], []⟩
def d_worth_of : He.DefD := ⟨("worth_of", none), "worth_of", "worth_of", defArgs s_worth_of, defBody s_worth_of, defScope s_worth_of, [], []⟩
def d_ends_of_lines : He.DefD := ⟨("ends_of_lines", none), "ends_of_lines", "ends_of_lines", defArgs s_ends_of_lines, defBody s_ends_of_lines, defScope s_ends_of_lines, [], []⟩
def d_words_between : He.DefD := ⟨("words_between", none), "words_between", "words_between", defArgs s_words_between, defBody s_words_between, defScope s_words_between, [], []⟩
def d_want_room : He.DefD := ⟨("want_room", none), "want_room", "want_room", defArgs s_want_room, defBody s_want_room, defScope s_want_room, [], []⟩
def d_read_place_line : He.DefD := ⟨("read_place_line", none), "read_place_line", "read_place_line", defArgs s_read_place_line, defBody s_read_place_line, defScope s_read_place_line, [], []⟩
def d_read_car_line : He.DefD := ⟨("read_car_line", none), "read_car_line", "read_car_line", defArgs s_read_car_line, defBody s_read_car_line, defScope s_read_car_line, [], []⟩
def d_read_go_line : He.DefD := ⟨("read_go_line", none), "read_go_line", "read_go_line", defArgs s_read_go_line, defBody s_read_go_line, defScope s_read_go_line, [], []⟩
def d_read_line : He.DefD := ⟨("read_line", none), "read_line", "read_line", defArgs s_read_line, defBody s_read_line, defScope s_read_line, [], []⟩
def d_read_net : He.DefD := ⟨("read_net", none), "read_net", "read_net", defArgs s_read_net, defBody s_read_net, defScope s_read_net, [], []⟩
def d_row_of : He.DefD := ⟨("row_of", none), "row_of", "row_of", defArgs s_row_of, defBody s_row_of, defScope s_row_of, [], []⟩
def d_net_bytes : He.DefD := ⟨("net_bytes", none), "net_bytes", "net_bytes", defArgs s_net_bytes, defBody s_net_bytes, defScope s_net_bytes, [], []⟩
def d_is_as_told : He.DefD := ⟨("is_as_told", none), "is_as_told", "is_as_told", defArgs s_is_as_told, defBody s_is_as_told, defScope s_is_as_told, [], []⟩
def d_state_answer : He.DefD := ⟨("state_answer", none), "state_answer", "state_answer", defArgs s_state_answer, defBody s_state_answer, defScope s_state_answer, [], []⟩
def d_sure_answer : He.DefD := ⟨("sure_answer", none), "sure_answer", "sure_answer", defArgs s_sure_answer, defBody s_sure_answer, defScope s_sure_answer, [], []⟩
def d_table_answer : He.DefD := ⟨("table_answer", none), "table_answer", "table_answer", defArgs s_table_answer, defBody s_table_answer, defScope s_table_answer, [], []⟩
def d_next_answer : He.DefD := ⟨("next_answer", none), "next_answer", "next_answer", defArgs s_next_answer, defBody s_next_answer, defScope s_next_answer, [], []⟩
def d_play_answer : He.DefD := ⟨("play_answer", none), "play_answer", "play_answer", defArgs s_play_answer, defBody s_play_answer, defScope s_play_answer, [], []⟩
def d_profile_answer : He.DefD := ⟨("profile_answer", none), "profile_answer", "profile_answer", defArgs s_profile_answer, defBody s_profile_answer, defScope s_profile_answer, [], []⟩
def d_worst_answer : He.DefD := ⟨("worst_answer", none), "worst_answer", "worst_answer", defArgs s_worst_answer, defBody s_worst_answer, defScope s_worst_answer, [], []⟩
def d_who_answer : He.DefD := ⟨("who_answer", none), "who_answer", "who_answer", defArgs s_who_answer, defBody s_who_answer, defScope s_who_answer, [], []⟩
def d_stands_answer : He.DefD := ⟨("stands_answer", none), "stands_answer", "stands_answer", defArgs s_stands_answer, defBody s_stands_answer, defScope s_stands_answer, [], []⟩
def d_find_answer : He.DefD := ⟨("find_answer", none), "find_answer", "find_answer", defArgs s_find_answer, defBody s_find_answer, defScope s_find_answer, [], []⟩
def d_asked_of_ways : He.DefD := ⟨("asked_of_ways", none), "asked_of_ways", "asked_of_ways", defArgs s_asked_of_ways, defBody s_asked_of_ways, defScope s_asked_of_ways, [], []⟩
def d_answers : He.DefD := ⟨("answers", none), "answers", "answers", defArgs s_answers, defBody s_answers, defScope s_answers, [], []⟩
def d_Place_init : He.DefD := ⟨("Place", some "__init__"), "__init__", "Place.__init__", defArgs s_Place_init, defBody s_Place_init, defScope s_Place_init, [], []⟩
def d_Car_init : He.DefD := ⟨("Car", some "__init__"), "__init__", "Car.__init__", defArgs s_Car_init, defBody s_Car_init, defScope s_Car_init, [], []⟩
def d_Departure_init : He.DefD := ⟨("Departure", some "__init__"), "__init__", "Departure.__init__", defArgs s_Departure_init, defBody s_Departure_init, defScope s_Departure_init, [], []⟩
def d_Net_init : He.DefD := ⟨("Net", some "__init__"), "__init__", "Net.__init__", defArgs s_Net_init, defBody s_Net_init, defScope s_Net_init, [], []⟩
def d_Sureness_init : He.DefD := ⟨("Sureness", some "__init__"), "__init__", "Sureness.__init__", defArgs s_Sureness_init, defBody s_Sureness_init, defScope s_Sureness_init, [], []⟩
def d_Sureness_by_cars : He.DefD := ⟨("Sureness", some "by_cars"), "by_cars", "Sureness.by_cars", defArgs s_Sureness_by_cars, defBody s_Sureness_by_cars, defScope s_Sureness_by_cars, [], []⟩
def d_Sureness_ready_in : He.DefD := ⟨("Sureness", some "ready_in"), "ready_in", "Sureness.ready_in", defArgs s_Sureness_ready_in, defBody s_Sureness_ready_in, defScope s_Sureness_ready_in, [], []⟩
def d_Sureness_is_in_time : He.DefD := ⟨("Sureness", some "is_in_time"), "is_in_time", "Sureness.is_in_time", defArgs s_Sureness_is_in_time, defBody s_Sureness_is_in_time, defScope s_Sureness_is_in_time, [], []⟩
def d_Sureness_sure : He.DefD := ⟨("Sureness", some "sure"), "sure", "Sureness.sure", defArgs s_Sureness_sure, defBody s_Sureness_sure, defScope s_Sureness_sure, [], []⟩
def d_Sureness_if_it_goes : He.DefD := ⟨("Sureness", some "if_it_goes"), "if_it_goes", "Sureness.if_it_goes", defArgs s_Sureness_if_it_goes, defBody s_Sureness_if_it_goes, defScope s_Sureness_if_it_goes, [], []⟩
def d_Sureness_if_cancelled : He.DefD := ⟨("Sureness", some "if_cancelled"), "if_cancelled", "Sureness.if_cancelled", defArgs s_Sureness_if_cancelled, defBody s_Sureness_if_cancelled, defScope s_Sureness_if_cancelled, [], []⟩
def d_Sureness_worth_of : He.DefD := ⟨("Sureness", some "worth_of"), "worth_of", "Sureness.worth_of", defArgs s_Sureness_worth_of, defBody s_Sureness_worth_of, defScope s_Sureness_worth_of, [], []⟩
def d_Sureness_car_to_goal : He.DefD := ⟨("Sureness", some "car_to_goal"), "car_to_goal", "Sureness.car_to_goal", defArgs s_Sureness_car_to_goal, defBody s_Sureness_car_to_goal, defScope s_Sureness_car_to_goal, [], []⟩
def d_Sureness_car_to_ready : He.DefD := ⟨("Sureness", some "car_to_ready"), "car_to_ready", "Sureness.car_to_ready", defArgs s_Sureness_car_to_ready, defBody s_Sureness_car_to_ready, defScope s_Sureness_car_to_ready, [], []⟩
def d_Sureness_first_going : He.DefD := ⟨("Sureness", some "first_going"), "first_going", "Sureness.first_going", defArgs s_Sureness_first_going, defBody s_Sureness_first_going, defScope s_Sureness_first_going, [], []⟩
def d_Sureness_to_do : He.DefD := ⟨("Sureness", some "to_do"), "to_do", "Sureness.to_do", defArgs s_Sureness_to_do, defBody s_Sureness_to_do, defScope s_Sureness_to_do, [], []⟩
def d_Fault_init : He.DefD := ⟨("Fault", some "__init__"), "__init__", "Fault.__init__", defArgs s_Fault_init, defBody s_Fault_init, defScope s_Fault_init, [], []⟩
def d_Line_init : He.DefD := ⟨("Line", some "__init__"), "__init__", "Line.__init__", defArgs s_Line_init, defBody s_Line_init, defScope s_Line_init, [], []⟩
def d_Line_is_over : He.DefD := ⟨("Line", some "is_over"), "is_over", "Line.is_over", defArgs s_Line_is_over, defBody s_Line_is_over, defScope s_Line_is_over, [], []⟩
def d_Line_place_here : He.DefD := ⟨("Line", some "place_here"), "place_here", "Line.place_here", defArgs s_Line_place_here, defBody s_Line_place_here, defScope s_Line_place_here, [], []⟩
def d_Line_refuse : He.DefD := ⟨("Line", some "refuse"), "refuse", "Line.refuse", defArgs s_Line_refuse, defBody s_Line_refuse, defScope s_Line_refuse, [], []⟩
def d_Line_word_here : He.DefD := ⟨("Line", some "word_here"), "word_here", "Line.word_here", defArgs s_Line_word_here, defBody s_Line_word_here, defScope s_Line_word_here, [], []⟩
def d_Line_take : He.DefD := ⟨("Line", some "take"), "take", "Line.take", defArgs s_Line_take, defBody s_Line_take, defScope s_Line_take, [], []⟩
def d_Line_read_name : He.DefD := ⟨("Line", some "read_name"), "read_name", "Line.read_name", defArgs s_Line_read_name, defBody s_Line_read_name, defScope s_Line_read_name, [], []⟩
def d_Line_read_place : He.DefD := ⟨("Line", some "read_place"), "read_place", "Line.read_place", defArgs s_Line_read_place, defBody s_Line_read_place, defScope s_Line_read_place, [], []⟩
def d_Line_number_here : He.DefD := ⟨("Line", some "number_here"), "number_here", "Line.number_here", defArgs s_Line_number_here, defBody s_Line_number_here, defScope s_Line_number_here, [], []⟩
def d_Line_read_number : He.DefD := ⟨("Line", some "read_number"), "read_number", "Line.read_number", defArgs s_Line_read_number, defBody s_Line_read_number, defScope s_Line_read_number, [], []⟩
def d_Line_want_end : He.DefD := ⟨("Line", some "want_end"), "want_end", "Line.want_end", defArgs s_Line_want_end, defBody s_Line_want_end, defScope s_Line_want_end, [], []⟩
def d_Desk_init : He.DefD := ⟨("Desk", some "__init__"), "__init__", "Desk.__init__", defArgs s_Desk_init, defBody s_Desk_init, defScope s_Desk_init, [], []⟩
def d_Desk_read : He.DefD := ⟨("Desk", some "read"), "read", "Desk.read", defArgs s_Desk_read, defBody s_Desk_read, defScope s_Desk_read, [], []⟩
def d_Desk_leave_out : He.DefD := ⟨("Desk", some "leave_out"), "leave_out", "Desk.leave_out", defArgs s_Desk_leave_out, defBody s_Desk_leave_out, defScope s_Desk_leave_out, [], []⟩
def d_Desk_shift : He.DefD := ⟨("Desk", some "shift"), "shift", "Desk.shift", defArgs s_Desk_shift, defBody s_Desk_shift, defScope s_Desk_shift, [], []⟩
def d_Desk_call : He.DefD := ⟨("Desk", some "call"), "call", "Desk.call", defArgs s_Desk_call, defBody s_Desk_call, defScope s_Desk_call, [], []⟩
def fn0 : List He.DefD := [d_number_of, d_without, d_shifted, d_come_tables, d_put_shorter, d_lesser, d_greater, d_summed, d_behind_car, d_behind_going, d_played, d_worst_case, d_last_minute, d_just_ready_minutes, d_is_step, d_profile_of, d_bytes_of, d_is_digit, d_is_small, d_is_name, d_is_number, d_worth_of, d_ends_of_lines, d_words_between, d_want_room]
def fn1 : List He.DefD := [d_read_place_line, d_read_car_line, d_read_go_line, d_read_line, d_read_net, d_row_of, d_net_bytes, d_is_as_told, d_state_answer, d_sure_answer, d_table_answer, d_next_answer, d_play_answer, d_profile_answer, d_worst_answer, d_who_answer, d_stands_answer, d_find_answer, d_asked_of_ways, d_answers, d_Place_init, d_Car_init, d_Departure_init, d_Net_init, d_Sureness_init]
def fn2 : List He.DefD := [d_Sureness_by_cars, d_Sureness_ready_in, d_Sureness_is_in_time, d_Sureness_sure, d_Sureness_if_it_goes, d_Sureness_if_cancelled, d_Sureness_worth_of, d_Sureness_car_to_goal, d_Sureness_car_to_ready, d_Sureness_first_going, d_Sureness_to_do, d_Fault_init, d_Line_init, d_Line_is_over, d_Line_place_here, d_Line_refuse, d_Line_word_here, d_Line_take, d_Line_read_name, d_Line_read_place, d_Line_number_here, d_Line_read_number, d_Line_want_end, d_Desk_init, d_Desk_read]
def fn3 : List He.DefD := [d_Desk_leave_out, d_Desk_shift, d_Desk_call]
def fn : List He.DefD := fn0 ++ fn1 ++ fn2 ++ fn3
def fa0 : List He.Fa := [.glo "Place", .glo "Car", .glo "Departure", .glo "Net", .glo "Sureness", .glo "Fault", .glo "Line", .glo "Desk", .glo "number_of", .glo "without", .glo "shifted", .glo "come_tables", .glo "put_shorter", .glo "lesser", .glo "greater", .glo "summed", .glo "behind_car", .glo "behind_going", .glo "played", .glo "worst_case", .glo "last_minute", .glo "just_ready_minutes", .glo "is_step", .glo "profile_of", .glo "bytes_of"]
def fa1 : List He.Fa := [.glo "is_digit", .glo "is_small", .glo "is_name", .glo "is_number", .glo "worth_of", .glo "ends_of_lines", .glo "words_between", .glo "want_room", .glo "read_place_line", .glo "read_car_line", .glo "read_go_line", .glo "read_line", .glo "read_net", .glo "row_of", .glo "net_bytes", .glo "is_as_told", .glo "state_answer", .glo "sure_answer", .glo "table_answer", .glo "next_answer", .glo "play_answer", .glo "profile_answer", .glo "worst_answer", .glo "who_answer", .glo "stands_answer"]
def fa2 : List He.Fa := [.glo "find_answer", .glo "asked_of_ways", .glo "answers", .free "list", .free "enumerate", .free "range", .free "len", .free "sorted", .free "min", .free "max", .free "zip", .free "ord", .free "all", .free "str", .free "dict", .free "ValueError", .int "NONE" (-1), .int "MOST_CANCELLED" (3), .int "AT_GOAL" (0), .int "BY_CAR" (1), .int "BY_GOING" (2), .int "CANCELLED" (3), .int "LINE_END" (10), .int "BLANK" (32), .int "ZERO" (48)]
def fa3 : List He.Fa := [.int "NINE" (57), .int "FIRST_LETTER" (97), .int "LAST_LETTER" (122), .int "LONGEST_NAME" (12), .int "MOST_DIGITS" (6), .int "MOST_PLACES" (8), .int "MOST_CARS" (16), .int "MOST_GOES" (30), .int "MOST_HANDLING" (1000), .int "MOST_LONG" (10000), .int "LAST_MINUTE" (100000), .int "WRONG_WORD" (1), .int "OUT_OF_RANGE" (3), .int "TOLD_BEFORE" (4), .int "NO_SUCH_PLACE" (5), .int "SAME_PLACE" (6), .int "NO_ROOM" (7), .int "NOT_LATER" (8), .int "NOT_AS_TOLD" (-1), .int "NO_PLACE" (-4), .int "NO_NAME" (-5), .int "NOTHING_SURE" (-7), .int "OUT_OF_DAYS" (-8), .glo "SHAPES", .glo "RANGES"]
def fa4 : List He.Fa := [.glo "ROWS", .cls "Place", .mkr "Place", .noat "Place" "name", .noat "Place" "handling", .cls "Car", .mkr "Car", .noat "Car" "name", .noat "Car" "start", .noat "Car" "end", .noat "Car" "long", .cls "Departure", .mkr "Departure", .noat "Departure" "name", .noat "Departure" "start", .noat "Departure" "leaves", .noat "Departure" "end", .noat "Departure" "comes", .cls "Net", .mkr "Net", .noat "Net" "places", .noat "Net" "cars", .noat "Net" "goes", .cls "Sureness", .mkr "Sureness"]
def fa5 : List He.Fa := [.noat "Sureness" "net", .noat "Sureness" "goal", .noat "Sureness" "come", .noat "Sureness" "worths", .meth "Sureness" "by_cars", .meth "Sureness" "ready_in", .meth "Sureness" "is_in_time", .meth "Sureness" "sure", .meth "Sureness" "if_it_goes", .meth "Sureness" "if_cancelled", .meth "Sureness" "worth_of", .meth "Sureness" "car_to_goal", .meth "Sureness" "car_to_ready", .meth "Sureness" "first_going", .meth "Sureness" "to_do", .cls "Line", .mkr "Line", .noat "Line" "words", .noat "Line" "behind", .noat "Line" "turn", .meth "Line" "is_over", .meth "Line" "place_here", .meth "Line" "refuse", .meth "Line" "word_here", .meth "Line" "take"]
def fa6 : List He.Fa := [.meth "Line" "read_name", .meth "Line" "read_place", .meth "Line" "number_here", .meth "Line" "read_number", .meth "Line" "want_end", .cls "Desk", .mkr "Desk", .noat "Desk" "net", .meth "Desk" "read", .meth "Desk" "leave_out", .meth "Desk" "shift", .meth "Desk" "call", .noat "Fault" "kind", .noat "Fault" "at", .exm "Fault" "Fault" true]
def fa : List He.Fa := fa0 ++ fa1 ++ fa2 ++ fa3 ++ fa4 ++ fa5 ++ fa6
/-! ### each fact by its name -/
section
variable {K : PySem.W.Frag} {w : World} {h : Heap} {mg : Str → Option Value} (X : K.In h) (G : h.Ns mainGlobals mg) (c : He.SaysD fa fn K)
include c
include X G in
theorem g_Place : mg "Place" = some (.ref (He.ga K "Place")) := He.glo_ok X G (c.fact 0 (f := .glo "Place") rfl)
include X G in
theorem g_Car : mg "Car" = some (.ref (He.ga K "Car")) := He.glo_ok X G (c.fact 1 (f := .glo "Car") rfl)
include X G in
theorem g_Departure : mg "Departure" = some (.ref (He.ga K "Departure")) := He.glo_ok X G (c.fact 2 (f := .glo "Departure") rfl)
include X G in
theorem g_Net : mg "Net" = some (.ref (He.ga K "Net")) := He.glo_ok X G (c.fact 3 (f := .glo "Net") rfl)
include X G in
theorem g_Sureness : mg "Sureness" = some (.ref (He.ga K "Sureness")) := He.glo_ok X G (c.fact 4 (f := .glo "Sureness") rfl)
include X G in
theorem g_Fault : mg "Fault" = some (.ref (He.ga K "Fault")) := He.glo_ok X G (c.fact 5 (f := .glo "Fault") rfl)
include X G in
theorem g_Line : mg "Line" = some (.ref (He.ga K "Line")) := He.glo_ok X G (c.fact 6 (f := .glo "Line") rfl)
include X G in
theorem g_Desk : mg "Desk" = some (.ref (He.ga K "Desk")) := He.glo_ok X G (c.fact 7 (f := .glo "Desk") rfl)
include X G in
theorem g_number_of : mg "number_of" = some (.ref (He.ga K "number_of")) := He.glo_ok X G (c.fact 8 (f := .glo "number_of") rfl)
include X G in
theorem g_without : mg "without" = some (.ref (He.ga K "without")) := He.glo_ok X G (c.fact 9 (f := .glo "without") rfl)
include X G in
theorem g_shifted : mg "shifted" = some (.ref (He.ga K "shifted")) := He.glo_ok X G (c.fact 10 (f := .glo "shifted") rfl)
include X G in
theorem g_come_tables : mg "come_tables" = some (.ref (He.ga K "come_tables")) := He.glo_ok X G (c.fact 11 (f := .glo "come_tables") rfl)
include X G in
theorem g_put_shorter : mg "put_shorter" = some (.ref (He.ga K "put_shorter")) := He.glo_ok X G (c.fact 12 (f := .glo "put_shorter") rfl)
include X G in
theorem g_lesser : mg "lesser" = some (.ref (He.ga K "lesser")) := He.glo_ok X G (c.fact 13 (f := .glo "lesser") rfl)
include X G in
theorem g_greater : mg "greater" = some (.ref (He.ga K "greater")) := He.glo_ok X G (c.fact 14 (f := .glo "greater") rfl)
include X G in
theorem g_summed : mg "summed" = some (.ref (He.ga K "summed")) := He.glo_ok X G (c.fact 15 (f := .glo "summed") rfl)
include X G in
theorem g_behind_car : mg "behind_car" = some (.ref (He.ga K "behind_car")) := He.glo_ok X G (c.fact 16 (f := .glo "behind_car") rfl)
include X G in
theorem g_behind_going : mg "behind_going" = some (.ref (He.ga K "behind_going")) := He.glo_ok X G (c.fact 17 (f := .glo "behind_going") rfl)
include X G in
theorem g_played : mg "played" = some (.ref (He.ga K "played")) := He.glo_ok X G (c.fact 18 (f := .glo "played") rfl)
include X G in
theorem g_worst_case : mg "worst_case" = some (.ref (He.ga K "worst_case")) := He.glo_ok X G (c.fact 19 (f := .glo "worst_case") rfl)
include X G in
theorem g_last_minute : mg "last_minute" = some (.ref (He.ga K "last_minute")) := He.glo_ok X G (c.fact 20 (f := .glo "last_minute") rfl)
include X G in
theorem g_just_ready_minutes : mg "just_ready_minutes" = some (.ref (He.ga K "just_ready_minutes")) := He.glo_ok X G (c.fact 21 (f := .glo "just_ready_minutes") rfl)
include X G in
theorem g_is_step : mg "is_step" = some (.ref (He.ga K "is_step")) := He.glo_ok X G (c.fact 22 (f := .glo "is_step") rfl)
include X G in
theorem g_profile_of : mg "profile_of" = some (.ref (He.ga K "profile_of")) := He.glo_ok X G (c.fact 23 (f := .glo "profile_of") rfl)
include X G in
theorem g_bytes_of : mg "bytes_of" = some (.ref (He.ga K "bytes_of")) := He.glo_ok X G (c.fact 24 (f := .glo "bytes_of") rfl)
include X G in
theorem g_is_digit : mg "is_digit" = some (.ref (He.ga K "is_digit")) := He.glo_ok X G (c.fact 25 (f := .glo "is_digit") rfl)
include X G in
theorem g_is_small : mg "is_small" = some (.ref (He.ga K "is_small")) := He.glo_ok X G (c.fact 26 (f := .glo "is_small") rfl)
include X G in
theorem g_is_name : mg "is_name" = some (.ref (He.ga K "is_name")) := He.glo_ok X G (c.fact 27 (f := .glo "is_name") rfl)
include X G in
theorem g_is_number : mg "is_number" = some (.ref (He.ga K "is_number")) := He.glo_ok X G (c.fact 28 (f := .glo "is_number") rfl)
include X G in
theorem g_worth_of : mg "worth_of" = some (.ref (He.ga K "worth_of")) := He.glo_ok X G (c.fact 29 (f := .glo "worth_of") rfl)
include X G in
theorem g_ends_of_lines : mg "ends_of_lines" = some (.ref (He.ga K "ends_of_lines")) := He.glo_ok X G (c.fact 30 (f := .glo "ends_of_lines") rfl)
include X G in
theorem g_words_between : mg "words_between" = some (.ref (He.ga K "words_between")) := He.glo_ok X G (c.fact 31 (f := .glo "words_between") rfl)
include X G in
theorem g_want_room : mg "want_room" = some (.ref (He.ga K "want_room")) := He.glo_ok X G (c.fact 32 (f := .glo "want_room") rfl)
include X G in
theorem g_read_place_line : mg "read_place_line" = some (.ref (He.ga K "read_place_line")) := He.glo_ok X G (c.fact 33 (f := .glo "read_place_line") rfl)
include X G in
theorem g_read_car_line : mg "read_car_line" = some (.ref (He.ga K "read_car_line")) := He.glo_ok X G (c.fact 34 (f := .glo "read_car_line") rfl)
include X G in
theorem g_read_go_line : mg "read_go_line" = some (.ref (He.ga K "read_go_line")) := He.glo_ok X G (c.fact 35 (f := .glo "read_go_line") rfl)
include X G in
theorem g_read_line : mg "read_line" = some (.ref (He.ga K "read_line")) := He.glo_ok X G (c.fact 36 (f := .glo "read_line") rfl)
include X G in
theorem g_read_net : mg "read_net" = some (.ref (He.ga K "read_net")) := He.glo_ok X G (c.fact 37 (f := .glo "read_net") rfl)
include X G in
theorem g_row_of : mg "row_of" = some (.ref (He.ga K "row_of")) := He.glo_ok X G (c.fact 38 (f := .glo "row_of") rfl)
include X G in
theorem g_net_bytes : mg "net_bytes" = some (.ref (He.ga K "net_bytes")) := He.glo_ok X G (c.fact 39 (f := .glo "net_bytes") rfl)
include X G in
theorem g_is_as_told : mg "is_as_told" = some (.ref (He.ga K "is_as_told")) := He.glo_ok X G (c.fact 40 (f := .glo "is_as_told") rfl)
include X G in
theorem g_state_answer : mg "state_answer" = some (.ref (He.ga K "state_answer")) := He.glo_ok X G (c.fact 41 (f := .glo "state_answer") rfl)
include X G in
theorem g_sure_answer : mg "sure_answer" = some (.ref (He.ga K "sure_answer")) := He.glo_ok X G (c.fact 42 (f := .glo "sure_answer") rfl)
include X G in
theorem g_table_answer : mg "table_answer" = some (.ref (He.ga K "table_answer")) := He.glo_ok X G (c.fact 43 (f := .glo "table_answer") rfl)
include X G in
theorem g_next_answer : mg "next_answer" = some (.ref (He.ga K "next_answer")) := He.glo_ok X G (c.fact 44 (f := .glo "next_answer") rfl)
include X G in
theorem g_play_answer : mg "play_answer" = some (.ref (He.ga K "play_answer")) := He.glo_ok X G (c.fact 45 (f := .glo "play_answer") rfl)
include X G in
theorem g_profile_answer : mg "profile_answer" = some (.ref (He.ga K "profile_answer")) := He.glo_ok X G (c.fact 46 (f := .glo "profile_answer") rfl)
include X G in
theorem g_worst_answer : mg "worst_answer" = some (.ref (He.ga K "worst_answer")) := He.glo_ok X G (c.fact 47 (f := .glo "worst_answer") rfl)
include X G in
theorem g_who_answer : mg "who_answer" = some (.ref (He.ga K "who_answer")) := He.glo_ok X G (c.fact 48 (f := .glo "who_answer") rfl)
include X G in
theorem g_stands_answer : mg "stands_answer" = some (.ref (He.ga K "stands_answer")) := He.glo_ok X G (c.fact 49 (f := .glo "stands_answer") rfl)
include X G in
theorem g_find_answer : mg "find_answer" = some (.ref (He.ga K "find_answer")) := He.glo_ok X G (c.fact 50 (f := .glo "find_answer") rfl)
include X G in
theorem g_asked_of_ways : mg "asked_of_ways" = some (.ref (He.ga K "asked_of_ways")) := He.glo_ok X G (c.fact 51 (f := .glo "asked_of_ways") rfl)
include X G in
theorem g_answers : mg "answers" = some (.ref (He.ga K "answers")) := He.glo_ok X G (c.fact 52 (f := .glo "answers") rfl)
include X G in
theorem b_list : mg "list" = none := He.free_ok X G (c.fact 53 (f := .free "list") rfl)
include X G in
theorem b_enumerate : mg "enumerate" = none := He.free_ok X G (c.fact 54 (f := .free "enumerate") rfl)
include X G in
theorem b_range : mg "range" = none := He.free_ok X G (c.fact 55 (f := .free "range") rfl)
include X G in
theorem b_len : mg "len" = none := He.free_ok X G (c.fact 56 (f := .free "len") rfl)
include X G in
theorem b_sorted : mg "sorted" = none := He.free_ok X G (c.fact 57 (f := .free "sorted") rfl)
include X G in
theorem b_min : mg "min" = none := He.free_ok X G (c.fact 58 (f := .free "min") rfl)
include X G in
theorem b_max : mg "max" = none := He.free_ok X G (c.fact 59 (f := .free "max") rfl)
include X G in
theorem b_zip : mg "zip" = none := He.free_ok X G (c.fact 60 (f := .free "zip") rfl)
include X G in
theorem b_ord : mg "ord" = none := He.free_ok X G (c.fact 61 (f := .free "ord") rfl)
include X G in
theorem b_all : mg "all" = none := He.free_ok X G (c.fact 62 (f := .free "all") rfl)
include X G in
theorem b_str : mg "str" = none := He.free_ok X G (c.fact 63 (f := .free "str") rfl)
include X G in
theorem b_dict : mg "dict" = none := He.free_ok X G (c.fact 64 (f := .free "dict") rfl)
include X G in
theorem b_ValueError : mg "ValueError" = none := He.free_ok X G (c.fact 65 (f := .free "ValueError") rfl)
include X G in
theorem i_NONE : ∃ t, mg "NONE" = some (.int (-1) t) := He.int_ok X G (c.fact 66 (f := .int "NONE" (-1)) rfl)
include X G in
theorem i_MOST_CANCELLED : ∃ t, mg "MOST_CANCELLED" = some (.int (3) t) := He.int_ok X G (c.fact 67 (f := .int "MOST_CANCELLED" (3)) rfl)
include X G in
theorem i_AT_GOAL : ∃ t, mg "AT_GOAL" = some (.int (0) t) := He.int_ok X G (c.fact 68 (f := .int "AT_GOAL" (0)) rfl)
include X G in
theorem i_BY_CAR : ∃ t, mg "BY_CAR" = some (.int (1) t) := He.int_ok X G (c.fact 69 (f := .int "BY_CAR" (1)) rfl)
include X G in
theorem i_BY_GOING : ∃ t, mg "BY_GOING" = some (.int (2) t) := He.int_ok X G (c.fact 70 (f := .int "BY_GOING" (2)) rfl)
include X G in
theorem i_CANCELLED : ∃ t, mg "CANCELLED" = some (.int (3) t) := He.int_ok X G (c.fact 71 (f := .int "CANCELLED" (3)) rfl)
include X G in
theorem i_LINE_END : ∃ t, mg "LINE_END" = some (.int (10) t) := He.int_ok X G (c.fact 72 (f := .int "LINE_END" (10)) rfl)
include X G in
theorem i_BLANK : ∃ t, mg "BLANK" = some (.int (32) t) := He.int_ok X G (c.fact 73 (f := .int "BLANK" (32)) rfl)
include X G in
theorem i_ZERO : ∃ t, mg "ZERO" = some (.int (48) t) := He.int_ok X G (c.fact 74 (f := .int "ZERO" (48)) rfl)
include X G in
theorem i_NINE : ∃ t, mg "NINE" = some (.int (57) t) := He.int_ok X G (c.fact 75 (f := .int "NINE" (57)) rfl)
include X G in
theorem i_FIRST_LETTER : ∃ t, mg "FIRST_LETTER" = some (.int (97) t) := He.int_ok X G (c.fact 76 (f := .int "FIRST_LETTER" (97)) rfl)
include X G in
theorem i_LAST_LETTER : ∃ t, mg "LAST_LETTER" = some (.int (122) t) := He.int_ok X G (c.fact 77 (f := .int "LAST_LETTER" (122)) rfl)
include X G in
theorem i_LONGEST_NAME : ∃ t, mg "LONGEST_NAME" = some (.int (12) t) := He.int_ok X G (c.fact 78 (f := .int "LONGEST_NAME" (12)) rfl)
include X G in
theorem i_MOST_DIGITS : ∃ t, mg "MOST_DIGITS" = some (.int (6) t) := He.int_ok X G (c.fact 79 (f := .int "MOST_DIGITS" (6)) rfl)
include X G in
theorem i_MOST_PLACES : ∃ t, mg "MOST_PLACES" = some (.int (8) t) := He.int_ok X G (c.fact 80 (f := .int "MOST_PLACES" (8)) rfl)
include X G in
theorem i_MOST_CARS : ∃ t, mg "MOST_CARS" = some (.int (16) t) := He.int_ok X G (c.fact 81 (f := .int "MOST_CARS" (16)) rfl)
include X G in
theorem i_MOST_GOES : ∃ t, mg "MOST_GOES" = some (.int (30) t) := He.int_ok X G (c.fact 82 (f := .int "MOST_GOES" (30)) rfl)
include X G in
theorem i_MOST_HANDLING : ∃ t, mg "MOST_HANDLING" = some (.int (1000) t) := He.int_ok X G (c.fact 83 (f := .int "MOST_HANDLING" (1000)) rfl)
include X G in
theorem i_MOST_LONG : ∃ t, mg "MOST_LONG" = some (.int (10000) t) := He.int_ok X G (c.fact 84 (f := .int "MOST_LONG" (10000)) rfl)
include X G in
theorem i_LAST_MINUTE : ∃ t, mg "LAST_MINUTE" = some (.int (100000) t) := He.int_ok X G (c.fact 85 (f := .int "LAST_MINUTE" (100000)) rfl)
include X G in
theorem i_WRONG_WORD : ∃ t, mg "WRONG_WORD" = some (.int (1) t) := He.int_ok X G (c.fact 86 (f := .int "WRONG_WORD" (1)) rfl)
include X G in
theorem i_OUT_OF_RANGE : ∃ t, mg "OUT_OF_RANGE" = some (.int (3) t) := He.int_ok X G (c.fact 87 (f := .int "OUT_OF_RANGE" (3)) rfl)
include X G in
theorem i_TOLD_BEFORE : ∃ t, mg "TOLD_BEFORE" = some (.int (4) t) := He.int_ok X G (c.fact 88 (f := .int "TOLD_BEFORE" (4)) rfl)
include X G in
theorem i_NO_SUCH_PLACE : ∃ t, mg "NO_SUCH_PLACE" = some (.int (5) t) := He.int_ok X G (c.fact 89 (f := .int "NO_SUCH_PLACE" (5)) rfl)
include X G in
theorem i_SAME_PLACE : ∃ t, mg "SAME_PLACE" = some (.int (6) t) := He.int_ok X G (c.fact 90 (f := .int "SAME_PLACE" (6)) rfl)
include X G in
theorem i_NO_ROOM : ∃ t, mg "NO_ROOM" = some (.int (7) t) := He.int_ok X G (c.fact 91 (f := .int "NO_ROOM" (7)) rfl)
include X G in
theorem i_NOT_LATER : ∃ t, mg "NOT_LATER" = some (.int (8) t) := He.int_ok X G (c.fact 92 (f := .int "NOT_LATER" (8)) rfl)
include X G in
theorem i_NOT_AS_TOLD : ∃ t, mg "NOT_AS_TOLD" = some (.int (-1) t) := He.int_ok X G (c.fact 93 (f := .int "NOT_AS_TOLD" (-1)) rfl)
include X G in
theorem i_NO_PLACE : ∃ t, mg "NO_PLACE" = some (.int (-4) t) := He.int_ok X G (c.fact 94 (f := .int "NO_PLACE" (-4)) rfl)
include X G in
theorem i_NO_NAME : ∃ t, mg "NO_NAME" = some (.int (-5) t) := He.int_ok X G (c.fact 95 (f := .int "NO_NAME" (-5)) rfl)
include X G in
theorem i_NOTHING_SURE : ∃ t, mg "NOTHING_SURE" = some (.int (-7) t) := He.int_ok X G (c.fact 96 (f := .int "NOTHING_SURE" (-7)) rfl)
include X G in
theorem i_OUT_OF_DAYS : ∃ t, mg "OUT_OF_DAYS" = some (.int (-8) t) := He.int_ok X G (c.fact 97 (f := .int "OUT_OF_DAYS" (-8)) rfl)
include X G in
theorem g_SHAPES : mg "SHAPES" = some (.ref (He.ga K "SHAPES")) := He.glo_ok X G (c.fact 98 (f := .glo "SHAPES") rfl)
include X G in
theorem g_RANGES : mg "RANGES" = some (.ref (He.ga K "RANGES")) := He.glo_ok X G (c.fact 99 (f := .glo "RANGES") rfl)
include X G in
theorem g_ROWS : mg "ROWS" = some (.ref (He.ga K "ROWS")) := He.glo_ok X G (c.fact 100 (f := .glo "ROWS") rfl)
theorem c_Place : Cls K (He.ga K "Place") := He.cls_ok (c.fact 101 (f := .cls "Place") rfl)
theorem k_Place : Mk K (He.ga K "Place") (He.ma K (He.ga K "Place") "__init__") := He.mkr_ok (c.fact 102 (f := .mkr "Place") rfl)
theorem n_Place_name : NoAttr K (He.ga K "Place") "name" := He.noat_ok (c.fact 103 (f := .noat "Place" "name") rfl)
theorem n_Place_handling : NoAttr K (He.ga K "Place") "handling" := He.noat_ok (c.fact 104 (f := .noat "Place" "handling") rfl)
theorem c_Car : Cls K (He.ga K "Car") := He.cls_ok (c.fact 105 (f := .cls "Car") rfl)
theorem k_Car : Mk K (He.ga K "Car") (He.ma K (He.ga K "Car") "__init__") := He.mkr_ok (c.fact 106 (f := .mkr "Car") rfl)
theorem n_Car_name : NoAttr K (He.ga K "Car") "name" := He.noat_ok (c.fact 107 (f := .noat "Car" "name") rfl)
theorem n_Car_start : NoAttr K (He.ga K "Car") "start" := He.noat_ok (c.fact 108 (f := .noat "Car" "start") rfl)
theorem n_Car_end : NoAttr K (He.ga K "Car") "end" := He.noat_ok (c.fact 109 (f := .noat "Car" "end") rfl)
theorem n_Car_long : NoAttr K (He.ga K "Car") "long" := He.noat_ok (c.fact 110 (f := .noat "Car" "long") rfl)
theorem c_Departure : Cls K (He.ga K "Departure") := He.cls_ok (c.fact 111 (f := .cls "Departure") rfl)
theorem k_Departure : Mk K (He.ga K "Departure") (He.ma K (He.ga K "Departure") "__init__") := He.mkr_ok (c.fact 112 (f := .mkr "Departure") rfl)
theorem n_Departure_name : NoAttr K (He.ga K "Departure") "name" := He.noat_ok (c.fact 113 (f := .noat "Departure" "name") rfl)
theorem n_Departure_start : NoAttr K (He.ga K "Departure") "start" := He.noat_ok (c.fact 114 (f := .noat "Departure" "start") rfl)
theorem n_Departure_leaves : NoAttr K (He.ga K "Departure") "leaves" := He.noat_ok (c.fact 115 (f := .noat "Departure" "leaves") rfl)
theorem n_Departure_end : NoAttr K (He.ga K "Departure") "end" := He.noat_ok (c.fact 116 (f := .noat "Departure" "end") rfl)
theorem n_Departure_comes : NoAttr K (He.ga K "Departure") "comes" := He.noat_ok (c.fact 117 (f := .noat "Departure" "comes") rfl)
theorem c_Net : Cls K (He.ga K "Net") := He.cls_ok (c.fact 118 (f := .cls "Net") rfl)
theorem k_Net : Mk K (He.ga K "Net") (He.ma K (He.ga K "Net") "__init__") := He.mkr_ok (c.fact 119 (f := .mkr "Net") rfl)
theorem n_Net_places : NoAttr K (He.ga K "Net") "places" := He.noat_ok (c.fact 120 (f := .noat "Net" "places") rfl)
theorem n_Net_cars : NoAttr K (He.ga K "Net") "cars" := He.noat_ok (c.fact 121 (f := .noat "Net" "cars") rfl)
theorem n_Net_goes : NoAttr K (He.ga K "Net") "goes" := He.noat_ok (c.fact 122 (f := .noat "Net" "goes") rfl)
theorem c_Sureness : Cls K (He.ga K "Sureness") := He.cls_ok (c.fact 123 (f := .cls "Sureness") rfl)
theorem k_Sureness : Mk K (He.ga K "Sureness") (He.ma K (He.ga K "Sureness") "__init__") := He.mkr_ok (c.fact 124 (f := .mkr "Sureness") rfl)
theorem n_Sureness_net : NoAttr K (He.ga K "Sureness") "net" := He.noat_ok (c.fact 125 (f := .noat "Sureness" "net") rfl)
theorem n_Sureness_goal : NoAttr K (He.ga K "Sureness") "goal" := He.noat_ok (c.fact 126 (f := .noat "Sureness" "goal") rfl)
theorem n_Sureness_come : NoAttr K (He.ga K "Sureness") "come" := He.noat_ok (c.fact 127 (f := .noat "Sureness" "come") rfl)
theorem n_Sureness_worths : NoAttr K (He.ga K "Sureness") "worths" := He.noat_ok (c.fact 128 (f := .noat "Sureness" "worths") rfl)
theorem m_Sureness_by_cars : Meth K (He.ga K "Sureness") "by_cars" (He.ma K (He.ga K "Sureness") "by_cars") := He.meth_ok (c.fact 129 (f := .meth "Sureness" "by_cars") rfl)
theorem m_Sureness_ready_in : Meth K (He.ga K "Sureness") "ready_in" (He.ma K (He.ga K "Sureness") "ready_in") := He.meth_ok (c.fact 130 (f := .meth "Sureness" "ready_in") rfl)
theorem m_Sureness_is_in_time : Meth K (He.ga K "Sureness") "is_in_time" (He.ma K (He.ga K "Sureness") "is_in_time") := He.meth_ok (c.fact 131 (f := .meth "Sureness" "is_in_time") rfl)
theorem m_Sureness_sure : Meth K (He.ga K "Sureness") "sure" (He.ma K (He.ga K "Sureness") "sure") := He.meth_ok (c.fact 132 (f := .meth "Sureness" "sure") rfl)
theorem m_Sureness_if_it_goes : Meth K (He.ga K "Sureness") "if_it_goes" (He.ma K (He.ga K "Sureness") "if_it_goes") := He.meth_ok (c.fact 133 (f := .meth "Sureness" "if_it_goes") rfl)
theorem m_Sureness_if_cancelled : Meth K (He.ga K "Sureness") "if_cancelled" (He.ma K (He.ga K "Sureness") "if_cancelled") := He.meth_ok (c.fact 134 (f := .meth "Sureness" "if_cancelled") rfl)
theorem m_Sureness_worth_of : Meth K (He.ga K "Sureness") "worth_of" (He.ma K (He.ga K "Sureness") "worth_of") := He.meth_ok (c.fact 135 (f := .meth "Sureness" "worth_of") rfl)
theorem m_Sureness_car_to_goal : Meth K (He.ga K "Sureness") "car_to_goal" (He.ma K (He.ga K "Sureness") "car_to_goal") := He.meth_ok (c.fact 136 (f := .meth "Sureness" "car_to_goal") rfl)
theorem m_Sureness_car_to_ready : Meth K (He.ga K "Sureness") "car_to_ready" (He.ma K (He.ga K "Sureness") "car_to_ready") := He.meth_ok (c.fact 137 (f := .meth "Sureness" "car_to_ready") rfl)
theorem m_Sureness_first_going : Meth K (He.ga K "Sureness") "first_going" (He.ma K (He.ga K "Sureness") "first_going") := He.meth_ok (c.fact 138 (f := .meth "Sureness" "first_going") rfl)
theorem m_Sureness_to_do : Meth K (He.ga K "Sureness") "to_do" (He.ma K (He.ga K "Sureness") "to_do") := He.meth_ok (c.fact 139 (f := .meth "Sureness" "to_do") rfl)
theorem c_Line : Cls K (He.ga K "Line") := He.cls_ok (c.fact 140 (f := .cls "Line") rfl)
theorem k_Line : Mk K (He.ga K "Line") (He.ma K (He.ga K "Line") "__init__") := He.mkr_ok (c.fact 141 (f := .mkr "Line") rfl)
theorem n_Line_words : NoAttr K (He.ga K "Line") "words" := He.noat_ok (c.fact 142 (f := .noat "Line" "words") rfl)
theorem n_Line_behind : NoAttr K (He.ga K "Line") "behind" := He.noat_ok (c.fact 143 (f := .noat "Line" "behind") rfl)
theorem n_Line_turn : NoAttr K (He.ga K "Line") "turn" := He.noat_ok (c.fact 144 (f := .noat "Line" "turn") rfl)
theorem m_Line_is_over : Meth K (He.ga K "Line") "is_over" (He.ma K (He.ga K "Line") "is_over") := He.meth_ok (c.fact 145 (f := .meth "Line" "is_over") rfl)
theorem m_Line_place_here : Meth K (He.ga K "Line") "place_here" (He.ma K (He.ga K "Line") "place_here") := He.meth_ok (c.fact 146 (f := .meth "Line" "place_here") rfl)
theorem m_Line_refuse : Meth K (He.ga K "Line") "refuse" (He.ma K (He.ga K "Line") "refuse") := He.meth_ok (c.fact 147 (f := .meth "Line" "refuse") rfl)
theorem m_Line_word_here : Meth K (He.ga K "Line") "word_here" (He.ma K (He.ga K "Line") "word_here") := He.meth_ok (c.fact 148 (f := .meth "Line" "word_here") rfl)
theorem m_Line_take : Meth K (He.ga K "Line") "take" (He.ma K (He.ga K "Line") "take") := He.meth_ok (c.fact 149 (f := .meth "Line" "take") rfl)
theorem m_Line_read_name : Meth K (He.ga K "Line") "read_name" (He.ma K (He.ga K "Line") "read_name") := He.meth_ok (c.fact 150 (f := .meth "Line" "read_name") rfl)
theorem m_Line_read_place : Meth K (He.ga K "Line") "read_place" (He.ma K (He.ga K "Line") "read_place") := He.meth_ok (c.fact 151 (f := .meth "Line" "read_place") rfl)
theorem m_Line_number_here : Meth K (He.ga K "Line") "number_here" (He.ma K (He.ga K "Line") "number_here") := He.meth_ok (c.fact 152 (f := .meth "Line" "number_here") rfl)
theorem m_Line_read_number : Meth K (He.ga K "Line") "read_number" (He.ma K (He.ga K "Line") "read_number") := He.meth_ok (c.fact 153 (f := .meth "Line" "read_number") rfl)
theorem m_Line_want_end : Meth K (He.ga K "Line") "want_end" (He.ma K (He.ga K "Line") "want_end") := He.meth_ok (c.fact 154 (f := .meth "Line" "want_end") rfl)
theorem c_Desk : Cls K (He.ga K "Desk") := He.cls_ok (c.fact 155 (f := .cls "Desk") rfl)
theorem k_Desk : Mk K (He.ga K "Desk") (He.ma K (He.ga K "Desk") "__init__") := He.mkr_ok (c.fact 156 (f := .mkr "Desk") rfl)
theorem n_Desk_net : NoAttr K (He.ga K "Desk") "net" := He.noat_ok (c.fact 157 (f := .noat "Desk" "net") rfl)
theorem m_Desk_read : Meth K (He.ga K "Desk") "read" (He.ma K (He.ga K "Desk") "read") := He.meth_ok (c.fact 158 (f := .meth "Desk" "read") rfl)
theorem m_Desk_leave_out : Meth K (He.ga K "Desk") "leave_out" (He.ma K (He.ga K "Desk") "leave_out") := He.meth_ok (c.fact 159 (f := .meth "Desk" "leave_out") rfl)
theorem m_Desk_shift : Meth K (He.ga K "Desk") "shift" (He.ma K (He.ga K "Desk") "shift") := He.meth_ok (c.fact 160 (f := .meth "Desk" "shift") rfl)
theorem m_Desk_call : Meth K (He.ga K "Desk") "call" (He.ma K (He.ga K "Desk") "call") := He.meth_ok (c.fact 161 (f := .meth "Desk" "call") rfl)
theorem n_Fault_kind : NoAttr K (He.ga K "Fault") "kind" := He.noat_ok (c.fact 162 (f := .noat "Fault" "kind") rfl)
theorem n_Fault_at : NoAttr K (He.ga K "Fault") "at" := He.noat_ok (c.fact 163 (f := .noat "Fault" "at") rfl)
theorem x_Fault : PySem.W.exmOne K (.ref (He.ga K "Fault")) (.ref (He.ga K "Fault")) = some true := He.exm_ok (c.fact 164 (f := .exm "Fault" "Fault" true) rfl)
theorem f_number_of : ∃ fd, FunD K "number_of" "number_of" (defArgs s_number_of) (defBody s_number_of) (defScope s_number_of) [] [] (He.fAd K ("number_of", none)) fd := c.def_ 0 (d := d_number_of) rfl
theorem f_without : ∃ fd, FunD K "without" "without" (defArgs s_without) (defBody s_without) (defScope s_without) [] [] (He.fAd K ("without", none)) fd := c.def_ 1 (d := d_without) rfl
theorem f_shifted : ∃ fd, FunD K "shifted" "shifted" (defArgs s_shifted) (defBody s_shifted) (defScope s_shifted) [] [] (He.fAd K ("shifted", none)) fd := c.def_ 2 (d := d_shifted) rfl
theorem f_come_tables : ∃ fd, FunD K "come_tables" "come_tables" (defArgs s_come_tables) (defBody s_come_tables) (defScope s_come_tables) [] [] (He.fAd K ("come_tables", none)) fd := c.def_ 3 (d := d_come_tables) rfl
theorem f_put_shorter : ∃ fd, FunD K "put_shorter" "put_shorter" (defArgs s_put_shorter) (defBody s_put_shorter) (defScope s_put_shorter) [] [] (He.fAd K ("put_shorter", none)) fd := c.def_ 4 (d := d_put_shorter) rfl
theorem f_lesser : ∃ fd, FunD K "lesser" "lesser" (defArgs s_lesser) (defBody s_lesser) (defScope s_lesser) [] [] (He.fAd K ("lesser", none)) fd := c.def_ 5 (d := d_lesser) rfl
theorem f_greater : ∃ fd, FunD K "greater" "greater" (defArgs s_greater) (defBody s_greater) (defScope s_greater) [] [] (He.fAd K ("greater", none)) fd := c.def_ 6 (d := d_greater) rfl
theorem f_summed : ∃ fd, FunD K "summed" "summed" (defArgs s_summed) (defBody s_summed) (defScope s_summed) [] [] (He.fAd K ("summed", none)) fd := c.def_ 7 (d := d_summed) rfl
theorem f_behind_car : ∃ fd, FunD K "behind_car" "behind_car" (defArgs s_behind_car) (defBody s_behind_car) (defScope s_behind_car) [] [] (He.fAd K ("behind_car", none)) fd := c.def_ 8 (d := d_behind_car) rfl
theorem f_behind_going : ∃ fd, FunD K "behind_going" "behind_going" (defArgs s_behind_going) (defBody s_behind_going) (defScope s_behind_going) [] [] (He.fAd K ("behind_going", none)) fd := c.def_ 9 (d := d_behind_going) rfl
theorem f_played : ∃ fd, FunD K "played" "played" (defArgs s_played) (defBody s_played) (defScope s_played) [] [] (He.fAd K ("played", none)) fd := c.def_ 10 (d := d_played) rfl
theorem f_worst_case : ∃ fd, FunD K "worst_case" "worst_case" (defArgs s_worst_case) (defBody s_worst_case) (defScope s_worst_case) [] [] (He.fAd K ("worst_case", none)) fd := c.def_ 11 (d := d_worst_case) rfl
theorem f_last_minute : ∃ fd, FunD K "last_minute" "last_minute" (defArgs s_last_minute) (defBody s_last_minute) (defScope s_last_minute) [] [] (He.fAd K ("last_minute", none)) fd := c.def_ 12 (d := d_last_minute) rfl
theorem f_just_ready_minutes : ∃ fd, FunD K "just_ready_minutes" "just_ready_minutes" (defArgs s_just_ready_minutes) (defBody s_just_ready_minutes) (defScope s_just_ready_minutes) [] [] (He.fAd K ("just_ready_minutes", none)) fd := c.def_ 13 (d := d_just_ready_minutes) rfl
theorem f_is_step : ∃ fd, FunD K "is_step" "is_step" (defArgs s_is_step) (defBody s_is_step) (defScope s_is_step) [] [] (He.fAd K ("is_step", none)) fd := c.def_ 14 (d := d_is_step) rfl
theorem f_profile_of : ∃ fd, FunD K "profile_of" "profile_of" (defArgs s_profile_of) (defBody s_profile_of) (defScope s_profile_of) [] [] (He.fAd K ("profile_of", none)) fd := c.def_ 15 (d := d_profile_of) rfl
theorem f_bytes_of : ∃ fd, FunD K "bytes_of" "bytes_of" (defArgs s_bytes_of) (defBody s_bytes_of) (defScope s_bytes_of) [] [] (He.fAd K ("bytes_of", none)) fd := c.def_ 16 (d := d_bytes_of) rfl
theorem f_is_digit : ∃ fd, FunD K "is_digit" "is_digit" (defArgs s_is_digit) (defBody s_is_digit) (defScope s_is_digit) [] [] (He.fAd K ("is_digit", none)) fd := c.def_ 17 (d := d_is_digit) rfl
theorem f_is_small : ∃ fd, FunD K "is_small" "is_small" (defArgs s_is_small) (defBody s_is_small) (defScope s_is_small) [] [] (He.fAd K ("is_small", none)) fd := c.def_ 18 (d := d_is_small) rfl
theorem f_is_name : ∃ fd, FunD K "is_name" "is_name" (defArgs s_is_name) (defBody s_is_name) (defScope s_is_name) [] [] (He.fAd K ("is_name", none)) fd := c.def_ 19 (d := d_is_name) rfl
theorem f_is_number : ∃ fd, FunD K "is_number" "is_number" (defArgs s_is_number) (defBody s_is_number) (defScope s_is_number) [] [] (He.fAd K ("is_number", none)) fd := c.def_ 20 (d := d_is_number) rfl
theorem f_worth_of : ∃ fd, FunD K "worth_of" "worth_of" (defArgs s_worth_of) (defBody s_worth_of) (defScope s_worth_of) [] [] (He.fAd K ("worth_of", none)) fd := c.def_ 21 (d := d_worth_of) rfl
theorem f_ends_of_lines : ∃ fd, FunD K "ends_of_lines" "ends_of_lines" (defArgs s_ends_of_lines) (defBody s_ends_of_lines) (defScope s_ends_of_lines) [] [] (He.fAd K ("ends_of_lines", none)) fd := c.def_ 22 (d := d_ends_of_lines) rfl
theorem f_words_between : ∃ fd, FunD K "words_between" "words_between" (defArgs s_words_between) (defBody s_words_between) (defScope s_words_between) [] [] (He.fAd K ("words_between", none)) fd := c.def_ 23 (d := d_words_between) rfl
theorem f_want_room : ∃ fd, FunD K "want_room" "want_room" (defArgs s_want_room) (defBody s_want_room) (defScope s_want_room) [] [] (He.fAd K ("want_room", none)) fd := c.def_ 24 (d := d_want_room) rfl
theorem f_read_place_line : ∃ fd, FunD K "read_place_line" "read_place_line" (defArgs s_read_place_line) (defBody s_read_place_line) (defScope s_read_place_line) [] [] (He.fAd K ("read_place_line", none)) fd := c.def_ 25 (d := d_read_place_line) rfl
theorem f_read_car_line : ∃ fd, FunD K "read_car_line" "read_car_line" (defArgs s_read_car_line) (defBody s_read_car_line) (defScope s_read_car_line) [] [] (He.fAd K ("read_car_line", none)) fd := c.def_ 26 (d := d_read_car_line) rfl
theorem f_read_go_line : ∃ fd, FunD K "read_go_line" "read_go_line" (defArgs s_read_go_line) (defBody s_read_go_line) (defScope s_read_go_line) [] [] (He.fAd K ("read_go_line", none)) fd := c.def_ 27 (d := d_read_go_line) rfl
theorem f_read_line : ∃ fd, FunD K "read_line" "read_line" (defArgs s_read_line) (defBody s_read_line) (defScope s_read_line) [] [] (He.fAd K ("read_line", none)) fd := c.def_ 28 (d := d_read_line) rfl
theorem f_read_net : ∃ fd, FunD K "read_net" "read_net" (defArgs s_read_net) (defBody s_read_net) (defScope s_read_net) [] [] (He.fAd K ("read_net", none)) fd := c.def_ 29 (d := d_read_net) rfl
theorem f_row_of : ∃ fd, FunD K "row_of" "row_of" (defArgs s_row_of) (defBody s_row_of) (defScope s_row_of) [] [] (He.fAd K ("row_of", none)) fd := c.def_ 30 (d := d_row_of) rfl
theorem f_net_bytes : ∃ fd, FunD K "net_bytes" "net_bytes" (defArgs s_net_bytes) (defBody s_net_bytes) (defScope s_net_bytes) [] [] (He.fAd K ("net_bytes", none)) fd := c.def_ 31 (d := d_net_bytes) rfl
theorem f_is_as_told : ∃ fd, FunD K "is_as_told" "is_as_told" (defArgs s_is_as_told) (defBody s_is_as_told) (defScope s_is_as_told) [] [] (He.fAd K ("is_as_told", none)) fd := c.def_ 32 (d := d_is_as_told) rfl
theorem f_state_answer : ∃ fd, FunD K "state_answer" "state_answer" (defArgs s_state_answer) (defBody s_state_answer) (defScope s_state_answer) [] [] (He.fAd K ("state_answer", none)) fd := c.def_ 33 (d := d_state_answer) rfl
theorem f_sure_answer : ∃ fd, FunD K "sure_answer" "sure_answer" (defArgs s_sure_answer) (defBody s_sure_answer) (defScope s_sure_answer) [] [] (He.fAd K ("sure_answer", none)) fd := c.def_ 34 (d := d_sure_answer) rfl
theorem f_table_answer : ∃ fd, FunD K "table_answer" "table_answer" (defArgs s_table_answer) (defBody s_table_answer) (defScope s_table_answer) [] [] (He.fAd K ("table_answer", none)) fd := c.def_ 35 (d := d_table_answer) rfl
theorem f_next_answer : ∃ fd, FunD K "next_answer" "next_answer" (defArgs s_next_answer) (defBody s_next_answer) (defScope s_next_answer) [] [] (He.fAd K ("next_answer", none)) fd := c.def_ 36 (d := d_next_answer) rfl
theorem f_play_answer : ∃ fd, FunD K "play_answer" "play_answer" (defArgs s_play_answer) (defBody s_play_answer) (defScope s_play_answer) [] [] (He.fAd K ("play_answer", none)) fd := c.def_ 37 (d := d_play_answer) rfl
theorem f_profile_answer : ∃ fd, FunD K "profile_answer" "profile_answer" (defArgs s_profile_answer) (defBody s_profile_answer) (defScope s_profile_answer) [] [] (He.fAd K ("profile_answer", none)) fd := c.def_ 38 (d := d_profile_answer) rfl
theorem f_worst_answer : ∃ fd, FunD K "worst_answer" "worst_answer" (defArgs s_worst_answer) (defBody s_worst_answer) (defScope s_worst_answer) [] [] (He.fAd K ("worst_answer", none)) fd := c.def_ 39 (d := d_worst_answer) rfl
theorem f_who_answer : ∃ fd, FunD K "who_answer" "who_answer" (defArgs s_who_answer) (defBody s_who_answer) (defScope s_who_answer) [] [] (He.fAd K ("who_answer", none)) fd := c.def_ 40 (d := d_who_answer) rfl
theorem f_stands_answer : ∃ fd, FunD K "stands_answer" "stands_answer" (defArgs s_stands_answer) (defBody s_stands_answer) (defScope s_stands_answer) [] [] (He.fAd K ("stands_answer", none)) fd := c.def_ 41 (d := d_stands_answer) rfl
theorem f_find_answer : ∃ fd, FunD K "find_answer" "find_answer" (defArgs s_find_answer) (defBody s_find_answer) (defScope s_find_answer) [] [] (He.fAd K ("find_answer", none)) fd := c.def_ 42 (d := d_find_answer) rfl
theorem f_asked_of_ways : ∃ fd, FunD K "asked_of_ways" "asked_of_ways" (defArgs s_asked_of_ways) (defBody s_asked_of_ways) (defScope s_asked_of_ways) [] [] (He.fAd K ("asked_of_ways", none)) fd := c.def_ 43 (d := d_asked_of_ways) rfl
theorem f_answers : ∃ fd, FunD K "answers" "answers" (defArgs s_answers) (defBody s_answers) (defScope s_answers) [] [] (He.fAd K ("answers", none)) fd := c.def_ 44 (d := d_answers) rfl
theorem f_Place_init : ∃ fd, FunD K "__init__" "Place.__init__" (defArgs s_Place_init) (defBody s_Place_init) (defScope s_Place_init) [] [] (He.fAd K ("Place", some "__init__")) fd := c.def_ 45 (d := d_Place_init) rfl
theorem f_Car_init : ∃ fd, FunD K "__init__" "Car.__init__" (defArgs s_Car_init) (defBody s_Car_init) (defScope s_Car_init) [] [] (He.fAd K ("Car", some "__init__")) fd := c.def_ 46 (d := d_Car_init) rfl
theorem f_Departure_init : ∃ fd, FunD K "__init__" "Departure.__init__" (defArgs s_Departure_init) (defBody s_Departure_init) (defScope s_Departure_init) [] [] (He.fAd K ("Departure", some "__init__")) fd := c.def_ 47 (d := d_Departure_init) rfl
theorem f_Net_init : ∃ fd, FunD K "__init__" "Net.__init__" (defArgs s_Net_init) (defBody s_Net_init) (defScope s_Net_init) [] [] (He.fAd K ("Net", some "__init__")) fd := c.def_ 48 (d := d_Net_init) rfl
theorem f_Sureness_init : ∃ fd, FunD K "__init__" "Sureness.__init__" (defArgs s_Sureness_init) (defBody s_Sureness_init) (defScope s_Sureness_init) [] [] (He.fAd K ("Sureness", some "__init__")) fd := c.def_ 49 (d := d_Sureness_init) rfl
theorem f_Sureness_by_cars : ∃ fd, FunD K "by_cars" "Sureness.by_cars" (defArgs s_Sureness_by_cars) (defBody s_Sureness_by_cars) (defScope s_Sureness_by_cars) [] [] (He.fAd K ("Sureness", some "by_cars")) fd := c.def_ 50 (d := d_Sureness_by_cars) rfl
theorem f_Sureness_ready_in : ∃ fd, FunD K "ready_in" "Sureness.ready_in" (defArgs s_Sureness_ready_in) (defBody s_Sureness_ready_in) (defScope s_Sureness_ready_in) [] [] (He.fAd K ("Sureness", some "ready_in")) fd := c.def_ 51 (d := d_Sureness_ready_in) rfl
theorem f_Sureness_is_in_time : ∃ fd, FunD K "is_in_time" "Sureness.is_in_time" (defArgs s_Sureness_is_in_time) (defBody s_Sureness_is_in_time) (defScope s_Sureness_is_in_time) [] [] (He.fAd K ("Sureness", some "is_in_time")) fd := c.def_ 52 (d := d_Sureness_is_in_time) rfl
theorem f_Sureness_sure : ∃ fd, FunD K "sure" "Sureness.sure" (defArgs s_Sureness_sure) (defBody s_Sureness_sure) (defScope s_Sureness_sure) [] [] (He.fAd K ("Sureness", some "sure")) fd := c.def_ 53 (d := d_Sureness_sure) rfl
theorem f_Sureness_if_it_goes : ∃ fd, FunD K "if_it_goes" "Sureness.if_it_goes" (defArgs s_Sureness_if_it_goes) (defBody s_Sureness_if_it_goes) (defScope s_Sureness_if_it_goes) [] [] (He.fAd K ("Sureness", some "if_it_goes")) fd := c.def_ 54 (d := d_Sureness_if_it_goes) rfl
theorem f_Sureness_if_cancelled : ∃ fd, FunD K "if_cancelled" "Sureness.if_cancelled" (defArgs s_Sureness_if_cancelled) (defBody s_Sureness_if_cancelled) (defScope s_Sureness_if_cancelled) [] [] (He.fAd K ("Sureness", some "if_cancelled")) fd := c.def_ 55 (d := d_Sureness_if_cancelled) rfl
theorem f_Sureness_worth_of : ∃ fd, FunD K "worth_of" "Sureness.worth_of" (defArgs s_Sureness_worth_of) (defBody s_Sureness_worth_of) (defScope s_Sureness_worth_of) [] [] (He.fAd K ("Sureness", some "worth_of")) fd := c.def_ 56 (d := d_Sureness_worth_of) rfl
theorem f_Sureness_car_to_goal : ∃ fd, FunD K "car_to_goal" "Sureness.car_to_goal" (defArgs s_Sureness_car_to_goal) (defBody s_Sureness_car_to_goal) (defScope s_Sureness_car_to_goal) [] [] (He.fAd K ("Sureness", some "car_to_goal")) fd := c.def_ 57 (d := d_Sureness_car_to_goal) rfl
theorem f_Sureness_car_to_ready : ∃ fd, FunD K "car_to_ready" "Sureness.car_to_ready" (defArgs s_Sureness_car_to_ready) (defBody s_Sureness_car_to_ready) (defScope s_Sureness_car_to_ready) [] [] (He.fAd K ("Sureness", some "car_to_ready")) fd := c.def_ 58 (d := d_Sureness_car_to_ready) rfl
theorem f_Sureness_first_going : ∃ fd, FunD K "first_going" "Sureness.first_going" (defArgs s_Sureness_first_going) (defBody s_Sureness_first_going) (defScope s_Sureness_first_going) [] [] (He.fAd K ("Sureness", some "first_going")) fd := c.def_ 59 (d := d_Sureness_first_going) rfl
theorem f_Sureness_to_do : ∃ fd, FunD K "to_do" "Sureness.to_do" (defArgs s_Sureness_to_do) (defBody s_Sureness_to_do) (defScope s_Sureness_to_do) [] [] (He.fAd K ("Sureness", some "to_do")) fd := c.def_ 60 (d := d_Sureness_to_do) rfl
theorem f_Fault_init : ∃ fd, FunD K "__init__" "Fault.__init__" (defArgs s_Fault_init) (defBody s_Fault_init) (defScope s_Fault_init) [] [] (He.fAd K ("Fault", some "__init__")) fd := c.def_ 61 (d := d_Fault_init) rfl
theorem f_Line_init : ∃ fd, FunD K "__init__" "Line.__init__" (defArgs s_Line_init) (defBody s_Line_init) (defScope s_Line_init) [] [] (He.fAd K ("Line", some "__init__")) fd := c.def_ 62 (d := d_Line_init) rfl
theorem f_Line_is_over : ∃ fd, FunD K "is_over" "Line.is_over" (defArgs s_Line_is_over) (defBody s_Line_is_over) (defScope s_Line_is_over) [] [] (He.fAd K ("Line", some "is_over")) fd := c.def_ 63 (d := d_Line_is_over) rfl
theorem f_Line_place_here : ∃ fd, FunD K "place_here" "Line.place_here" (defArgs s_Line_place_here) (defBody s_Line_place_here) (defScope s_Line_place_here) [] [] (He.fAd K ("Line", some "place_here")) fd := c.def_ 64 (d := d_Line_place_here) rfl
theorem f_Line_refuse : ∃ fd, FunD K "refuse" "Line.refuse" (defArgs s_Line_refuse) (defBody s_Line_refuse) (defScope s_Line_refuse) [] [] (He.fAd K ("Line", some "refuse")) fd := c.def_ 65 (d := d_Line_refuse) rfl
theorem f_Line_word_here : ∃ fd, FunD K "word_here" "Line.word_here" (defArgs s_Line_word_here) (defBody s_Line_word_here) (defScope s_Line_word_here) [] [] (He.fAd K ("Line", some "word_here")) fd := c.def_ 66 (d := d_Line_word_here) rfl
theorem f_Line_take : ∃ fd, FunD K "take" "Line.take" (defArgs s_Line_take) (defBody s_Line_take) (defScope s_Line_take) [] [] (He.fAd K ("Line", some "take")) fd := c.def_ 67 (d := d_Line_take) rfl
theorem f_Line_read_name : ∃ fd, FunD K "read_name" "Line.read_name" (defArgs s_Line_read_name) (defBody s_Line_read_name) (defScope s_Line_read_name) [] [] (He.fAd K ("Line", some "read_name")) fd := c.def_ 68 (d := d_Line_read_name) rfl
theorem f_Line_read_place : ∃ fd, FunD K "read_place" "Line.read_place" (defArgs s_Line_read_place) (defBody s_Line_read_place) (defScope s_Line_read_place) [] [] (He.fAd K ("Line", some "read_place")) fd := c.def_ 69 (d := d_Line_read_place) rfl
theorem f_Line_number_here : ∃ fd, FunD K "number_here" "Line.number_here" (defArgs s_Line_number_here) (defBody s_Line_number_here) (defScope s_Line_number_here) [] [] (He.fAd K ("Line", some "number_here")) fd := c.def_ 70 (d := d_Line_number_here) rfl
theorem f_Line_read_number : ∃ fd, FunD K "read_number" "Line.read_number" (defArgs s_Line_read_number) (defBody s_Line_read_number) (defScope s_Line_read_number) [] [] (He.fAd K ("Line", some "read_number")) fd := c.def_ 71 (d := d_Line_read_number) rfl
theorem f_Line_want_end : ∃ fd, FunD K "want_end" "Line.want_end" (defArgs s_Line_want_end) (defBody s_Line_want_end) (defScope s_Line_want_end) [] [] (He.fAd K ("Line", some "want_end")) fd := c.def_ 72 (d := d_Line_want_end) rfl
theorem f_Desk_init : ∃ fd, FunD K "__init__" "Desk.__init__" (defArgs s_Desk_init) (defBody s_Desk_init) (defScope s_Desk_init) [] [] (He.fAd K ("Desk", some "__init__")) fd := c.def_ 73 (d := d_Desk_init) rfl
theorem f_Desk_read : ∃ fd, FunD K "read" "Desk.read" (defArgs s_Desk_read) (defBody s_Desk_read) (defScope s_Desk_read) [] [] (He.fAd K ("Desk", some "read")) fd := c.def_ 74 (d := d_Desk_read) rfl
theorem f_Desk_leave_out : ∃ fd, FunD K "leave_out" "Desk.leave_out" (defArgs s_Desk_leave_out) (defBody s_Desk_leave_out) (defScope s_Desk_leave_out) [] [] (He.fAd K ("Desk", some "leave_out")) fd := c.def_ 75 (d := d_Desk_leave_out) rfl
theorem f_Desk_shift : ∃ fd, FunD K "shift" "Desk.shift" (defArgs s_Desk_shift) (defBody s_Desk_shift) (defScope s_Desk_shift) [] [] (He.fAd K ("Desk", some "shift")) fd := c.def_ 76 (d := d_Desk_shift) rfl
theorem f_Desk_call : ∃ fd, FunD K "call" "Desk.call" (defArgs s_Desk_call) (defBody s_Desk_call) (defScope s_Desk_call) [] [] (He.fAd K ("Desk", some "call")) fd := c.def_ 77 (d := d_Desk_call) rfl
end
/-! ### more facts: the error's class, the tables -/
def oexB (K : PySem.W.Frag) (C : Addr) : Bool := match K.lookup C with
  | some ⟨.type "type", _, .cls cd, sl⟩ => (match cd.mro, sl.toList with
    | .ref C' :: bm, [_, _, _, _, some (.builtin n), _] => C' == C && (n == "ValueError.__new__" && (!cd.hasDel && (cd.hasDict && PySem.HandSPX.refsVE bm)))
    | _, _ => false)
  | _ => false
theorem oexB_ok {K : PySem.W.Frag} {C : Addr} (q : oexB K C = true) : ∃ nm q N bs bm sn sub ab col dd k0 k1 k2 k3 k5, K.lookup C = some (excClassObj nm q C N bs bm true sn sub ab col dd k0 k1 k2 k3 k5 "ValueError.__new__") ∧ PySem.HandSPX.refsVE bm = true := by
  unfold oexB at q
  split at q
  · rename_i dd cd sl ho
    split at q
    · rename_i C' bm k0 k1 k2 k3 n k5 hm hs
      simp only [Bool.and_eq_true, beq_iff_eq, Bool.not_eq_true'] at q
      obtain ⟨rfl, rfl, hdel, hdic, ht⟩ := q
      obtain ⟨nm, bs, mro, ns, qn, hd, sn, sub, ab, col, del⟩ := cd
      dsimp only at hm hdel hdic
      subst hm hdel hdic
      have hsl : sl = #[k0, k1, k2, k3, some (.builtin "ValueError.__new__"), k5] := by
        obtain ⟨l⟩ := sl
        simp only at hs
        rw [hs]
      subst hsl
      exact ⟨nm, qn, ns, bs, bm, sn, sub, ab, col, dd, k0, k1, k2, k3, k5, ho, ht⟩
    · cases q
  · cases q
/-- where the error's class's __init__ stands -/
def fltI (K : PySem.W.Frag) : Addr := He.ma K (He.ga K "Fault") "__init__"
def veB (K : PySem.W.Frag) : Bool := match PySem.W.findCls K (.type "ValueError") (.type "type") "__init__" with
  | some (.val (.builtin "ValueError.__init__")) => true
  | _ => false
theorem veB_ok {K : PySem.W.Frag} (h : veB K = true) : PySem.W.findCls K (.type "ValueError") (.type "type") "__init__" = some (.val (.builtin "ValueError.__init__")) := by
  unfold veB at h
  split at h
  · assumption
  · cases h
def fltB (K : PySem.W.Frag) : Bool := oexB K (He.ga K "Fault") && (He.eqO (PySem.W.findIn K (.ref (He.ga K "Fault")) "__setattr__") (some (some (.builtin "object.__setattr__"))) && (decide (PySem.W.subIn K (.ref (He.ga K "Fault")) (.type "BaseException") = some true) &&
  (decide (PySem.W.typeIn K (.ref (He.ga K "Fault")) = some (.type "type")) && (PySem.W.keepIn K (.ref (He.ga K "Fault")) && (He.eqO (PySem.W.findIn K (.ref (He.ga K "Fault")) "__init__") (some (some (.ref (fltI K)))) &&
  (decide (PySem.W.typeIn K (.ref (fltI K)) = some (.type "function")) && (veB K &&
  (He.eqO (PySem.W.findIn K (.ref (He.ga K "Fault")) "__getattribute__") (some (some (.builtin "BaseException.__getattribute__"))) && (He.eqO (PySem.W.findIn K (.ref (He.ga K "Fault")) "__getattr__") (some none) && PySem.W.hasDictIn K (He.ga K "Fault"))))))))))
/-- a tuple of the written part -/
def tupA (K : PySem.W.Frag) (a : Addr) (vs : List V) : Bool := match K.lookup a with
  | some ⟨.type c, _, .seq its _, _⟩ => decide (c = "tuple") && (decide (its.size ≤ sizeLine) && He.relAll vs its.toList)
  | _ => false
theorem tupA_ok {K : PySem.W.Frag} {a : Addr} {vs : List V} (h : tupA K a vs = true) (H : Hp) : SqT K H a vs := by
  unfold tupA at h
  cases q : K.lookup a with
  | none =>
    rw [q] at h
    cases h
  | some o =>
    obtain ⟨oc, od, dt, osl⟩ := o
    rw [q] at h
    cases oc with
    | type c =>
      cases dt with
      | seq its n =>
        obtain ⟨h1, h2⟩ := He.ba (show (decide (c = "tuple") && (decide (its.size ≤ sizeLine) && He.relAll vs its.toList)) = true from h)
        obtain ⟨h3, h4⟩ := He.ba h2
        exact .inr ⟨_, its, n, q, congrArg Value.type (of_decide_eq_true h1), rfl, of_decide_eq_true h3, He.relAll_ok h4⟩
      | _ => cases h
    | _ => cases dt <;> cases h
/-- the i-th item of a tuple of the top, if it is an object -/
def itA (K : PySem.W.Frag) (x : Str) (i : Nat) : Addr := match K.lookup (He.ga K x) with
  | some ⟨_, _, .seq its _, _⟩ => (match its.toList[i]? with
    | some (.ref a) => a
    | _ => 0)
  | _ => 0
/-- what a key of a dict of the top stands for, if it is an object -/
def keA (K : PySem.W.Frag) (x k : Str) : Addr := match PySem.W.nsIn K (He.ga K x) k with
  | some (some (.ref a)) => a
  | _ => 0
/-- a call's letters, its list's sort -/
def shapeL : List (Str × Str) := [("", "text"), ("", "text"), ("", ""), ("", "name"), ("m", "name"), ("ktpd", ""), ("ktp", ""), ("ktpd", ""), ("ktpd", "cancelled"), ("klpd", ""), ("kpd", ""), ("ktpd", ""), ("pd", ""), ("ktlp", ""), ("tlpd", ""), ("", ""), ("", "name"), ("kd", "")]
def rangeL : List (Str × Int × Int) := [("k", 0, 3), ("t", 0, 100000), ("l", 0, 100000), ("p", 0, 7), ("d", 0, 7), ("m", -100000, 100000)]
def rowsL : List (Str × Int × Int) := [("text", 4000, 255), ("name", 12, 255), ("cancelled", 30, 29)]
def shapesB (K : PySem.W.Frag) : Bool := tupA K (He.ga K "SHAPES") ((List.range shapeL.length).map fun i => V.ref (itA K "SHAPES" i)) && shapeL.zipIdx.all fun p => tupA K (itA K "SHAPES" p.2) [.str p.1.1, .str p.1.2]
def dictB (K : PySem.W.Frag) (x : Str) (l : List (Str × Int × Int)) : Bool := l.all fun p => He.eqO (PySem.W.nsIn K (He.ga K x) p.1) (some (some (.ref (keA K x p.1)))) && tupA K (keA K x p.1) [.int p.2.1, .int p.2.2]
def moreB (K : PySem.W.Frag) : Bool := fltB K && (shapesB K && (dictB K "RANGES" rangeL && dictB K "ROWS" rowsL))
/-! ### the Hook: the facts over a part of the heap that is told by its addresses -/
def tabs : List He.Tab := [(fun K => He.ga K "RANGES", rangeL.map (·.1)), (fun K => He.ga K "ROWS", rowsL.map (·.1))]
def tf : List He.Defn := [("Sureness", some "__init__")]
def addrs0 : List Addr := [3, 31, 52, 73, 94, 105, 112, 119, 124, 131, 138, 145, 152, 244, 255, 262, 269, 276, 283, 290, 297, 304, 321, 329, 336, 343, 348, 353, 360, 365, 372, 459, 470, 477, 484, 491, 498, 505, 512, 517]
def addrs1 : List Addr := [536, 537, 544, 552, 559, 566, 571, 578, 585, 592, 599, 604, 611, 618, 625, 670, 681, 30, 51, 72, 93, 104, 111, 118, 123, 130, 137, 144, 151, 243, 254, 261, 268, 275, 282, 289, 296, 303, 320, 328]
def addrs2 : List Addr := [335, 342, 347, 352, 359, 364, 371, 458, 469, 476, 483, 490, 497, 504, 511, 516, 518, 519, 520, 521, 522, 523, 524, 525, 526, 527, 528, 529, 530, 531, 532, 533, 534, 535, 538, 539, 540, 541, 542, 543]
def addrs3 : List Addr := [545, 546, 547, 551, 558, 565, 570, 577, 584, 591, 598, 603, 610, 617, 624, 669, 680, 28, 49, 70, 91, 164, 171, 178, 185, 192, 199, 206, 213, 220, 227, 234, 241, 318, 386, 393, 400, 407, 414, 421]
def addrs4 : List Addr := [428, 435, 442, 449, 456, 639, 646, 653, 660, 667, 27, 48, 69, 90, 163, 170, 177, 184, 191, 198, 205, 212, 219, 226, 233, 240, 317, 385, 392, 399, 406, 413, 420, 427, 434, 441, 448, 455, 638, 645]
def addrs5 : List Addr := [652, 659, 666]
def addrs : List Addr := addrs0 ++ addrs1 ++ addrs2 ++ addrs3 ++ addrs4 ++ addrs5
abbrev Says (w : World) (h : Heap) (K : PySem.W.Frag) : Prop := He.SaysX fa fn tabs tf moreB w h K
def obsY (g : Addr → Option Obj) : He.AlX := (He.obsT fa fn tabs (He.frT g addrs), moreB (He.frT g addrs) && He.tabsB g tf (He.frT g addrs))
theorem says_of {w : World} {h : Heap} (e : obsY h.get? = He.valX fn tabs w) : Says w h (He.frT h.get? addrs) := by
  have e1 : He.obsT fa fn tabs (He.frT h.get? addrs) = He.valT fn tabs w := congrArg (fun z : He.AlX => z.1) e
  have e2 : (moreB (He.frT h.get? addrs) && He.tabsB h.get? tf (He.frT h.get? addrs)) = true := congrArg (fun z : He.AlX => z.2) e
  obtain ⟨h1, h2⟩ := He.ba e2
  have key : ∀ p ∈ tf, PySem.W.codeHdIn (He.frT h.get? addrs) (He.cT (He.frT h.get? addrs) p).1 (He.cT (He.frT h.get? addrs) p).2 = true ∧ ∃ o, h.get? (He.cT (He.frT h.get? addrs) p).2 = some o ∧ He.emptyTab o = true := fun p hp => by
    obtain ⟨h3, h4⟩ := He.ba (List.all_eq_true.mp h2 p hp)
    refine ⟨h3, ?_⟩
    cases q : h.get? (He.cT (He.frT h.get? addrs) p).2 with
    | none =>
      rw [q] at h4
      cases h4
    | some o =>
      rw [q] at h4
      exact ⟨o, rfl, h4⟩
  exact ⟨e1, h1, fun p hp => (key p hp).1, fun p hp => by
    obtain ⟨_, o, q, z⟩ := key p hp
    exact He.frT_none q z, fun p hp => by
    obtain ⟨_, o, q, z⟩ := key p hp
    rw [q, He.emptyTab_eq z]⟩
def hookY : PySem.W.Hook where
  α := He.AlX
  obs := fun s => obsY s.heap.get?
  val := fun w => He.valX fn tabs w
  says := fun w h => ∃ K : PySem.W.Frag, K.In h ∧ Says w h K
  of := fun _ _ e => ⟨_, He.frT_in, says_of e⟩
  keeps := fun _ _ _ ⟨K, hK, c⟩ k => ⟨K, PySem.W.Frag.In.keeps hK k, ⟨c.t, c.more, c.hd, c.out, fun p hp => k _ _ (c.empty p hp)⟩⟩
theorem obsY_eq {g : Addr → Option Obj} {s : Shared} (h : ∀ a, g a = s.heap.get? a) : obsY g = hookY.obs s := by
  have e : g = s.heap.get? := funext h
  rw [e] <;> rfl
section
variable {K : PySem.W.Frag} {w : World} {h : Heap}
theorem says_oex (c : Says w h K) : OexC K (He.ga K "Fault") := by
  obtain ⟨h, _⟩ := He.ba c.more
  obtain ⟨h1, h⟩ := He.ba h
  obtain ⟨h2, h⟩ := He.ba h
  obtain ⟨h3, h⟩ := He.ba h
  obtain ⟨h4, h⟩ := He.ba h
  obtain ⟨h5, h⟩ := He.ba h
  exact ⟨oexB_ok h1, He.eqO_ok h2, of_decide_eq_true h3, of_decide_eq_true h4, h5⟩
theorem says_flt (c : Says w h K) : PySem.W.findIn K (.ref (He.ga K "Fault")) "__init__" = some (some (.ref (fltI K))) ∧ PySem.W.typeIn K (.ref (fltI K)) = some (.type "function") ∧
    PySem.W.findCls K (.type "ValueError") (.type "type") "__init__" = some (.val (.builtin "ValueError.__init__")) ∧ PySem.W.findIn K (.ref (He.ga K "Fault")) "__getattribute__" = some (some (.builtin "BaseException.__getattribute__")) ∧
    PySem.W.findIn K (.ref (He.ga K "Fault")) "__getattr__" = some none ∧ PySem.W.hasDictIn K (He.ga K "Fault") = true := by
  obtain ⟨h, _⟩ := He.ba c.more
  obtain ⟨h1, h⟩ := He.ba h
  obtain ⟨h2, h⟩ := He.ba h
  obtain ⟨h3, h⟩ := He.ba h
  obtain ⟨h4, h⟩ := He.ba h
  obtain ⟨h5, h⟩ := He.ba h
  obtain ⟨h6, h⟩ := He.ba h
  obtain ⟨h7, h⟩ := He.ba h
  obtain ⟨h8, h⟩ := He.ba h
  obtain ⟨h9, h⟩ := He.ba h
  obtain ⟨h10, h11⟩ := He.ba h
  exact ⟨He.eqO_ok h6, of_decide_eq_true h7, veB_ok h8, He.eqO_ok h9, He.eqO_ok h10, h11⟩
/-- SHAPES is a tuple of tuples -/
theorem says_shapes (c : Says w h K) (H : Hp) : SqT K H (He.ga K "SHAPES") ((List.range shapeL.length).map fun i => V.ref (itA K "SHAPES" i)) ∧ ∀ i p, shapeL[i]? = some p → SqT K H (itA K "SHAPES" i) [.str p.1, .str p.2] := by
  obtain ⟨_, h⟩ := He.ba c.more
  obtain ⟨h, _⟩ := He.ba h
  obtain ⟨h1, h2⟩ := He.ba h
  refine ⟨tupA_ok h1 H, fun i p e => tupA_ok (List.all_eq_true.mp h2 (p, i) ?_) H⟩
  exact List.mem_zipIdx_iff_getElem?.mpr e
theorem dictB_ok {x : Str} {l : List (Str × Int × Int)} (h : dictB K x l = true) (D : ∃ es n, KDict K w (He.ga K x) es n) (H : Hp) {p : Str × Int × Int} (hp : p ∈ l) :
    KDct K w (He.ga K x) p.1 (.ref (keA K x p.1)) ∧ SqT K H (keA K x p.1) [.int p.2.1, .int p.2.2] := by
  obtain ⟨h1, h2⟩ := He.ba (List.all_eq_true.mp h p hp)
  obtain ⟨es, n, D⟩ := D
  exact ⟨⟨es, n, _, D.at_, D.lit, He.eqO_ok h1, rfl⟩, tupA_ok h2 H⟩
theorem says_ranges (c : Says w h K) (H : Hp) {p : Str × Int × Int} (hp : p ∈ rangeL) : KDct K w (He.ga K "RANGES") p.1 (.ref (keA K "RANGES" p.1)) ∧ SqT K H (keA K "RANGES" p.1) [.int p.2.1, .int p.2.2] := by
  obtain ⟨_, h⟩ := He.ba c.more
  obtain ⟨_, h⟩ := He.ba h
  obtain ⟨h, _⟩ := He.ba h
  exact dictB_ok h (c.t.tab 0 (t := (fun K => He.ga K "RANGES", rangeL.map (·.1))) rfl) H hp
theorem says_rows (c : Says w h K) (H : Hp) {p : Str × Int × Int} (hp : p ∈ rowsL) : KDct K w (He.ga K "ROWS") p.1 (.ref (keA K "ROWS" p.1)) ∧ SqT K H (keA K "ROWS" p.1) [.int p.2.1, .int p.2.2] := by
  obtain ⟨_, h⟩ := He.ba c.more
  obtain ⟨_, h⟩ := He.ba h
  obtain ⟨_, h⟩ := He.ba h
  exact dictB_ok h (c.t.tab 1 (t := (fun K => He.ga K "ROWS", rowsL.map (·.1))) rfl) H hp
end
/-! ### the facts, of the written part and the module alone -/
def Txt (w : World) (K : PySem.W.Frag) (mg : Str → Option Value) : Prop := ∃ h : Heap, K.In h ∧ h.Ns mainGlobals mg ∧ Says w h K
section
variable {K : PySem.W.Frag} {w : World} {mg : Str → Option Value} (T : Txt w K mg)
include T
theorem Txt.g_Place : mg "Place" = some (.ref (He.ga K "Place")) := by
  obtain ⟨h, X, G, c⟩ := T
  exact SJ.g_Place X G c.t.d
theorem Txt.g_Car : mg "Car" = some (.ref (He.ga K "Car")) := by
  obtain ⟨h, X, G, c⟩ := T
  exact SJ.g_Car X G c.t.d
theorem Txt.g_Departure : mg "Departure" = some (.ref (He.ga K "Departure")) := by
  obtain ⟨h, X, G, c⟩ := T
  exact SJ.g_Departure X G c.t.d
theorem Txt.g_Net : mg "Net" = some (.ref (He.ga K "Net")) := by
  obtain ⟨h, X, G, c⟩ := T
  exact SJ.g_Net X G c.t.d
theorem Txt.g_Sureness : mg "Sureness" = some (.ref (He.ga K "Sureness")) := by
  obtain ⟨h, X, G, c⟩ := T
  exact SJ.g_Sureness X G c.t.d
theorem Txt.g_Fault : mg "Fault" = some (.ref (He.ga K "Fault")) := by
  obtain ⟨h, X, G, c⟩ := T
  exact SJ.g_Fault X G c.t.d
theorem Txt.g_Line : mg "Line" = some (.ref (He.ga K "Line")) := by
  obtain ⟨h, X, G, c⟩ := T
  exact SJ.g_Line X G c.t.d
theorem Txt.g_Desk : mg "Desk" = some (.ref (He.ga K "Desk")) := by
  obtain ⟨h, X, G, c⟩ := T
  exact SJ.g_Desk X G c.t.d
theorem Txt.g_number_of : mg "number_of" = some (.ref (He.ga K "number_of")) := by
  obtain ⟨h, X, G, c⟩ := T
  exact SJ.g_number_of X G c.t.d
theorem Txt.g_without : mg "without" = some (.ref (He.ga K "without")) := by
  obtain ⟨h, X, G, c⟩ := T
  exact SJ.g_without X G c.t.d
theorem Txt.g_shifted : mg "shifted" = some (.ref (He.ga K "shifted")) := by
  obtain ⟨h, X, G, c⟩ := T
  exact SJ.g_shifted X G c.t.d
theorem Txt.g_come_tables : mg "come_tables" = some (.ref (He.ga K "come_tables")) := by
  obtain ⟨h, X, G, c⟩ := T
  exact SJ.g_come_tables X G c.t.d
theorem Txt.g_put_shorter : mg "put_shorter" = some (.ref (He.ga K "put_shorter")) := by
  obtain ⟨h, X, G, c⟩ := T
  exact SJ.g_put_shorter X G c.t.d
theorem Txt.g_lesser : mg "lesser" = some (.ref (He.ga K "lesser")) := by
  obtain ⟨h, X, G, c⟩ := T
  exact SJ.g_lesser X G c.t.d
theorem Txt.g_greater : mg "greater" = some (.ref (He.ga K "greater")) := by
  obtain ⟨h, X, G, c⟩ := T
  exact SJ.g_greater X G c.t.d
theorem Txt.g_summed : mg "summed" = some (.ref (He.ga K "summed")) := by
  obtain ⟨h, X, G, c⟩ := T
  exact SJ.g_summed X G c.t.d
theorem Txt.g_behind_car : mg "behind_car" = some (.ref (He.ga K "behind_car")) := by
  obtain ⟨h, X, G, c⟩ := T
  exact SJ.g_behind_car X G c.t.d
theorem Txt.g_behind_going : mg "behind_going" = some (.ref (He.ga K "behind_going")) := by
  obtain ⟨h, X, G, c⟩ := T
  exact SJ.g_behind_going X G c.t.d
theorem Txt.g_played : mg "played" = some (.ref (He.ga K "played")) := by
  obtain ⟨h, X, G, c⟩ := T
  exact SJ.g_played X G c.t.d
theorem Txt.g_worst_case : mg "worst_case" = some (.ref (He.ga K "worst_case")) := by
  obtain ⟨h, X, G, c⟩ := T
  exact SJ.g_worst_case X G c.t.d
theorem Txt.g_last_minute : mg "last_minute" = some (.ref (He.ga K "last_minute")) := by
  obtain ⟨h, X, G, c⟩ := T
  exact SJ.g_last_minute X G c.t.d
theorem Txt.g_just_ready_minutes : mg "just_ready_minutes" = some (.ref (He.ga K "just_ready_minutes")) := by
  obtain ⟨h, X, G, c⟩ := T
  exact SJ.g_just_ready_minutes X G c.t.d
theorem Txt.g_is_step : mg "is_step" = some (.ref (He.ga K "is_step")) := by
  obtain ⟨h, X, G, c⟩ := T
  exact SJ.g_is_step X G c.t.d
theorem Txt.g_profile_of : mg "profile_of" = some (.ref (He.ga K "profile_of")) := by
  obtain ⟨h, X, G, c⟩ := T
  exact SJ.g_profile_of X G c.t.d
theorem Txt.g_bytes_of : mg "bytes_of" = some (.ref (He.ga K "bytes_of")) := by
  obtain ⟨h, X, G, c⟩ := T
  exact SJ.g_bytes_of X G c.t.d
theorem Txt.g_is_digit : mg "is_digit" = some (.ref (He.ga K "is_digit")) := by
  obtain ⟨h, X, G, c⟩ := T
  exact SJ.g_is_digit X G c.t.d
theorem Txt.g_is_small : mg "is_small" = some (.ref (He.ga K "is_small")) := by
  obtain ⟨h, X, G, c⟩ := T
  exact SJ.g_is_small X G c.t.d
theorem Txt.g_is_name : mg "is_name" = some (.ref (He.ga K "is_name")) := by
  obtain ⟨h, X, G, c⟩ := T
  exact SJ.g_is_name X G c.t.d
theorem Txt.g_is_number : mg "is_number" = some (.ref (He.ga K "is_number")) := by
  obtain ⟨h, X, G, c⟩ := T
  exact SJ.g_is_number X G c.t.d
theorem Txt.g_worth_of : mg "worth_of" = some (.ref (He.ga K "worth_of")) := by
  obtain ⟨h, X, G, c⟩ := T
  exact SJ.g_worth_of X G c.t.d
theorem Txt.g_ends_of_lines : mg "ends_of_lines" = some (.ref (He.ga K "ends_of_lines")) := by
  obtain ⟨h, X, G, c⟩ := T
  exact SJ.g_ends_of_lines X G c.t.d
theorem Txt.g_words_between : mg "words_between" = some (.ref (He.ga K "words_between")) := by
  obtain ⟨h, X, G, c⟩ := T
  exact SJ.g_words_between X G c.t.d
theorem Txt.g_want_room : mg "want_room" = some (.ref (He.ga K "want_room")) := by
  obtain ⟨h, X, G, c⟩ := T
  exact SJ.g_want_room X G c.t.d
theorem Txt.g_read_place_line : mg "read_place_line" = some (.ref (He.ga K "read_place_line")) := by
  obtain ⟨h, X, G, c⟩ := T
  exact SJ.g_read_place_line X G c.t.d
theorem Txt.g_read_car_line : mg "read_car_line" = some (.ref (He.ga K "read_car_line")) := by
  obtain ⟨h, X, G, c⟩ := T
  exact SJ.g_read_car_line X G c.t.d
theorem Txt.g_read_go_line : mg "read_go_line" = some (.ref (He.ga K "read_go_line")) := by
  obtain ⟨h, X, G, c⟩ := T
  exact SJ.g_read_go_line X G c.t.d
theorem Txt.g_read_line : mg "read_line" = some (.ref (He.ga K "read_line")) := by
  obtain ⟨h, X, G, c⟩ := T
  exact SJ.g_read_line X G c.t.d
theorem Txt.g_read_net : mg "read_net" = some (.ref (He.ga K "read_net")) := by
  obtain ⟨h, X, G, c⟩ := T
  exact SJ.g_read_net X G c.t.d
theorem Txt.g_row_of : mg "row_of" = some (.ref (He.ga K "row_of")) := by
  obtain ⟨h, X, G, c⟩ := T
  exact SJ.g_row_of X G c.t.d
theorem Txt.g_net_bytes : mg "net_bytes" = some (.ref (He.ga K "net_bytes")) := by
  obtain ⟨h, X, G, c⟩ := T
  exact SJ.g_net_bytes X G c.t.d
theorem Txt.g_is_as_told : mg "is_as_told" = some (.ref (He.ga K "is_as_told")) := by
  obtain ⟨h, X, G, c⟩ := T
  exact SJ.g_is_as_told X G c.t.d
theorem Txt.g_state_answer : mg "state_answer" = some (.ref (He.ga K "state_answer")) := by
  obtain ⟨h, X, G, c⟩ := T
  exact SJ.g_state_answer X G c.t.d
theorem Txt.g_sure_answer : mg "sure_answer" = some (.ref (He.ga K "sure_answer")) := by
  obtain ⟨h, X, G, c⟩ := T
  exact SJ.g_sure_answer X G c.t.d
theorem Txt.g_table_answer : mg "table_answer" = some (.ref (He.ga K "table_answer")) := by
  obtain ⟨h, X, G, c⟩ := T
  exact SJ.g_table_answer X G c.t.d
theorem Txt.g_next_answer : mg "next_answer" = some (.ref (He.ga K "next_answer")) := by
  obtain ⟨h, X, G, c⟩ := T
  exact SJ.g_next_answer X G c.t.d
theorem Txt.g_play_answer : mg "play_answer" = some (.ref (He.ga K "play_answer")) := by
  obtain ⟨h, X, G, c⟩ := T
  exact SJ.g_play_answer X G c.t.d
theorem Txt.g_profile_answer : mg "profile_answer" = some (.ref (He.ga K "profile_answer")) := by
  obtain ⟨h, X, G, c⟩ := T
  exact SJ.g_profile_answer X G c.t.d
theorem Txt.g_worst_answer : mg "worst_answer" = some (.ref (He.ga K "worst_answer")) := by
  obtain ⟨h, X, G, c⟩ := T
  exact SJ.g_worst_answer X G c.t.d
theorem Txt.g_who_answer : mg "who_answer" = some (.ref (He.ga K "who_answer")) := by
  obtain ⟨h, X, G, c⟩ := T
  exact SJ.g_who_answer X G c.t.d
theorem Txt.g_stands_answer : mg "stands_answer" = some (.ref (He.ga K "stands_answer")) := by
  obtain ⟨h, X, G, c⟩ := T
  exact SJ.g_stands_answer X G c.t.d
theorem Txt.g_find_answer : mg "find_answer" = some (.ref (He.ga K "find_answer")) := by
  obtain ⟨h, X, G, c⟩ := T
  exact SJ.g_find_answer X G c.t.d
theorem Txt.g_asked_of_ways : mg "asked_of_ways" = some (.ref (He.ga K "asked_of_ways")) := by
  obtain ⟨h, X, G, c⟩ := T
  exact SJ.g_asked_of_ways X G c.t.d
theorem Txt.g_answers : mg "answers" = some (.ref (He.ga K "answers")) := by
  obtain ⟨h, X, G, c⟩ := T
  exact SJ.g_answers X G c.t.d
theorem Txt.b_list : mg "list" = none := by
  obtain ⟨h, X, G, c⟩ := T
  exact SJ.b_list X G c.t.d
theorem Txt.b_enumerate : mg "enumerate" = none := by
  obtain ⟨h, X, G, c⟩ := T
  exact SJ.b_enumerate X G c.t.d
theorem Txt.b_range : mg "range" = none := by
  obtain ⟨h, X, G, c⟩ := T
  exact SJ.b_range X G c.t.d
theorem Txt.b_len : mg "len" = none := by
  obtain ⟨h, X, G, c⟩ := T
  exact SJ.b_len X G c.t.d
theorem Txt.b_sorted : mg "sorted" = none := by
  obtain ⟨h, X, G, c⟩ := T
  exact SJ.b_sorted X G c.t.d
theorem Txt.b_min : mg "min" = none := by
  obtain ⟨h, X, G, c⟩ := T
  exact SJ.b_min X G c.t.d
theorem Txt.b_max : mg "max" = none := by
  obtain ⟨h, X, G, c⟩ := T
  exact SJ.b_max X G c.t.d
theorem Txt.b_zip : mg "zip" = none := by
  obtain ⟨h, X, G, c⟩ := T
  exact SJ.b_zip X G c.t.d
theorem Txt.b_ord : mg "ord" = none := by
  obtain ⟨h, X, G, c⟩ := T
  exact SJ.b_ord X G c.t.d
theorem Txt.b_all : mg "all" = none := by
  obtain ⟨h, X, G, c⟩ := T
  exact SJ.b_all X G c.t.d
theorem Txt.b_str : mg "str" = none := by
  obtain ⟨h, X, G, c⟩ := T
  exact SJ.b_str X G c.t.d
theorem Txt.b_dict : mg "dict" = none := by
  obtain ⟨h, X, G, c⟩ := T
  exact SJ.b_dict X G c.t.d
theorem Txt.b_ValueError : mg "ValueError" = none := by
  obtain ⟨h, X, G, c⟩ := T
  exact SJ.b_ValueError X G c.t.d
theorem Txt.i_NONE : ∃ t, mg "NONE" = some (.int (-1) t) := by
  obtain ⟨h, X, G, c⟩ := T
  exact SJ.i_NONE X G c.t.d
theorem Txt.i_MOST_CANCELLED : ∃ t, mg "MOST_CANCELLED" = some (.int (3) t) := by
  obtain ⟨h, X, G, c⟩ := T
  exact SJ.i_MOST_CANCELLED X G c.t.d
theorem Txt.i_AT_GOAL : ∃ t, mg "AT_GOAL" = some (.int (0) t) := by
  obtain ⟨h, X, G, c⟩ := T
  exact SJ.i_AT_GOAL X G c.t.d
theorem Txt.i_BY_CAR : ∃ t, mg "BY_CAR" = some (.int (1) t) := by
  obtain ⟨h, X, G, c⟩ := T
  exact SJ.i_BY_CAR X G c.t.d
theorem Txt.i_BY_GOING : ∃ t, mg "BY_GOING" = some (.int (2) t) := by
  obtain ⟨h, X, G, c⟩ := T
  exact SJ.i_BY_GOING X G c.t.d
theorem Txt.i_CANCELLED : ∃ t, mg "CANCELLED" = some (.int (3) t) := by
  obtain ⟨h, X, G, c⟩ := T
  exact SJ.i_CANCELLED X G c.t.d
theorem Txt.i_LINE_END : ∃ t, mg "LINE_END" = some (.int (10) t) := by
  obtain ⟨h, X, G, c⟩ := T
  exact SJ.i_LINE_END X G c.t.d
theorem Txt.i_BLANK : ∃ t, mg "BLANK" = some (.int (32) t) := by
  obtain ⟨h, X, G, c⟩ := T
  exact SJ.i_BLANK X G c.t.d
theorem Txt.i_ZERO : ∃ t, mg "ZERO" = some (.int (48) t) := by
  obtain ⟨h, X, G, c⟩ := T
  exact SJ.i_ZERO X G c.t.d
theorem Txt.i_NINE : ∃ t, mg "NINE" = some (.int (57) t) := by
  obtain ⟨h, X, G, c⟩ := T
  exact SJ.i_NINE X G c.t.d
theorem Txt.i_FIRST_LETTER : ∃ t, mg "FIRST_LETTER" = some (.int (97) t) := by
  obtain ⟨h, X, G, c⟩ := T
  exact SJ.i_FIRST_LETTER X G c.t.d
theorem Txt.i_LAST_LETTER : ∃ t, mg "LAST_LETTER" = some (.int (122) t) := by
  obtain ⟨h, X, G, c⟩ := T
  exact SJ.i_LAST_LETTER X G c.t.d
theorem Txt.i_LONGEST_NAME : ∃ t, mg "LONGEST_NAME" = some (.int (12) t) := by
  obtain ⟨h, X, G, c⟩ := T
  exact SJ.i_LONGEST_NAME X G c.t.d
theorem Txt.i_MOST_DIGITS : ∃ t, mg "MOST_DIGITS" = some (.int (6) t) := by
  obtain ⟨h, X, G, c⟩ := T
  exact SJ.i_MOST_DIGITS X G c.t.d
theorem Txt.i_MOST_PLACES : ∃ t, mg "MOST_PLACES" = some (.int (8) t) := by
  obtain ⟨h, X, G, c⟩ := T
  exact SJ.i_MOST_PLACES X G c.t.d
theorem Txt.i_MOST_CARS : ∃ t, mg "MOST_CARS" = some (.int (16) t) := by
  obtain ⟨h, X, G, c⟩ := T
  exact SJ.i_MOST_CARS X G c.t.d
theorem Txt.i_MOST_GOES : ∃ t, mg "MOST_GOES" = some (.int (30) t) := by
  obtain ⟨h, X, G, c⟩ := T
  exact SJ.i_MOST_GOES X G c.t.d
theorem Txt.i_MOST_HANDLING : ∃ t, mg "MOST_HANDLING" = some (.int (1000) t) := by
  obtain ⟨h, X, G, c⟩ := T
  exact SJ.i_MOST_HANDLING X G c.t.d
theorem Txt.i_MOST_LONG : ∃ t, mg "MOST_LONG" = some (.int (10000) t) := by
  obtain ⟨h, X, G, c⟩ := T
  exact SJ.i_MOST_LONG X G c.t.d
theorem Txt.i_LAST_MINUTE : ∃ t, mg "LAST_MINUTE" = some (.int (100000) t) := by
  obtain ⟨h, X, G, c⟩ := T
  exact SJ.i_LAST_MINUTE X G c.t.d
theorem Txt.i_WRONG_WORD : ∃ t, mg "WRONG_WORD" = some (.int (1) t) := by
  obtain ⟨h, X, G, c⟩ := T
  exact SJ.i_WRONG_WORD X G c.t.d
theorem Txt.i_OUT_OF_RANGE : ∃ t, mg "OUT_OF_RANGE" = some (.int (3) t) := by
  obtain ⟨h, X, G, c⟩ := T
  exact SJ.i_OUT_OF_RANGE X G c.t.d
theorem Txt.i_TOLD_BEFORE : ∃ t, mg "TOLD_BEFORE" = some (.int (4) t) := by
  obtain ⟨h, X, G, c⟩ := T
  exact SJ.i_TOLD_BEFORE X G c.t.d
theorem Txt.i_NO_SUCH_PLACE : ∃ t, mg "NO_SUCH_PLACE" = some (.int (5) t) := by
  obtain ⟨h, X, G, c⟩ := T
  exact SJ.i_NO_SUCH_PLACE X G c.t.d
theorem Txt.i_SAME_PLACE : ∃ t, mg "SAME_PLACE" = some (.int (6) t) := by
  obtain ⟨h, X, G, c⟩ := T
  exact SJ.i_SAME_PLACE X G c.t.d
theorem Txt.i_NO_ROOM : ∃ t, mg "NO_ROOM" = some (.int (7) t) := by
  obtain ⟨h, X, G, c⟩ := T
  exact SJ.i_NO_ROOM X G c.t.d
theorem Txt.i_NOT_LATER : ∃ t, mg "NOT_LATER" = some (.int (8) t) := by
  obtain ⟨h, X, G, c⟩ := T
  exact SJ.i_NOT_LATER X G c.t.d
theorem Txt.i_NOT_AS_TOLD : ∃ t, mg "NOT_AS_TOLD" = some (.int (-1) t) := by
  obtain ⟨h, X, G, c⟩ := T
  exact SJ.i_NOT_AS_TOLD X G c.t.d
theorem Txt.i_NO_PLACE : ∃ t, mg "NO_PLACE" = some (.int (-4) t) := by
  obtain ⟨h, X, G, c⟩ := T
  exact SJ.i_NO_PLACE X G c.t.d
theorem Txt.i_NO_NAME : ∃ t, mg "NO_NAME" = some (.int (-5) t) := by
  obtain ⟨h, X, G, c⟩ := T
  exact SJ.i_NO_NAME X G c.t.d
theorem Txt.i_NOTHING_SURE : ∃ t, mg "NOTHING_SURE" = some (.int (-7) t) := by
  obtain ⟨h, X, G, c⟩ := T
  exact SJ.i_NOTHING_SURE X G c.t.d
theorem Txt.i_OUT_OF_DAYS : ∃ t, mg "OUT_OF_DAYS" = some (.int (-8) t) := by
  obtain ⟨h, X, G, c⟩ := T
  exact SJ.i_OUT_OF_DAYS X G c.t.d
theorem Txt.g_SHAPES : mg "SHAPES" = some (.ref (He.ga K "SHAPES")) := by
  obtain ⟨h, X, G, c⟩ := T
  exact SJ.g_SHAPES X G c.t.d
theorem Txt.g_RANGES : mg "RANGES" = some (.ref (He.ga K "RANGES")) := by
  obtain ⟨h, X, G, c⟩ := T
  exact SJ.g_RANGES X G c.t.d
theorem Txt.g_ROWS : mg "ROWS" = some (.ref (He.ga K "ROWS")) := by
  obtain ⟨h, X, G, c⟩ := T
  exact SJ.g_ROWS X G c.t.d
theorem Txt.c_Place : Cls K (He.ga K "Place") := by
  obtain ⟨h, X, G, c⟩ := T
  exact SJ.c_Place c.t.d
theorem Txt.k_Place : Mk K (He.ga K "Place") (He.ma K (He.ga K "Place") "__init__") := by
  obtain ⟨h, X, G, c⟩ := T
  exact SJ.k_Place c.t.d
theorem Txt.n_Place_name : NoAttr K (He.ga K "Place") "name" := by
  obtain ⟨h, X, G, c⟩ := T
  exact SJ.n_Place_name c.t.d
theorem Txt.n_Place_handling : NoAttr K (He.ga K "Place") "handling" := by
  obtain ⟨h, X, G, c⟩ := T
  exact SJ.n_Place_handling c.t.d
theorem Txt.c_Car : Cls K (He.ga K "Car") := by
  obtain ⟨h, X, G, c⟩ := T
  exact SJ.c_Car c.t.d
theorem Txt.k_Car : Mk K (He.ga K "Car") (He.ma K (He.ga K "Car") "__init__") := by
  obtain ⟨h, X, G, c⟩ := T
  exact SJ.k_Car c.t.d
theorem Txt.n_Car_name : NoAttr K (He.ga K "Car") "name" := by
  obtain ⟨h, X, G, c⟩ := T
  exact SJ.n_Car_name c.t.d
theorem Txt.n_Car_start : NoAttr K (He.ga K "Car") "start" := by
  obtain ⟨h, X, G, c⟩ := T
  exact SJ.n_Car_start c.t.d
theorem Txt.n_Car_end : NoAttr K (He.ga K "Car") "end" := by
  obtain ⟨h, X, G, c⟩ := T
  exact SJ.n_Car_end c.t.d
theorem Txt.n_Car_long : NoAttr K (He.ga K "Car") "long" := by
  obtain ⟨h, X, G, c⟩ := T
  exact SJ.n_Car_long c.t.d
theorem Txt.c_Departure : Cls K (He.ga K "Departure") := by
  obtain ⟨h, X, G, c⟩ := T
  exact SJ.c_Departure c.t.d
theorem Txt.k_Departure : Mk K (He.ga K "Departure") (He.ma K (He.ga K "Departure") "__init__") := by
  obtain ⟨h, X, G, c⟩ := T
  exact SJ.k_Departure c.t.d
theorem Txt.n_Departure_name : NoAttr K (He.ga K "Departure") "name" := by
  obtain ⟨h, X, G, c⟩ := T
  exact SJ.n_Departure_name c.t.d
theorem Txt.n_Departure_start : NoAttr K (He.ga K "Departure") "start" := by
  obtain ⟨h, X, G, c⟩ := T
  exact SJ.n_Departure_start c.t.d
theorem Txt.n_Departure_leaves : NoAttr K (He.ga K "Departure") "leaves" := by
  obtain ⟨h, X, G, c⟩ := T
  exact SJ.n_Departure_leaves c.t.d
theorem Txt.n_Departure_end : NoAttr K (He.ga K "Departure") "end" := by
  obtain ⟨h, X, G, c⟩ := T
  exact SJ.n_Departure_end c.t.d
theorem Txt.n_Departure_comes : NoAttr K (He.ga K "Departure") "comes" := by
  obtain ⟨h, X, G, c⟩ := T
  exact SJ.n_Departure_comes c.t.d
theorem Txt.c_Net : Cls K (He.ga K "Net") := by
  obtain ⟨h, X, G, c⟩ := T
  exact SJ.c_Net c.t.d
theorem Txt.k_Net : Mk K (He.ga K "Net") (He.ma K (He.ga K "Net") "__init__") := by
  obtain ⟨h, X, G, c⟩ := T
  exact SJ.k_Net c.t.d
theorem Txt.n_Net_places : NoAttr K (He.ga K "Net") "places" := by
  obtain ⟨h, X, G, c⟩ := T
  exact SJ.n_Net_places c.t.d
theorem Txt.n_Net_cars : NoAttr K (He.ga K "Net") "cars" := by
  obtain ⟨h, X, G, c⟩ := T
  exact SJ.n_Net_cars c.t.d
theorem Txt.n_Net_goes : NoAttr K (He.ga K "Net") "goes" := by
  obtain ⟨h, X, G, c⟩ := T
  exact SJ.n_Net_goes c.t.d
theorem Txt.c_Sureness : Cls K (He.ga K "Sureness") := by
  obtain ⟨h, X, G, c⟩ := T
  exact SJ.c_Sureness c.t.d
theorem Txt.k_Sureness : Mk K (He.ga K "Sureness") (He.ma K (He.ga K "Sureness") "__init__") := by
  obtain ⟨h, X, G, c⟩ := T
  exact SJ.k_Sureness c.t.d
theorem Txt.n_Sureness_net : NoAttr K (He.ga K "Sureness") "net" := by
  obtain ⟨h, X, G, c⟩ := T
  exact SJ.n_Sureness_net c.t.d
theorem Txt.n_Sureness_goal : NoAttr K (He.ga K "Sureness") "goal" := by
  obtain ⟨h, X, G, c⟩ := T
  exact SJ.n_Sureness_goal c.t.d
theorem Txt.n_Sureness_come : NoAttr K (He.ga K "Sureness") "come" := by
  obtain ⟨h, X, G, c⟩ := T
  exact SJ.n_Sureness_come c.t.d
theorem Txt.n_Sureness_worths : NoAttr K (He.ga K "Sureness") "worths" := by
  obtain ⟨h, X, G, c⟩ := T
  exact SJ.n_Sureness_worths c.t.d
theorem Txt.m_Sureness_by_cars : Meth K (He.ga K "Sureness") "by_cars" (He.ma K (He.ga K "Sureness") "by_cars") := by
  obtain ⟨h, X, G, c⟩ := T
  exact SJ.m_Sureness_by_cars c.t.d
theorem Txt.m_Sureness_ready_in : Meth K (He.ga K "Sureness") "ready_in" (He.ma K (He.ga K "Sureness") "ready_in") := by
  obtain ⟨h, X, G, c⟩ := T
  exact SJ.m_Sureness_ready_in c.t.d
theorem Txt.m_Sureness_is_in_time : Meth K (He.ga K "Sureness") "is_in_time" (He.ma K (He.ga K "Sureness") "is_in_time") := by
  obtain ⟨h, X, G, c⟩ := T
  exact SJ.m_Sureness_is_in_time c.t.d
theorem Txt.m_Sureness_sure : Meth K (He.ga K "Sureness") "sure" (He.ma K (He.ga K "Sureness") "sure") := by
  obtain ⟨h, X, G, c⟩ := T
  exact SJ.m_Sureness_sure c.t.d
theorem Txt.m_Sureness_if_it_goes : Meth K (He.ga K "Sureness") "if_it_goes" (He.ma K (He.ga K "Sureness") "if_it_goes") := by
  obtain ⟨h, X, G, c⟩ := T
  exact SJ.m_Sureness_if_it_goes c.t.d
theorem Txt.m_Sureness_if_cancelled : Meth K (He.ga K "Sureness") "if_cancelled" (He.ma K (He.ga K "Sureness") "if_cancelled") := by
  obtain ⟨h, X, G, c⟩ := T
  exact SJ.m_Sureness_if_cancelled c.t.d
theorem Txt.m_Sureness_worth_of : Meth K (He.ga K "Sureness") "worth_of" (He.ma K (He.ga K "Sureness") "worth_of") := by
  obtain ⟨h, X, G, c⟩ := T
  exact SJ.m_Sureness_worth_of c.t.d
theorem Txt.m_Sureness_car_to_goal : Meth K (He.ga K "Sureness") "car_to_goal" (He.ma K (He.ga K "Sureness") "car_to_goal") := by
  obtain ⟨h, X, G, c⟩ := T
  exact SJ.m_Sureness_car_to_goal c.t.d
theorem Txt.m_Sureness_car_to_ready : Meth K (He.ga K "Sureness") "car_to_ready" (He.ma K (He.ga K "Sureness") "car_to_ready") := by
  obtain ⟨h, X, G, c⟩ := T
  exact SJ.m_Sureness_car_to_ready c.t.d
theorem Txt.m_Sureness_first_going : Meth K (He.ga K "Sureness") "first_going" (He.ma K (He.ga K "Sureness") "first_going") := by
  obtain ⟨h, X, G, c⟩ := T
  exact SJ.m_Sureness_first_going c.t.d
theorem Txt.m_Sureness_to_do : Meth K (He.ga K "Sureness") "to_do" (He.ma K (He.ga K "Sureness") "to_do") := by
  obtain ⟨h, X, G, c⟩ := T
  exact SJ.m_Sureness_to_do c.t.d
theorem Txt.c_Line : Cls K (He.ga K "Line") := by
  obtain ⟨h, X, G, c⟩ := T
  exact SJ.c_Line c.t.d
theorem Txt.k_Line : Mk K (He.ga K "Line") (He.ma K (He.ga K "Line") "__init__") := by
  obtain ⟨h, X, G, c⟩ := T
  exact SJ.k_Line c.t.d
theorem Txt.n_Line_words : NoAttr K (He.ga K "Line") "words" := by
  obtain ⟨h, X, G, c⟩ := T
  exact SJ.n_Line_words c.t.d
theorem Txt.n_Line_behind : NoAttr K (He.ga K "Line") "behind" := by
  obtain ⟨h, X, G, c⟩ := T
  exact SJ.n_Line_behind c.t.d
theorem Txt.n_Line_turn : NoAttr K (He.ga K "Line") "turn" := by
  obtain ⟨h, X, G, c⟩ := T
  exact SJ.n_Line_turn c.t.d
theorem Txt.m_Line_is_over : Meth K (He.ga K "Line") "is_over" (He.ma K (He.ga K "Line") "is_over") := by
  obtain ⟨h, X, G, c⟩ := T
  exact SJ.m_Line_is_over c.t.d
theorem Txt.m_Line_place_here : Meth K (He.ga K "Line") "place_here" (He.ma K (He.ga K "Line") "place_here") := by
  obtain ⟨h, X, G, c⟩ := T
  exact SJ.m_Line_place_here c.t.d
theorem Txt.m_Line_refuse : Meth K (He.ga K "Line") "refuse" (He.ma K (He.ga K "Line") "refuse") := by
  obtain ⟨h, X, G, c⟩ := T
  exact SJ.m_Line_refuse c.t.d
theorem Txt.m_Line_word_here : Meth K (He.ga K "Line") "word_here" (He.ma K (He.ga K "Line") "word_here") := by
  obtain ⟨h, X, G, c⟩ := T
  exact SJ.m_Line_word_here c.t.d
theorem Txt.m_Line_take : Meth K (He.ga K "Line") "take" (He.ma K (He.ga K "Line") "take") := by
  obtain ⟨h, X, G, c⟩ := T
  exact SJ.m_Line_take c.t.d
theorem Txt.m_Line_read_name : Meth K (He.ga K "Line") "read_name" (He.ma K (He.ga K "Line") "read_name") := by
  obtain ⟨h, X, G, c⟩ := T
  exact SJ.m_Line_read_name c.t.d
theorem Txt.m_Line_read_place : Meth K (He.ga K "Line") "read_place" (He.ma K (He.ga K "Line") "read_place") := by
  obtain ⟨h, X, G, c⟩ := T
  exact SJ.m_Line_read_place c.t.d
theorem Txt.m_Line_number_here : Meth K (He.ga K "Line") "number_here" (He.ma K (He.ga K "Line") "number_here") := by
  obtain ⟨h, X, G, c⟩ := T
  exact SJ.m_Line_number_here c.t.d
theorem Txt.m_Line_read_number : Meth K (He.ga K "Line") "read_number" (He.ma K (He.ga K "Line") "read_number") := by
  obtain ⟨h, X, G, c⟩ := T
  exact SJ.m_Line_read_number c.t.d
theorem Txt.m_Line_want_end : Meth K (He.ga K "Line") "want_end" (He.ma K (He.ga K "Line") "want_end") := by
  obtain ⟨h, X, G, c⟩ := T
  exact SJ.m_Line_want_end c.t.d
theorem Txt.c_Desk : Cls K (He.ga K "Desk") := by
  obtain ⟨h, X, G, c⟩ := T
  exact SJ.c_Desk c.t.d
theorem Txt.k_Desk : Mk K (He.ga K "Desk") (He.ma K (He.ga K "Desk") "__init__") := by
  obtain ⟨h, X, G, c⟩ := T
  exact SJ.k_Desk c.t.d
theorem Txt.n_Desk_net : NoAttr K (He.ga K "Desk") "net" := by
  obtain ⟨h, X, G, c⟩ := T
  exact SJ.n_Desk_net c.t.d
theorem Txt.m_Desk_read : Meth K (He.ga K "Desk") "read" (He.ma K (He.ga K "Desk") "read") := by
  obtain ⟨h, X, G, c⟩ := T
  exact SJ.m_Desk_read c.t.d
theorem Txt.m_Desk_leave_out : Meth K (He.ga K "Desk") "leave_out" (He.ma K (He.ga K "Desk") "leave_out") := by
  obtain ⟨h, X, G, c⟩ := T
  exact SJ.m_Desk_leave_out c.t.d
theorem Txt.m_Desk_shift : Meth K (He.ga K "Desk") "shift" (He.ma K (He.ga K "Desk") "shift") := by
  obtain ⟨h, X, G, c⟩ := T
  exact SJ.m_Desk_shift c.t.d
theorem Txt.m_Desk_call : Meth K (He.ga K "Desk") "call" (He.ma K (He.ga K "Desk") "call") := by
  obtain ⟨h, X, G, c⟩ := T
  exact SJ.m_Desk_call c.t.d
theorem Txt.n_Fault_kind : NoAttr K (He.ga K "Fault") "kind" := by
  obtain ⟨h, X, G, c⟩ := T
  exact SJ.n_Fault_kind c.t.d
theorem Txt.n_Fault_at : NoAttr K (He.ga K "Fault") "at" := by
  obtain ⟨h, X, G, c⟩ := T
  exact SJ.n_Fault_at c.t.d
theorem Txt.x_Fault : PySem.W.exmOne K (.ref (He.ga K "Fault")) (.ref (He.ga K "Fault")) = some true := by
  obtain ⟨h, X, G, c⟩ := T
  exact SJ.x_Fault c.t.d
theorem Txt.f_number_of : ∃ fd, FunD K "number_of" "number_of" (defArgs s_number_of) (defBody s_number_of) (defScope s_number_of) [] [] (He.ga K "number_of") fd := by
  obtain ⟨h, X, G, c⟩ := T
  exact SJ.f_number_of c.t.d
theorem Txt.f_without : ∃ fd, FunD K "without" "without" (defArgs s_without) (defBody s_without) (defScope s_without) [] [] (He.ga K "without") fd := by
  obtain ⟨h, X, G, c⟩ := T
  exact SJ.f_without c.t.d
theorem Txt.f_shifted : ∃ fd, FunD K "shifted" "shifted" (defArgs s_shifted) (defBody s_shifted) (defScope s_shifted) [] [] (He.ga K "shifted") fd := by
  obtain ⟨h, X, G, c⟩ := T
  exact SJ.f_shifted c.t.d
theorem Txt.f_come_tables : ∃ fd, FunD K "come_tables" "come_tables" (defArgs s_come_tables) (defBody s_come_tables) (defScope s_come_tables) [] [] (He.ga K "come_tables") fd := by
  obtain ⟨h, X, G, c⟩ := T
  exact SJ.f_come_tables c.t.d
theorem Txt.f_put_shorter : ∃ fd, FunD K "put_shorter" "put_shorter" (defArgs s_put_shorter) (defBody s_put_shorter) (defScope s_put_shorter) [] [] (He.ga K "put_shorter") fd := by
  obtain ⟨h, X, G, c⟩ := T
  exact SJ.f_put_shorter c.t.d
theorem Txt.f_lesser : ∃ fd, FunD K "lesser" "lesser" (defArgs s_lesser) (defBody s_lesser) (defScope s_lesser) [] [] (He.ga K "lesser") fd := by
  obtain ⟨h, X, G, c⟩ := T
  exact SJ.f_lesser c.t.d
theorem Txt.f_greater : ∃ fd, FunD K "greater" "greater" (defArgs s_greater) (defBody s_greater) (defScope s_greater) [] [] (He.ga K "greater") fd := by
  obtain ⟨h, X, G, c⟩ := T
  exact SJ.f_greater c.t.d
theorem Txt.f_summed : ∃ fd, FunD K "summed" "summed" (defArgs s_summed) (defBody s_summed) (defScope s_summed) [] [] (He.ga K "summed") fd := by
  obtain ⟨h, X, G, c⟩ := T
  exact SJ.f_summed c.t.d
theorem Txt.f_behind_car : ∃ fd, FunD K "behind_car" "behind_car" (defArgs s_behind_car) (defBody s_behind_car) (defScope s_behind_car) [] [] (He.ga K "behind_car") fd := by
  obtain ⟨h, X, G, c⟩ := T
  exact SJ.f_behind_car c.t.d
theorem Txt.f_behind_going : ∃ fd, FunD K "behind_going" "behind_going" (defArgs s_behind_going) (defBody s_behind_going) (defScope s_behind_going) [] [] (He.ga K "behind_going") fd := by
  obtain ⟨h, X, G, c⟩ := T
  exact SJ.f_behind_going c.t.d
theorem Txt.f_played : ∃ fd, FunD K "played" "played" (defArgs s_played) (defBody s_played) (defScope s_played) [] [] (He.ga K "played") fd := by
  obtain ⟨h, X, G, c⟩ := T
  exact SJ.f_played c.t.d
theorem Txt.f_worst_case : ∃ fd, FunD K "worst_case" "worst_case" (defArgs s_worst_case) (defBody s_worst_case) (defScope s_worst_case) [] [] (He.ga K "worst_case") fd := by
  obtain ⟨h, X, G, c⟩ := T
  exact SJ.f_worst_case c.t.d
theorem Txt.f_last_minute : ∃ fd, FunD K "last_minute" "last_minute" (defArgs s_last_minute) (defBody s_last_minute) (defScope s_last_minute) [] [] (He.ga K "last_minute") fd := by
  obtain ⟨h, X, G, c⟩ := T
  exact SJ.f_last_minute c.t.d
theorem Txt.f_just_ready_minutes : ∃ fd, FunD K "just_ready_minutes" "just_ready_minutes" (defArgs s_just_ready_minutes) (defBody s_just_ready_minutes) (defScope s_just_ready_minutes) [] [] (He.ga K "just_ready_minutes") fd := by
  obtain ⟨h, X, G, c⟩ := T
  exact SJ.f_just_ready_minutes c.t.d
theorem Txt.f_is_step : ∃ fd, FunD K "is_step" "is_step" (defArgs s_is_step) (defBody s_is_step) (defScope s_is_step) [] [] (He.ga K "is_step") fd := by
  obtain ⟨h, X, G, c⟩ := T
  exact SJ.f_is_step c.t.d
theorem Txt.f_profile_of : ∃ fd, FunD K "profile_of" "profile_of" (defArgs s_profile_of) (defBody s_profile_of) (defScope s_profile_of) [] [] (He.ga K "profile_of") fd := by
  obtain ⟨h, X, G, c⟩ := T
  exact SJ.f_profile_of c.t.d
theorem Txt.f_bytes_of : ∃ fd, FunD K "bytes_of" "bytes_of" (defArgs s_bytes_of) (defBody s_bytes_of) (defScope s_bytes_of) [] [] (He.ga K "bytes_of") fd := by
  obtain ⟨h, X, G, c⟩ := T
  exact SJ.f_bytes_of c.t.d
theorem Txt.f_is_digit : ∃ fd, FunD K "is_digit" "is_digit" (defArgs s_is_digit) (defBody s_is_digit) (defScope s_is_digit) [] [] (He.ga K "is_digit") fd := by
  obtain ⟨h, X, G, c⟩ := T
  exact SJ.f_is_digit c.t.d
theorem Txt.f_is_small : ∃ fd, FunD K "is_small" "is_small" (defArgs s_is_small) (defBody s_is_small) (defScope s_is_small) [] [] (He.ga K "is_small") fd := by
  obtain ⟨h, X, G, c⟩ := T
  exact SJ.f_is_small c.t.d
theorem Txt.f_is_name : ∃ fd, FunD K "is_name" "is_name" (defArgs s_is_name) (defBody s_is_name) (defScope s_is_name) [] [] (He.ga K "is_name") fd := by
  obtain ⟨h, X, G, c⟩ := T
  exact SJ.f_is_name c.t.d
theorem Txt.f_is_number : ∃ fd, FunD K "is_number" "is_number" (defArgs s_is_number) (defBody s_is_number) (defScope s_is_number) [] [] (He.ga K "is_number") fd := by
  obtain ⟨h, X, G, c⟩ := T
  exact SJ.f_is_number c.t.d
theorem Txt.f_worth_of : ∃ fd, FunD K "worth_of" "worth_of" (defArgs s_worth_of) (defBody s_worth_of) (defScope s_worth_of) [] [] (He.ga K "worth_of") fd := by
  obtain ⟨h, X, G, c⟩ := T
  exact SJ.f_worth_of c.t.d
theorem Txt.f_ends_of_lines : ∃ fd, FunD K "ends_of_lines" "ends_of_lines" (defArgs s_ends_of_lines) (defBody s_ends_of_lines) (defScope s_ends_of_lines) [] [] (He.ga K "ends_of_lines") fd := by
  obtain ⟨h, X, G, c⟩ := T
  exact SJ.f_ends_of_lines c.t.d
theorem Txt.f_words_between : ∃ fd, FunD K "words_between" "words_between" (defArgs s_words_between) (defBody s_words_between) (defScope s_words_between) [] [] (He.ga K "words_between") fd := by
  obtain ⟨h, X, G, c⟩ := T
  exact SJ.f_words_between c.t.d
theorem Txt.f_want_room : ∃ fd, FunD K "want_room" "want_room" (defArgs s_want_room) (defBody s_want_room) (defScope s_want_room) [] [] (He.ga K "want_room") fd := by
  obtain ⟨h, X, G, c⟩ := T
  exact SJ.f_want_room c.t.d
theorem Txt.f_read_place_line : ∃ fd, FunD K "read_place_line" "read_place_line" (defArgs s_read_place_line) (defBody s_read_place_line) (defScope s_read_place_line) [] [] (He.ga K "read_place_line") fd := by
  obtain ⟨h, X, G, c⟩ := T
  exact SJ.f_read_place_line c.t.d
theorem Txt.f_read_car_line : ∃ fd, FunD K "read_car_line" "read_car_line" (defArgs s_read_car_line) (defBody s_read_car_line) (defScope s_read_car_line) [] [] (He.ga K "read_car_line") fd := by
  obtain ⟨h, X, G, c⟩ := T
  exact SJ.f_read_car_line c.t.d
theorem Txt.f_read_go_line : ∃ fd, FunD K "read_go_line" "read_go_line" (defArgs s_read_go_line) (defBody s_read_go_line) (defScope s_read_go_line) [] [] (He.ga K "read_go_line") fd := by
  obtain ⟨h, X, G, c⟩ := T
  exact SJ.f_read_go_line c.t.d
theorem Txt.f_read_line : ∃ fd, FunD K "read_line" "read_line" (defArgs s_read_line) (defBody s_read_line) (defScope s_read_line) [] [] (He.ga K "read_line") fd := by
  obtain ⟨h, X, G, c⟩ := T
  exact SJ.f_read_line c.t.d
theorem Txt.f_read_net : ∃ fd, FunD K "read_net" "read_net" (defArgs s_read_net) (defBody s_read_net) (defScope s_read_net) [] [] (He.ga K "read_net") fd := by
  obtain ⟨h, X, G, c⟩ := T
  exact SJ.f_read_net c.t.d
theorem Txt.f_row_of : ∃ fd, FunD K "row_of" "row_of" (defArgs s_row_of) (defBody s_row_of) (defScope s_row_of) [] [] (He.ga K "row_of") fd := by
  obtain ⟨h, X, G, c⟩ := T
  exact SJ.f_row_of c.t.d
theorem Txt.f_net_bytes : ∃ fd, FunD K "net_bytes" "net_bytes" (defArgs s_net_bytes) (defBody s_net_bytes) (defScope s_net_bytes) [] [] (He.ga K "net_bytes") fd := by
  obtain ⟨h, X, G, c⟩ := T
  exact SJ.f_net_bytes c.t.d
theorem Txt.f_is_as_told : ∃ fd, FunD K "is_as_told" "is_as_told" (defArgs s_is_as_told) (defBody s_is_as_told) (defScope s_is_as_told) [] [] (He.ga K "is_as_told") fd := by
  obtain ⟨h, X, G, c⟩ := T
  exact SJ.f_is_as_told c.t.d
theorem Txt.f_state_answer : ∃ fd, FunD K "state_answer" "state_answer" (defArgs s_state_answer) (defBody s_state_answer) (defScope s_state_answer) [] [] (He.ga K "state_answer") fd := by
  obtain ⟨h, X, G, c⟩ := T
  exact SJ.f_state_answer c.t.d
theorem Txt.f_sure_answer : ∃ fd, FunD K "sure_answer" "sure_answer" (defArgs s_sure_answer) (defBody s_sure_answer) (defScope s_sure_answer) [] [] (He.ga K "sure_answer") fd := by
  obtain ⟨h, X, G, c⟩ := T
  exact SJ.f_sure_answer c.t.d
theorem Txt.f_table_answer : ∃ fd, FunD K "table_answer" "table_answer" (defArgs s_table_answer) (defBody s_table_answer) (defScope s_table_answer) [] [] (He.ga K "table_answer") fd := by
  obtain ⟨h, X, G, c⟩ := T
  exact SJ.f_table_answer c.t.d
theorem Txt.f_next_answer : ∃ fd, FunD K "next_answer" "next_answer" (defArgs s_next_answer) (defBody s_next_answer) (defScope s_next_answer) [] [] (He.ga K "next_answer") fd := by
  obtain ⟨h, X, G, c⟩ := T
  exact SJ.f_next_answer c.t.d
theorem Txt.f_play_answer : ∃ fd, FunD K "play_answer" "play_answer" (defArgs s_play_answer) (defBody s_play_answer) (defScope s_play_answer) [] [] (He.ga K "play_answer") fd := by
  obtain ⟨h, X, G, c⟩ := T
  exact SJ.f_play_answer c.t.d
theorem Txt.f_profile_answer : ∃ fd, FunD K "profile_answer" "profile_answer" (defArgs s_profile_answer) (defBody s_profile_answer) (defScope s_profile_answer) [] [] (He.ga K "profile_answer") fd := by
  obtain ⟨h, X, G, c⟩ := T
  exact SJ.f_profile_answer c.t.d
theorem Txt.f_worst_answer : ∃ fd, FunD K "worst_answer" "worst_answer" (defArgs s_worst_answer) (defBody s_worst_answer) (defScope s_worst_answer) [] [] (He.ga K "worst_answer") fd := by
  obtain ⟨h, X, G, c⟩ := T
  exact SJ.f_worst_answer c.t.d
theorem Txt.f_who_answer : ∃ fd, FunD K "who_answer" "who_answer" (defArgs s_who_answer) (defBody s_who_answer) (defScope s_who_answer) [] [] (He.ga K "who_answer") fd := by
  obtain ⟨h, X, G, c⟩ := T
  exact SJ.f_who_answer c.t.d
theorem Txt.f_stands_answer : ∃ fd, FunD K "stands_answer" "stands_answer" (defArgs s_stands_answer) (defBody s_stands_answer) (defScope s_stands_answer) [] [] (He.ga K "stands_answer") fd := by
  obtain ⟨h, X, G, c⟩ := T
  exact SJ.f_stands_answer c.t.d
theorem Txt.f_find_answer : ∃ fd, FunD K "find_answer" "find_answer" (defArgs s_find_answer) (defBody s_find_answer) (defScope s_find_answer) [] [] (He.ga K "find_answer") fd := by
  obtain ⟨h, X, G, c⟩ := T
  exact SJ.f_find_answer c.t.d
theorem Txt.f_asked_of_ways : ∃ fd, FunD K "asked_of_ways" "asked_of_ways" (defArgs s_asked_of_ways) (defBody s_asked_of_ways) (defScope s_asked_of_ways) [] [] (He.ga K "asked_of_ways") fd := by
  obtain ⟨h, X, G, c⟩ := T
  exact SJ.f_asked_of_ways c.t.d
theorem Txt.f_answers : ∃ fd, FunD K "answers" "answers" (defArgs s_answers) (defBody s_answers) (defScope s_answers) [] [] (He.ga K "answers") fd := by
  obtain ⟨h, X, G, c⟩ := T
  exact SJ.f_answers c.t.d
theorem Txt.f_Place_init : ∃ fd, FunD K "__init__" "Place.__init__" (defArgs s_Place_init) (defBody s_Place_init) (defScope s_Place_init) [] [] (He.ma K (He.ga K "Place") "__init__") fd := by
  obtain ⟨h, X, G, c⟩ := T
  exact SJ.f_Place_init c.t.d
theorem Txt.f_Car_init : ∃ fd, FunD K "__init__" "Car.__init__" (defArgs s_Car_init) (defBody s_Car_init) (defScope s_Car_init) [] [] (He.ma K (He.ga K "Car") "__init__") fd := by
  obtain ⟨h, X, G, c⟩ := T
  exact SJ.f_Car_init c.t.d
theorem Txt.f_Departure_init : ∃ fd, FunD K "__init__" "Departure.__init__" (defArgs s_Departure_init) (defBody s_Departure_init) (defScope s_Departure_init) [] [] (He.ma K (He.ga K "Departure") "__init__") fd := by
  obtain ⟨h, X, G, c⟩ := T
  exact SJ.f_Departure_init c.t.d
theorem Txt.f_Net_init : ∃ fd, FunD K "__init__" "Net.__init__" (defArgs s_Net_init) (defBody s_Net_init) (defScope s_Net_init) [] [] (He.ma K (He.ga K "Net") "__init__") fd := by
  obtain ⟨h, X, G, c⟩ := T
  exact SJ.f_Net_init c.t.d
theorem Txt.f_Sureness_init : ∃ fd, FunD K "__init__" "Sureness.__init__" (defArgs s_Sureness_init) (defBody s_Sureness_init) (defScope s_Sureness_init) [] [] (He.ma K (He.ga K "Sureness") "__init__") fd := by
  obtain ⟨h, X, G, c⟩ := T
  exact SJ.f_Sureness_init c.t.d
theorem Txt.f_Sureness_by_cars : ∃ fd, FunD K "by_cars" "Sureness.by_cars" (defArgs s_Sureness_by_cars) (defBody s_Sureness_by_cars) (defScope s_Sureness_by_cars) [] [] (He.ma K (He.ga K "Sureness") "by_cars") fd := by
  obtain ⟨h, X, G, c⟩ := T
  exact SJ.f_Sureness_by_cars c.t.d
theorem Txt.f_Sureness_ready_in : ∃ fd, FunD K "ready_in" "Sureness.ready_in" (defArgs s_Sureness_ready_in) (defBody s_Sureness_ready_in) (defScope s_Sureness_ready_in) [] [] (He.ma K (He.ga K "Sureness") "ready_in") fd := by
  obtain ⟨h, X, G, c⟩ := T
  exact SJ.f_Sureness_ready_in c.t.d
theorem Txt.f_Sureness_is_in_time : ∃ fd, FunD K "is_in_time" "Sureness.is_in_time" (defArgs s_Sureness_is_in_time) (defBody s_Sureness_is_in_time) (defScope s_Sureness_is_in_time) [] [] (He.ma K (He.ga K "Sureness") "is_in_time") fd := by
  obtain ⟨h, X, G, c⟩ := T
  exact SJ.f_Sureness_is_in_time c.t.d
theorem Txt.f_Sureness_sure : ∃ fd, FunD K "sure" "Sureness.sure" (defArgs s_Sureness_sure) (defBody s_Sureness_sure) (defScope s_Sureness_sure) [] [] (He.ma K (He.ga K "Sureness") "sure") fd := by
  obtain ⟨h, X, G, c⟩ := T
  exact SJ.f_Sureness_sure c.t.d
theorem Txt.f_Sureness_if_it_goes : ∃ fd, FunD K "if_it_goes" "Sureness.if_it_goes" (defArgs s_Sureness_if_it_goes) (defBody s_Sureness_if_it_goes) (defScope s_Sureness_if_it_goes) [] [] (He.ma K (He.ga K "Sureness") "if_it_goes") fd := by
  obtain ⟨h, X, G, c⟩ := T
  exact SJ.f_Sureness_if_it_goes c.t.d
theorem Txt.f_Sureness_if_cancelled : ∃ fd, FunD K "if_cancelled" "Sureness.if_cancelled" (defArgs s_Sureness_if_cancelled) (defBody s_Sureness_if_cancelled) (defScope s_Sureness_if_cancelled) [] [] (He.ma K (He.ga K "Sureness") "if_cancelled") fd := by
  obtain ⟨h, X, G, c⟩ := T
  exact SJ.f_Sureness_if_cancelled c.t.d
theorem Txt.f_Sureness_worth_of : ∃ fd, FunD K "worth_of" "Sureness.worth_of" (defArgs s_Sureness_worth_of) (defBody s_Sureness_worth_of) (defScope s_Sureness_worth_of) [] [] (He.ma K (He.ga K "Sureness") "worth_of") fd := by
  obtain ⟨h, X, G, c⟩ := T
  exact SJ.f_Sureness_worth_of c.t.d
theorem Txt.f_Sureness_car_to_goal : ∃ fd, FunD K "car_to_goal" "Sureness.car_to_goal" (defArgs s_Sureness_car_to_goal) (defBody s_Sureness_car_to_goal) (defScope s_Sureness_car_to_goal) [] [] (He.ma K (He.ga K "Sureness") "car_to_goal") fd := by
  obtain ⟨h, X, G, c⟩ := T
  exact SJ.f_Sureness_car_to_goal c.t.d
theorem Txt.f_Sureness_car_to_ready : ∃ fd, FunD K "car_to_ready" "Sureness.car_to_ready" (defArgs s_Sureness_car_to_ready) (defBody s_Sureness_car_to_ready) (defScope s_Sureness_car_to_ready) [] [] (He.ma K (He.ga K "Sureness") "car_to_ready") fd := by
  obtain ⟨h, X, G, c⟩ := T
  exact SJ.f_Sureness_car_to_ready c.t.d
theorem Txt.f_Sureness_first_going : ∃ fd, FunD K "first_going" "Sureness.first_going" (defArgs s_Sureness_first_going) (defBody s_Sureness_first_going) (defScope s_Sureness_first_going) [] [] (He.ma K (He.ga K "Sureness") "first_going") fd := by
  obtain ⟨h, X, G, c⟩ := T
  exact SJ.f_Sureness_first_going c.t.d
theorem Txt.f_Sureness_to_do : ∃ fd, FunD K "to_do" "Sureness.to_do" (defArgs s_Sureness_to_do) (defBody s_Sureness_to_do) (defScope s_Sureness_to_do) [] [] (He.ma K (He.ga K "Sureness") "to_do") fd := by
  obtain ⟨h, X, G, c⟩ := T
  exact SJ.f_Sureness_to_do c.t.d
theorem Txt.f_Fault_init : ∃ fd, FunD K "__init__" "Fault.__init__" (defArgs s_Fault_init) (defBody s_Fault_init) (defScope s_Fault_init) [] [] (He.ma K (He.ga K "Fault") "__init__") fd := by
  obtain ⟨h, X, G, c⟩ := T
  exact SJ.f_Fault_init c.t.d
theorem Txt.f_Line_init : ∃ fd, FunD K "__init__" "Line.__init__" (defArgs s_Line_init) (defBody s_Line_init) (defScope s_Line_init) [] [] (He.ma K (He.ga K "Line") "__init__") fd := by
  obtain ⟨h, X, G, c⟩ := T
  exact SJ.f_Line_init c.t.d
theorem Txt.f_Line_is_over : ∃ fd, FunD K "is_over" "Line.is_over" (defArgs s_Line_is_over) (defBody s_Line_is_over) (defScope s_Line_is_over) [] [] (He.ma K (He.ga K "Line") "is_over") fd := by
  obtain ⟨h, X, G, c⟩ := T
  exact SJ.f_Line_is_over c.t.d
theorem Txt.f_Line_place_here : ∃ fd, FunD K "place_here" "Line.place_here" (defArgs s_Line_place_here) (defBody s_Line_place_here) (defScope s_Line_place_here) [] [] (He.ma K (He.ga K "Line") "place_here") fd := by
  obtain ⟨h, X, G, c⟩ := T
  exact SJ.f_Line_place_here c.t.d
theorem Txt.f_Line_refuse : ∃ fd, FunD K "refuse" "Line.refuse" (defArgs s_Line_refuse) (defBody s_Line_refuse) (defScope s_Line_refuse) [] [] (He.ma K (He.ga K "Line") "refuse") fd := by
  obtain ⟨h, X, G, c⟩ := T
  exact SJ.f_Line_refuse c.t.d
theorem Txt.f_Line_word_here : ∃ fd, FunD K "word_here" "Line.word_here" (defArgs s_Line_word_here) (defBody s_Line_word_here) (defScope s_Line_word_here) [] [] (He.ma K (He.ga K "Line") "word_here") fd := by
  obtain ⟨h, X, G, c⟩ := T
  exact SJ.f_Line_word_here c.t.d
theorem Txt.f_Line_take : ∃ fd, FunD K "take" "Line.take" (defArgs s_Line_take) (defBody s_Line_take) (defScope s_Line_take) [] [] (He.ma K (He.ga K "Line") "take") fd := by
  obtain ⟨h, X, G, c⟩ := T
  exact SJ.f_Line_take c.t.d
theorem Txt.f_Line_read_name : ∃ fd, FunD K "read_name" "Line.read_name" (defArgs s_Line_read_name) (defBody s_Line_read_name) (defScope s_Line_read_name) [] [] (He.ma K (He.ga K "Line") "read_name") fd := by
  obtain ⟨h, X, G, c⟩ := T
  exact SJ.f_Line_read_name c.t.d
theorem Txt.f_Line_read_place : ∃ fd, FunD K "read_place" "Line.read_place" (defArgs s_Line_read_place) (defBody s_Line_read_place) (defScope s_Line_read_place) [] [] (He.ma K (He.ga K "Line") "read_place") fd := by
  obtain ⟨h, X, G, c⟩ := T
  exact SJ.f_Line_read_place c.t.d
theorem Txt.f_Line_number_here : ∃ fd, FunD K "number_here" "Line.number_here" (defArgs s_Line_number_here) (defBody s_Line_number_here) (defScope s_Line_number_here) [] [] (He.ma K (He.ga K "Line") "number_here") fd := by
  obtain ⟨h, X, G, c⟩ := T
  exact SJ.f_Line_number_here c.t.d
theorem Txt.f_Line_read_number : ∃ fd, FunD K "read_number" "Line.read_number" (defArgs s_Line_read_number) (defBody s_Line_read_number) (defScope s_Line_read_number) [] [] (He.ma K (He.ga K "Line") "read_number") fd := by
  obtain ⟨h, X, G, c⟩ := T
  exact SJ.f_Line_read_number c.t.d
theorem Txt.f_Line_want_end : ∃ fd, FunD K "want_end" "Line.want_end" (defArgs s_Line_want_end) (defBody s_Line_want_end) (defScope s_Line_want_end) [] [] (He.ma K (He.ga K "Line") "want_end") fd := by
  obtain ⟨h, X, G, c⟩ := T
  exact SJ.f_Line_want_end c.t.d
theorem Txt.f_Desk_init : ∃ fd, FunD K "__init__" "Desk.__init__" (defArgs s_Desk_init) (defBody s_Desk_init) (defScope s_Desk_init) [] [] (He.ma K (He.ga K "Desk") "__init__") fd := by
  obtain ⟨h, X, G, c⟩ := T
  exact SJ.f_Desk_init c.t.d
theorem Txt.f_Desk_read : ∃ fd, FunD K "read" "Desk.read" (defArgs s_Desk_read) (defBody s_Desk_read) (defScope s_Desk_read) [] [] (He.ma K (He.ga K "Desk") "read") fd := by
  obtain ⟨h, X, G, c⟩ := T
  exact SJ.f_Desk_read c.t.d
theorem Txt.f_Desk_leave_out : ∃ fd, FunD K "leave_out" "Desk.leave_out" (defArgs s_Desk_leave_out) (defBody s_Desk_leave_out) (defScope s_Desk_leave_out) [] [] (He.ma K (He.ga K "Desk") "leave_out") fd := by
  obtain ⟨h, X, G, c⟩ := T
  exact SJ.f_Desk_leave_out c.t.d
theorem Txt.f_Desk_shift : ∃ fd, FunD K "shift" "Desk.shift" (defArgs s_Desk_shift) (defBody s_Desk_shift) (defScope s_Desk_shift) [] [] (He.ma K (He.ga K "Desk") "shift") fd := by
  obtain ⟨h, X, G, c⟩ := T
  exact SJ.f_Desk_shift c.t.d
theorem Txt.f_Desk_call : ∃ fd, FunD K "call" "Desk.call" (defArgs s_Desk_call) (defBody s_Desk_call) (defScope s_Desk_call) [] [] (He.ma K (He.ga K "Desk") "call") fd := by
  obtain ⟨h, X, G, c⟩ := T
  exact SJ.f_Desk_call c.t.d
theorem Txt.oex : OexC K (He.ga K "Fault") := by
  obtain ⟨h, X, G, c⟩ := T
  exact SJ.says_oex c
end
end SJ
/-! The run of the program's top, once for each answer of the one row of the world that it asks. -/
namespace SJ
open PySem PySem.W PySem.Calls PyProof.Rows
abbrev R : OpenSpec := PySem.Challenge.rw_surejourney_s01_answers
abbrev qv : Program := view R.prog [92]
def names0 : List PySem.Str := ["Place", "Car", "Departure", "Net", "number_of", "without", "shifted", "come_tables", "put_shorter", "NONE", "MOST_CANCELLED", "AT_GOAL", "BY_CAR", "BY_GOING", "lesser", "greater", "summed", "Sureness", "CANCELLED", "behind_car", "behind_going", "played", "worst_case", "last_minute", "just_ready_minutes", "is_step", "profile_of", "LINE_END", "BLANK", "ZERO"]
def names1 : List PySem.Str := ["NINE", "FIRST_LETTER", "LAST_LETTER", "LONGEST_NAME", "MOST_DIGITS", "MOST_PLACES", "MOST_CARS", "MOST_GOES", "MOST_HANDLING", "MOST_LONG", "LAST_MINUTE", "WRONG_WORD", "OUT_OF_RANGE", "TOLD_BEFORE", "NO_SUCH_PLACE", "SAME_PLACE", "NO_ROOM", "NOT_LATER", "Fault", "bytes_of", "is_digit", "is_small", "is_name", "is_number", "worth_of", "ends_of_lines", "words_between", "Line", "want_room", "read_place_line"]
def names2 : List PySem.Str := ["read_car_line", "read_go_line", "read_line", "read_net", "row_of", "net_bytes", "NOT_AS_TOLD", "NO_PLACE", "NO_NAME", "NOTHING_SURE", "OUT_OF_DAYS", "SHAPES", "RANGES", "ROWS", "is_as_told", "state_answer", "sure_answer", "table_answer", "next_answer", "play_answer", "profile_answer", "worst_answer", "who_answer", "stands_answer", "find_answer", "asked_of_ways", "Desk"]
def names : List PySem.Str := names0 ++ names1 ++ names2
def ob (s : SharedT) : He.AlX := obsY (HandSHeadRun.getT s)
theorem ob_eq (s : SharedT) : ob s = hookY.obs s.abs := obsY_eq (HandSHeadRun.getT_eq s)
theorem runF (w : World) : HandSHeadRun.RunEqS R qv hookY ob 6000 names (w.withFollow "special-get-raises" false) := by
  intro os
  kernel_rfl
theorem runT (w : World) : HandSHeadRun.RunEqS R qv hookY ob 6000 names (w.withFollow "special-get-raises" true) := by
  intro os
  kernel_rfl
theorem run (w : World) : HandSHeadRun.RunEqS R qv hookY ob 6000 names w := byRow2 "special-get-raises" (P := fun w => HandSHeadRun.RunEqS R qv hookY ob 6000 names w) runF runT w
end SJ
/-! How the program's objects lie in the heap; promises of defs that change nothing; small steps. -/
namespace SJ
open PySem PySem.Spec PyProof.Rows L2 Evl
/-! ### fields by their names -/
theorem lk_here {k : Str} {v : V} {r : List (Str × V)} : List.lookup k ((k, v) :: r) = some v := by
  have e : (k == k) = true := beq_self_eq_true k
  simp only [List.lookup, e]
theorem lk_past {k g : Str} {v : V} {r : List (Str × V)} (h : (k == g) = false) : List.lookup k ((g, v) :: r) = List.lookup k r := by
  simp only [List.lookup, h]
theorem put_here {f : Str} {v x : V} {r : List (Str × V)} : putF f v ((f, x) :: r) = (f, v) :: r := if_pos rfl
theorem put_past {f g : Str} {v x : V} {r : List (Str × V)} (h : ¬ g = f) : putF f v ((g, x) :: r) = (g, x) :: putF f v r := if_neg h
theorem put_nil {f : Str} {v : V} : putF f v [] = [(f, v)] := rfl
abbrev FPlace (x0 x1 : V) : List (Str × V) := [("name", x0), ("handling", x1)]
theorem lPlace_name {x0 x1 : V} : List.lookup ("name" : Str) (FPlace x0 x1) = some x0 := lk_here
theorem lPlace_handling {x0 x1 : V} : List.lookup ("handling" : Str) (FPlace x0 x1) = some x1 := (lk_past (by decide +kernel)).trans (lk_here)
theorem pPlace_name {x0 : V} : putF ("name" : Str) x0 ([] : List (Str × V)) = ([("name", x0)] : List (Str × V)) := put_nil
theorem pPlace_handling {x0 x1 : V} : putF ("handling" : Str) x1 ([("name", x0)] : List (Str × V)) = ([("name", x0), ("handling", x1)] : List (Str × V)) := (put_past (by decide +kernel)).trans (congrArg _ (put_nil))
abbrev FCar (x0 x1 x2 x3 : V) : List (Str × V) := [("name", x0), ("start", x1), ("end", x2), ("long", x3)]
theorem lCar_name {x0 x1 x2 x3 : V} : List.lookup ("name" : Str) (FCar x0 x1 x2 x3) = some x0 := lk_here
theorem lCar_start {x0 x1 x2 x3 : V} : List.lookup ("start" : Str) (FCar x0 x1 x2 x3) = some x1 := (lk_past (by decide +kernel)).trans (lk_here)
theorem lCar_end {x0 x1 x2 x3 : V} : List.lookup ("end" : Str) (FCar x0 x1 x2 x3) = some x2 := (lk_past (by decide +kernel)).trans ((lk_past (by decide +kernel)).trans (lk_here))
theorem lCar_long {x0 x1 x2 x3 : V} : List.lookup ("long" : Str) (FCar x0 x1 x2 x3) = some x3 := (lk_past (by decide +kernel)).trans ((lk_past (by decide +kernel)).trans ((lk_past (by decide +kernel)).trans (lk_here)))
theorem pCar_name {x0 : V} : putF ("name" : Str) x0 ([] : List (Str × V)) = ([("name", x0)] : List (Str × V)) := put_nil
theorem pCar_start {x0 x1 : V} : putF ("start" : Str) x1 ([("name", x0)] : List (Str × V)) = ([("name", x0), ("start", x1)] : List (Str × V)) := (put_past (by decide +kernel)).trans (congrArg _ (put_nil))
theorem pCar_end {x0 x1 x2 : V} : putF ("end" : Str) x2 ([("name", x0), ("start", x1)] : List (Str × V)) = ([("name", x0), ("start", x1), ("end", x2)] : List (Str × V)) := (put_past (by decide +kernel)).trans (congrArg _ ((put_past (by decide +kernel)).trans (congrArg _ (put_nil))))
theorem pCar_long {x0 x1 x2 x3 : V} : putF ("long" : Str) x3 ([("name", x0), ("start", x1), ("end", x2)] : List (Str × V)) = ([("name", x0), ("start", x1), ("end", x2), ("long", x3)] : List (Str × V)) := (put_past (by decide +kernel)).trans (congrArg _ ((put_past (by decide +kernel)).trans (congrArg _ ((put_past (by decide +kernel)).trans (congrArg _ (put_nil))))))
abbrev FDeparture (x0 x1 x2 x3 x4 : V) : List (Str × V) := [("name", x0), ("start", x1), ("leaves", x2), ("end", x3), ("comes", x4)]
theorem lDeparture_name {x0 x1 x2 x3 x4 : V} : List.lookup ("name" : Str) (FDeparture x0 x1 x2 x3 x4) = some x0 := lk_here
theorem lDeparture_start {x0 x1 x2 x3 x4 : V} : List.lookup ("start" : Str) (FDeparture x0 x1 x2 x3 x4) = some x1 := (lk_past (by decide +kernel)).trans (lk_here)
theorem lDeparture_leaves {x0 x1 x2 x3 x4 : V} : List.lookup ("leaves" : Str) (FDeparture x0 x1 x2 x3 x4) = some x2 := (lk_past (by decide +kernel)).trans ((lk_past (by decide +kernel)).trans (lk_here))
theorem lDeparture_end {x0 x1 x2 x3 x4 : V} : List.lookup ("end" : Str) (FDeparture x0 x1 x2 x3 x4) = some x3 := (lk_past (by decide +kernel)).trans ((lk_past (by decide +kernel)).trans ((lk_past (by decide +kernel)).trans (lk_here)))
theorem lDeparture_comes {x0 x1 x2 x3 x4 : V} : List.lookup ("comes" : Str) (FDeparture x0 x1 x2 x3 x4) = some x4 := (lk_past (by decide +kernel)).trans ((lk_past (by decide +kernel)).trans ((lk_past (by decide +kernel)).trans ((lk_past (by decide +kernel)).trans (lk_here))))
theorem pDeparture_name {x0 : V} : putF ("name" : Str) x0 ([] : List (Str × V)) = ([("name", x0)] : List (Str × V)) := put_nil
theorem pDeparture_start {x0 x1 : V} : putF ("start" : Str) x1 ([("name", x0)] : List (Str × V)) = ([("name", x0), ("start", x1)] : List (Str × V)) := (put_past (by decide +kernel)).trans (congrArg _ (put_nil))
theorem pDeparture_leaves {x0 x1 x2 : V} : putF ("leaves" : Str) x2 ([("name", x0), ("start", x1)] : List (Str × V)) = ([("name", x0), ("start", x1), ("leaves", x2)] : List (Str × V)) := (put_past (by decide +kernel)).trans (congrArg _ ((put_past (by decide +kernel)).trans (congrArg _ (put_nil))))
theorem pDeparture_end {x0 x1 x2 x3 : V} : putF ("end" : Str) x3 ([("name", x0), ("start", x1), ("leaves", x2)] : List (Str × V)) = ([("name", x0), ("start", x1), ("leaves", x2), ("end", x3)] : List (Str × V)) := (put_past (by decide +kernel)).trans (congrArg _ ((put_past (by decide +kernel)).trans (congrArg _ ((put_past (by decide +kernel)).trans (congrArg _ (put_nil))))))
theorem pDeparture_comes {x0 x1 x2 x3 x4 : V} : putF ("comes" : Str) x4 ([("name", x0), ("start", x1), ("leaves", x2), ("end", x3)] : List (Str × V)) = ([("name", x0), ("start", x1), ("leaves", x2), ("end", x3), ("comes", x4)] : List (Str × V)) := (put_past (by decide +kernel)).trans (congrArg _ ((put_past (by decide +kernel)).trans (congrArg _ ((put_past (by decide +kernel)).trans (congrArg _ ((put_past (by decide +kernel)).trans (congrArg _ (put_nil))))))))
abbrev FNet (x0 x1 x2 : V) : List (Str × V) := [("places", x0), ("cars", x1), ("goes", x2)]
theorem lNet_places {x0 x1 x2 : V} : List.lookup ("places" : Str) (FNet x0 x1 x2) = some x0 := lk_here
theorem lNet_cars {x0 x1 x2 : V} : List.lookup ("cars" : Str) (FNet x0 x1 x2) = some x1 := (lk_past (by decide +kernel)).trans (lk_here)
theorem lNet_goes {x0 x1 x2 : V} : List.lookup ("goes" : Str) (FNet x0 x1 x2) = some x2 := (lk_past (by decide +kernel)).trans ((lk_past (by decide +kernel)).trans (lk_here))
theorem pNet_places {x0 : V} : putF ("places" : Str) x0 ([] : List (Str × V)) = ([("places", x0)] : List (Str × V)) := put_nil
theorem pNet_cars {x0 x1 : V} : putF ("cars" : Str) x1 ([("places", x0)] : List (Str × V)) = ([("places", x0), ("cars", x1)] : List (Str × V)) := (put_past (by decide +kernel)).trans (congrArg _ (put_nil))
theorem pNet_goes {x0 x1 x2 : V} : putF ("goes" : Str) x2 ([("places", x0), ("cars", x1)] : List (Str × V)) = ([("places", x0), ("cars", x1), ("goes", x2)] : List (Str × V)) := (put_past (by decide +kernel)).trans (congrArg _ ((put_past (by decide +kernel)).trans (congrArg _ (put_nil))))
abbrev FSureness (x0 x1 x2 x3 : V) : List (Str × V) := [("net", x0), ("goal", x1), ("come", x2), ("worths", x3)]
theorem lSureness_net {x0 x1 x2 x3 : V} : List.lookup ("net" : Str) (FSureness x0 x1 x2 x3) = some x0 := lk_here
theorem lSureness_goal {x0 x1 x2 x3 : V} : List.lookup ("goal" : Str) (FSureness x0 x1 x2 x3) = some x1 := (lk_past (by decide +kernel)).trans (lk_here)
theorem lSureness_come {x0 x1 x2 x3 : V} : List.lookup ("come" : Str) (FSureness x0 x1 x2 x3) = some x2 := (lk_past (by decide +kernel)).trans ((lk_past (by decide +kernel)).trans (lk_here))
theorem lSureness_worths {x0 x1 x2 x3 : V} : List.lookup ("worths" : Str) (FSureness x0 x1 x2 x3) = some x3 := (lk_past (by decide +kernel)).trans ((lk_past (by decide +kernel)).trans ((lk_past (by decide +kernel)).trans (lk_here)))
theorem lSureness_by_cars {x0 x1 x2 x3 : V} : List.lookup ("by_cars" : Str) (FSureness x0 x1 x2 x3) = none := (lk_past (by decide +kernel)).trans ((lk_past (by decide +kernel)).trans ((lk_past (by decide +kernel)).trans ((lk_past (by decide +kernel)).trans (rfl))))
theorem lSureness_ready_in {x0 x1 x2 x3 : V} : List.lookup ("ready_in" : Str) (FSureness x0 x1 x2 x3) = none := (lk_past (by decide +kernel)).trans ((lk_past (by decide +kernel)).trans ((lk_past (by decide +kernel)).trans ((lk_past (by decide +kernel)).trans (rfl))))
theorem lSureness_is_in_time {x0 x1 x2 x3 : V} : List.lookup ("is_in_time" : Str) (FSureness x0 x1 x2 x3) = none := (lk_past (by decide +kernel)).trans ((lk_past (by decide +kernel)).trans ((lk_past (by decide +kernel)).trans ((lk_past (by decide +kernel)).trans (rfl))))
theorem lSureness_sure {x0 x1 x2 x3 : V} : List.lookup ("sure" : Str) (FSureness x0 x1 x2 x3) = none := (lk_past (by decide +kernel)).trans ((lk_past (by decide +kernel)).trans ((lk_past (by decide +kernel)).trans ((lk_past (by decide +kernel)).trans (rfl))))
theorem lSureness_if_it_goes {x0 x1 x2 x3 : V} : List.lookup ("if_it_goes" : Str) (FSureness x0 x1 x2 x3) = none := (lk_past (by decide +kernel)).trans ((lk_past (by decide +kernel)).trans ((lk_past (by decide +kernel)).trans ((lk_past (by decide +kernel)).trans (rfl))))
theorem lSureness_if_cancelled {x0 x1 x2 x3 : V} : List.lookup ("if_cancelled" : Str) (FSureness x0 x1 x2 x3) = none := (lk_past (by decide +kernel)).trans ((lk_past (by decide +kernel)).trans ((lk_past (by decide +kernel)).trans ((lk_past (by decide +kernel)).trans (rfl))))
theorem lSureness_worth_of {x0 x1 x2 x3 : V} : List.lookup ("worth_of" : Str) (FSureness x0 x1 x2 x3) = none := (lk_past (by decide +kernel)).trans ((lk_past (by decide +kernel)).trans ((lk_past (by decide +kernel)).trans ((lk_past (by decide +kernel)).trans (rfl))))
theorem lSureness_car_to_goal {x0 x1 x2 x3 : V} : List.lookup ("car_to_goal" : Str) (FSureness x0 x1 x2 x3) = none := (lk_past (by decide +kernel)).trans ((lk_past (by decide +kernel)).trans ((lk_past (by decide +kernel)).trans ((lk_past (by decide +kernel)).trans (rfl))))
theorem lSureness_car_to_ready {x0 x1 x2 x3 : V} : List.lookup ("car_to_ready" : Str) (FSureness x0 x1 x2 x3) = none := (lk_past (by decide +kernel)).trans ((lk_past (by decide +kernel)).trans ((lk_past (by decide +kernel)).trans ((lk_past (by decide +kernel)).trans (rfl))))
theorem lSureness_first_going {x0 x1 x2 x3 : V} : List.lookup ("first_going" : Str) (FSureness x0 x1 x2 x3) = none := (lk_past (by decide +kernel)).trans ((lk_past (by decide +kernel)).trans ((lk_past (by decide +kernel)).trans ((lk_past (by decide +kernel)).trans (rfl))))
theorem lSureness_to_do {x0 x1 x2 x3 : V} : List.lookup ("to_do" : Str) (FSureness x0 x1 x2 x3) = none := (lk_past (by decide +kernel)).trans ((lk_past (by decide +kernel)).trans ((lk_past (by decide +kernel)).trans ((lk_past (by decide +kernel)).trans (rfl))))
theorem pSureness_net {x0 : V} : putF ("net" : Str) x0 ([] : List (Str × V)) = ([("net", x0)] : List (Str × V)) := put_nil
theorem pSureness_goal {x0 x1 : V} : putF ("goal" : Str) x1 ([("net", x0)] : List (Str × V)) = ([("net", x0), ("goal", x1)] : List (Str × V)) := (put_past (by decide +kernel)).trans (congrArg _ (put_nil))
theorem pSureness_come {x0 x1 x2 : V} : putF ("come" : Str) x2 ([("net", x0), ("goal", x1)] : List (Str × V)) = ([("net", x0), ("goal", x1), ("come", x2)] : List (Str × V)) := (put_past (by decide +kernel)).trans (congrArg _ ((put_past (by decide +kernel)).trans (congrArg _ (put_nil))))
theorem pSureness_worths {x0 x1 x2 x3 : V} : putF ("worths" : Str) x3 ([("net", x0), ("goal", x1), ("come", x2)] : List (Str × V)) = ([("net", x0), ("goal", x1), ("come", x2), ("worths", x3)] : List (Str × V)) := (put_past (by decide +kernel)).trans (congrArg _ ((put_past (by decide +kernel)).trans (congrArg _ ((put_past (by decide +kernel)).trans (congrArg _ (put_nil))))))
abbrev FLine (x0 x1 x2 : V) : List (Str × V) := [("words", x0), ("behind", x1), ("turn", x2)]
theorem lLine_words {x0 x1 x2 : V} : List.lookup ("words" : Str) (FLine x0 x1 x2) = some x0 := lk_here
theorem lLine_behind {x0 x1 x2 : V} : List.lookup ("behind" : Str) (FLine x0 x1 x2) = some x1 := (lk_past (by decide +kernel)).trans (lk_here)
theorem lLine_turn {x0 x1 x2 : V} : List.lookup ("turn" : Str) (FLine x0 x1 x2) = some x2 := (lk_past (by decide +kernel)).trans ((lk_past (by decide +kernel)).trans (lk_here))
theorem lLine_is_over {x0 x1 x2 : V} : List.lookup ("is_over" : Str) (FLine x0 x1 x2) = none := (lk_past (by decide +kernel)).trans ((lk_past (by decide +kernel)).trans ((lk_past (by decide +kernel)).trans (rfl)))
theorem lLine_place_here {x0 x1 x2 : V} : List.lookup ("place_here" : Str) (FLine x0 x1 x2) = none := (lk_past (by decide +kernel)).trans ((lk_past (by decide +kernel)).trans ((lk_past (by decide +kernel)).trans (rfl)))
theorem lLine_refuse {x0 x1 x2 : V} : List.lookup ("refuse" : Str) (FLine x0 x1 x2) = none := (lk_past (by decide +kernel)).trans ((lk_past (by decide +kernel)).trans ((lk_past (by decide +kernel)).trans (rfl)))
theorem lLine_word_here {x0 x1 x2 : V} : List.lookup ("word_here" : Str) (FLine x0 x1 x2) = none := (lk_past (by decide +kernel)).trans ((lk_past (by decide +kernel)).trans ((lk_past (by decide +kernel)).trans (rfl)))
theorem lLine_take {x0 x1 x2 : V} : List.lookup ("take" : Str) (FLine x0 x1 x2) = none := (lk_past (by decide +kernel)).trans ((lk_past (by decide +kernel)).trans ((lk_past (by decide +kernel)).trans (rfl)))
theorem lLine_read_name {x0 x1 x2 : V} : List.lookup ("read_name" : Str) (FLine x0 x1 x2) = none := (lk_past (by decide +kernel)).trans ((lk_past (by decide +kernel)).trans ((lk_past (by decide +kernel)).trans (rfl)))
theorem lLine_read_place {x0 x1 x2 : V} : List.lookup ("read_place" : Str) (FLine x0 x1 x2) = none := (lk_past (by decide +kernel)).trans ((lk_past (by decide +kernel)).trans ((lk_past (by decide +kernel)).trans (rfl)))
theorem lLine_number_here {x0 x1 x2 : V} : List.lookup ("number_here" : Str) (FLine x0 x1 x2) = none := (lk_past (by decide +kernel)).trans ((lk_past (by decide +kernel)).trans ((lk_past (by decide +kernel)).trans (rfl)))
theorem lLine_read_number {x0 x1 x2 : V} : List.lookup ("read_number" : Str) (FLine x0 x1 x2) = none := (lk_past (by decide +kernel)).trans ((lk_past (by decide +kernel)).trans ((lk_past (by decide +kernel)).trans (rfl)))
theorem lLine_want_end {x0 x1 x2 : V} : List.lookup ("want_end" : Str) (FLine x0 x1 x2) = none := (lk_past (by decide +kernel)).trans ((lk_past (by decide +kernel)).trans ((lk_past (by decide +kernel)).trans (rfl)))
theorem pLine_words {x0 : V} : putF ("words" : Str) x0 ([] : List (Str × V)) = ([("words", x0)] : List (Str × V)) := put_nil
theorem pLine_behind {x0 x1 : V} : putF ("behind" : Str) x1 ([("words", x0)] : List (Str × V)) = ([("words", x0), ("behind", x1)] : List (Str × V)) := (put_past (by decide +kernel)).trans (congrArg _ (put_nil))
theorem pLine_turn {x0 x1 x2 : V} : putF ("turn" : Str) x2 ([("words", x0), ("behind", x1)] : List (Str × V)) = ([("words", x0), ("behind", x1), ("turn", x2)] : List (Str × V)) := (put_past (by decide +kernel)).trans (congrArg _ ((put_past (by decide +kernel)).trans (congrArg _ (put_nil))))
abbrev FDesk (x0 : V) : List (Str × V) := [("net", x0)]
theorem lDesk_net {x0 : V} : List.lookup ("net" : Str) (FDesk x0) = some x0 := lk_here
theorem lDesk_read {x0 : V} : List.lookup ("read" : Str) (FDesk x0) = none := (lk_past (by decide +kernel)).trans (rfl)
theorem lDesk_leave_out {x0 : V} : List.lookup ("leave_out" : Str) (FDesk x0) = none := (lk_past (by decide +kernel)).trans (rfl)
theorem lDesk_shift {x0 : V} : List.lookup ("shift" : Str) (FDesk x0) = none := (lk_past (by decide +kernel)).trans (rfl)
theorem lDesk_call {x0 : V} : List.lookup ("call" : Str) (FDesk x0) = none := (lk_past (by decide +kernel)).trans (rfl)
theorem pDesk_net {x0 : V} : putF ("net" : Str) x0 ([] : List (Str × V)) = ([("net", x0)] : List (Str × V)) := put_nil
theorem uLine_turn {x0 x1 x2 y : V} : putF ("turn" : Str) y (FLine x0 x1 x2) = FLine x0 x1 y := (put_past (by decide +kernel)).trans (congrArg _ ((put_past (by decide +kernel)).trans (congrArg _ put_here)))
theorem uDesk_net {x0 y : V} : putF ("net" : Str) y (FDesk x0) = FDesk y := put_here

/-! ### the objects -/
section
variable (K : PySem.W.Frag)
abbrev cPlace : Addr := He.ga K "Place"
abbrev cCar : Addr := He.ga K "Car"
abbrev cGo : Addr := He.ga K "Departure"
abbrev cNet : Addr := He.ga K "Net"
abbrev cSur : Addr := He.ga K "Sureness"
abbrev cLine : Addr := He.ga K "Line"
abbrev cDesk : Addr := He.ga K "Desk"
abbrev cFault : Addr := He.ga K "Fault"
abbrev nV (n : Nat) : V := .int (n : Int)
def IntsAt (H : Hp) (a : Addr) (l : List Int) : Prop := H a = some (.lst (l.map V.int))
def NameAt (H : Hp) (a : Addr) (t : List Nat) : Prop := H a = some (.lst (t.map nV))
def PlaceAt (H : Hp) (a : Addr) (p : Vbtoad.Place) : Prop := ∃ dx na, H a = some (.ins (cPlace K) dx (FPlace (.ref na) (nV p.handling))) ∧ NameAt H na p.name
def CarAt (H : Hp) (a : Addr) (c : Vbtoad.Car) : Prop := ∃ dx na, H a = some (.ins (cCar K) dx (FCar (.ref na) (nV c.from_) (nV c.to_) (nV c.long))) ∧ NameAt H na c.name
def GoAt (H : Hp) (a : Addr) (g : Vbtoad.Go) : Prop := ∃ dx na, H a = some (.ins (cGo K) dx (FDeparture (.ref na) (nV g.from_) (nV g.dep) (nV g.to_) (nV g.arr))) ∧ NameAt H na g.name
/-- a list of objects -/
def ThingsAt {α : Type} (R : Hp → Addr → α → Prop) (H : Hp) (l : Addr) (xs : List α) : Prop := ∃ as : List Addr, H l = some (.lst (as.map V.ref)) ∧ Paired (R H) as xs
structure NetIs (H : Hp) (a pl cl gl : Addr) (n : Vbtoad.Net) : Prop where
  obj : ∃ dx, H a = some (.ins (cNet K) dx (FNet (.ref pl) (.ref cl) (.ref gl)))
  pl : ThingsAt (PlaceAt K) H pl n.places
  cl : ThingsAt (CarAt K) H cl n.cars
  gl : ThingsAt (GoAt K) H gl n.goes
def NetAt (H : Hp) (a : Addr) (n : Vbtoad.Net) : Prop := ∃ pl cl gl, NetIs K H a pl cl gl n
end
section
variable {K : PySem.W.Frag} {H H' : Hp}
theorem paired_mono {α : Type} {R : Hp → Addr → α → Prop} (m : ∀ a x, R H a x → R H' a x) : ∀ {as : List Addr} {xs : List α}, Paired (R H) as xs → Paired (R H') as xs
  | _, _, .nil => .nil
  | _, _, .cons r t => .cons (m _ _ r) (paired_mono m t)
theorem NameAt.ex {a : Addr} {t : List Nat} (h : NameAt H a t) (e : Ex H H') : NameAt H' a t := e _ _ h
theorem PlaceAt.ex {a : Addr} {p : Vbtoad.Place} (h : PlaceAt K H a p) (e : Ex H H') : PlaceAt K H' a p := by
  obtain ⟨dx, na, h1, h2⟩ := h
  exact ⟨dx, na, e _ _ h1, h2.ex e⟩
theorem CarAt.ex {a : Addr} {p : Vbtoad.Car} (h : CarAt K H a p) (e : Ex H H') : CarAt K H' a p := by
  obtain ⟨dx, na, h1, h2⟩ := h
  exact ⟨dx, na, e _ _ h1, h2.ex e⟩
theorem GoAt.ex {a : Addr} {p : Vbtoad.Go} (h : GoAt K H a p) (e : Ex H H') : GoAt K H' a p := by
  obtain ⟨dx, na, h1, h2⟩ := h
  exact ⟨dx, na, e _ _ h1, h2.ex e⟩
theorem ThingsAt.ex {α : Type} {R : Hp → Addr → α → Prop} (m : ∀ a x, R H a x → R H' a x) {l : Addr} {xs : List α} (h : ThingsAt R H l xs) (e : Ex H H') : ThingsAt R H' l xs := by
  obtain ⟨as, h1, h2⟩ := h
  exact ⟨as, e _ _ h1, paired_mono m h2⟩
theorem NetIs.ex {a pl cl gl : Addr} {n : Vbtoad.Net} (h : NetIs K H a pl cl gl n) (e : Ex H H') : NetIs K H' a pl cl gl n := by
  obtain ⟨⟨dx, h0⟩, h1, h2, h3⟩ := h
  exact ⟨⟨dx, e _ _ h0⟩, h1.ex (fun _ _ z => z.ex e) e, h2.ex (fun _ _ z => z.ex e) e, h3.ex (fun _ _ z => z.ex e) e⟩
theorem NetAt.ex {a : Addr} {n : Vbtoad.Net} (h : NetAt K H a n) (e : Ex H H') : NetAt K H' a n := by
  obtain ⟨pl, cl, gl, h⟩ := h
  exact ⟨pl, cl, gl, h.ex e⟩
theorem paired_at {α β : Type} {F : α → β → Prop} : ∀ {l : List α} {r : List β} {i : Nat} {y : β}, Paired F l r → r[i]? = some y → ∃ x, l[i]? = some x ∧ F x y
  | _, _, _, _, .nil, e => by simp at e
  | _, _, 0, _, .cons h _, e => by simp at e; subst e; exact ⟨_, rfl, h⟩
  | _, _, i + 1, y, .cons _ t, e => by
    obtain ⟨x, h1, h2⟩ := paired_at (i := i) t (by simpa using e)
    exact ⟨x, by simpa using h1, h2⟩
theorem paired_len {α β : Type} {F : α → β → Prop} : ∀ {l : List α} {r : List β}, Paired F l r → l.length = r.length
  | _, _, .nil => rfl
  | _, _, .cons _ t => congrArg (· + 1) (paired_len t)
theorem paired_app {α β : Type} {F : α → β → Prop} : ∀ {l l' : List α} {r r' : List β}, Paired F l r → Paired F l' r' → Paired F (l ++ l') (r ++ r')
  | _, _, _, _, .nil, h => h
  | _, _, _, _, .cons h t, h' => .cons h (paired_app t h')
/-- the i-th of a list of objects -/
theorem ThingsAt.at_ {α : Type} {R : Hp → Addr → α → Prop} {l : Addr} {xs : List α} (h : ThingsAt R H l xs) {i : Nat} {x : α} (e : xs[i]? = some x) : ∃ (vs : List V) (a : Addr), H l = some (.lst vs) ∧ vs[i]? = some (.ref a) ∧ R H a x := by
  obtain ⟨as, h1, h2⟩ := h
  obtain ⟨a, h3, h4⟩ := paired_at h2 e
  exact ⟨_, a, h1, by rw [List.getElem?_map, h3]; rfl, h4⟩
theorem ThingsAt.len {α : Type} {R : Hp → Addr → α → Prop} {l : Addr} {xs : List α} (h : ThingsAt R H l xs) : ∃ vs : List V, H l = some (.lst vs) ∧ vs.length = xs.length := by
  obtain ⟨as, h1, h2⟩ := h
  exact ⟨_, h1, by rw [List.length_map]; exact paired_len h2⟩
end

/-- what is wanted of a value, told of an equal one -/
theorem int_eq {Q : VK} {i j : Int} {H : Hp} (h : Q (.int j) H) (e : i = j) : Q (.int i) H := by
  rw [e]
  exact h
theorem bl_eq {Q : VK} {i j : Bool} {H : Hp} (h : Q (.bl j) H) (e : i = j) : Q (.bl i) H := by
  rw [e]
  exact h
/-! ### promises of defs that change nothing: from what an anchor G of the heap says -/
def PureSp (P : List V → Hp → V → Prop) : Sp := fun vs H Q _ => ∃ z G, Ex G H ∧ P vs G z ∧ ∀ H', Ex H H' → Q z H'
/-- .. that give a new list, a new tuple -/
def PureL (P : List V → Hp → List V → Prop) : Sp := fun vs H Q _ => ∃ xs G, Ex G H ∧ P vs G xs ∧ ∀ p H', H p = none → Ex H H' → H' p = some (.lst xs) → Q (.ref p) H'
def PureU (P : List V → Hp → List V → Prop) : Sp := fun vs H Q _ => ∃ xs G, Ex G H ∧ P vs G xs ∧ ∀ p H', H p = none → Ex H H' → H' p = some (.tup xs) → Q (.ref p) H'
theorem spv_pure {P : List V → Hp → V → Prop} {vs : List V} {G : Hp} {z : V} (h : P vs G z) : SpV (PureSp P) vs G z := fun _ e _ q _ => ⟨z, G, e, h, q⟩
theorem spl_pure {P : List V → Hp → List V → Prop} {vs xs : List V} {G : Hp} (h : P vs G xs) : SpL (PureL P) vs G xs := fun _ e _ q _ => ⟨xs, G, e, h, q⟩
def SpU (sp : Sp) (vs : List V) (H : Hp) (xs : List V) : Prop := ∀ H1, Ex H H1 → ∀ Q : VK, (∀ p H2, H1 p = none → Ex H1 H2 → H2 p = some (.tup xs) → Q (.ref p) H2) → ∀ E : XK, sp vs H1 Q E
theorem spu_pure {P : List V → Hp → List V → Prop} {vs xs : List V} {G : Hp} (h : P vs G xs) : SpU (PureU P) vs G xs := fun _ e _ q _ => ⟨xs, G, e, h, q⟩
section
variable {K : PySem.W.Frag} {σ : L2.St} {H H' : Hp} {ta tb te tx : TE} {t u : TT} {x y z v : V} {a C dx : Addr} {fs : List (Str × V)} {f m : Str} {sp : Sp} {dvs vs xs : List V} {E : XK} {tl : TA} {D : Ends} {tz : TS}
theorem ev_fld (h : Ev ta σ H (.ref a)) (ho : H a = some (.ins C dx fs)) (hc : Cls K C) (hn : NoAttr K C f) (hl : fs.lookup f = some v) : Ev (tFld K ta f) σ H v := fun H1 e _ q =>
  h H1 e _ fun H2 e2 => ⟨a, C, dx, fs, v, rfl, (e.trans e2) a _ ho, hc, hn, hl, q H2 e2⟩
theorem ev_meth (h : Ev ta σ H (.ref a)) (ho : H a = some (.ins C dx fs)) (hl : fs.lookup m = none) (ha : EvA tl σ H vs) (hs : SpV sp (.ref a :: (vs ++ dvs)) H z) : Ev (tMeth C m sp dvs E ta tl) σ H z := fun H1 e Q q =>
  h H1 e _ fun H2 e2 => ⟨a, dx, fs, rfl, (e.trans e2) a _ ho, hl, ha H2 (e.trans e2) _ fun H3 e3 => hs H3 ((e.trans e2).trans e3) Q (fun H4 e4 => q H4 ((e2.trans e3).trans e4)) E⟩
theorem el_meth (h : Ev ta σ H (.ref a)) (ho : H a = some (.ins C dx fs)) (hl : fs.lookup m = none) (ha : EvA tl σ H vs) (hs : SpL sp (.ref a :: (vs ++ dvs)) H xs) : EvL (tMeth C m sp dvs E ta tl) σ H xs := fun H1 e Q q =>
  h H1 e _ fun H2 e2 => ⟨a, dx, fs, rfl, (e.trans e2) a _ ho, hl, ha H2 (e.trans e2) _ fun H3 e3 => hs H3 ((e.trans e2).trans e3) Q (fun p H4 hp e4 h4 => q p H4 (fresh_back (e2.trans e3) hp) ((e2.trans e3).trans e4) h4) E⟩
theorem eu_meth (h : Ev ta σ H (.ref a)) (ho : H a = some (.ins C dx fs)) (hl : fs.lookup m = none) (ha : EvA tl σ H vs) (hs : SpU sp (.ref a :: (vs ++ dvs)) H xs) : EvU (tMeth C m sp dvs E ta tl) σ H xs := fun H1 e Q q =>
  h H1 e _ fun H2 e2 => ⟨a, dx, fs, rfl, (e.trans e2) a _ ho, hl, ha H2 (e.trans e2) _ fun H3 e3 => hs H3 ((e.trans e2).trans e3) Q (fun p H4 hp e4 h4 => q p H4 (fresh_back (e2.trans e3) hp) ((e2.trans e3).trans e4) h4) E⟩
theorem eu_call (h : EvA tl σ H vs) (hs : SpU sp (vs ++ dvs) H xs) : EvU (tCall sp dvs E tl) σ H xs := fun H1 e Q q =>
  h H1 e _ fun H2 e2 => hs H2 (e.trans e2) Q (fun p H3 hp e3 h3 => q p H3 (fresh_back e2 hp) (e2.trans e3) h3) E
/-- an index that lies within -/
theorem atI_nat {xs : List V} {i : Nat} {v : V} (h : xs[i]? = some v) : atI xs (i : Int) = some v := by
  unfold atI
  rw [ixN_nat (List.getElem?_eq_some_iff.mp h).1]
  exact h
theorem ev_ixL {p : Addr} {xs : List V} {i : Nat} (ha : Ev ta σ H (.ref p)) (hb : Ev tb σ H (.int (i : Int))) (h : H p = some (.lst xs)) (hv : xs[i]? = some v) : Ev (tOp (rIxL K) ta tb) σ H v := ev_op ha hb (rv_ixL (sq_of h) (atI_nat hv))
theorem ev_ixT {p : Addr} {xs : List V} {i : Nat} (ha : Ev ta σ H (.ref p)) (hb : Ev tb σ H (.int (i : Int))) (h : H p = some (.tup xs)) (hv : xs[i]? = some v) : Ev (tOp (rIxT K) ta tb) σ H v := ev_op ha hb (rv_ixT (st_of h) (atI_nat hv))
/-- ints compared -/
theorem ev_eqI {i j : Int} (ha : Ev ta σ H (.int i)) (hb : Ev tb σ H (.int j)) : Ev (tOp rEq ta tb) σ H (.bl (decide (i = j))) := by
  have e : decide (V.int i = V.int j) = decide (i = j) := by
    by_cases q : i = j
    · rw [q]
      simp
    · rw [decide_eq_false q, decide_eq_false fun z => q (V.int.inj z)]
  rw [← e]
  exact ev_op ha hb (rv_eq rfl)
theorem ev_neI {i j : Int} (ha : Ev ta σ H (.int i)) (hb : Ev tb σ H (.int j)) : Ev (tOp rNe ta tb) σ H (.bl (!decide (i = j))) := by
  have e : decide (V.int i = V.int j) = decide (i = j) := by
    by_cases q : i = j
    · rw [q]
      simp
    · rw [decide_eq_false q, decide_eq_false fun z => q (V.int.inj z)]
  rw [← e]
  exact ev_op ha hb (rv_ne rfl)
end

/-! ### lists of ints compared -/
theorem dp_ints {K : PySem.W.Frag} {H : Hp} : ∀ l : List Int, DpAll K H (l.map V.int) (l.map PyData.int)
  | [] => .nil
  | n :: r => .cons (.int n) (dp_ints r)
theorem shp_ints : ∀ l : List Int, SeqAt.shaped (.list (l.map PyData.int)) = true := fun l => by
  have h1 : PyData.canLayAll0 (l.map PyData.int) = true := by
    induction l with
    | nil => rfl
    | cons n r ih => simp only [List.map_cons, PyData.canLayAll0, PyData.canLay0, ih, Bool.and_self]
  have h2 : PyData.depthAll (l.map PyData.int) = 0 := by
    induction l with
    | nil => rfl
    | cons n r ih => simp only [List.map_cons, PyData.depthAll, PyData.depth, ih (by
        have z := h1
        simp only [List.map_cons, PyData.canLayAll0, Bool.and_eq_true] at z
        exact z.2), Nat.max_self]
  unfold SeqAt.shaped
  rw [Bool.and_eq_true]
  refine ⟨by simp only [PyData.canLay0]; exact h1, decide_eq_true ?_⟩
  simp only [PyData.depth, h2]
  decide
theorem eqv_ints : ∀ l r : List Int, PyData.eqv (.list (l.map PyData.int)) (.list (r.map PyData.int)) = decide (l = r) := by
  have key : ∀ l r : List Int, PyData.eqvAll (l.map PyData.int) (r.map PyData.int) = decide (l = r) := by
    intro l
    induction l with
    | nil =>
      intro r
      cases r with
      | nil => rfl
      | cons n r => simp [PyData.eqvAll]
    | cons m l ih =>
      intro r
      cases r with
      | nil => simp [PyData.eqvAll]
      | cons n r =>
        simp only [List.map_cons, PyData.eqvAll, PyData.eqv, ih r, List.cons.injEq, Bool.decide_and]
        congr 1
  intro l r
  simp only [PyData.eqv]
  exact key l r
theorem rv_eqInts {K : PySem.W.Frag} {H : Hp} {a b : Addr} {l r : List Int} (ha : IntsAt H a l) (hb : IntsAt H b r) : RV (rEqD K) (.ref a) (.ref b) H (.bl (decide (l = r))) := fun H1 e Q q =>
  ⟨_, _, .lst (sq_of (e _ _ ha)) (dp_ints l), .lst (sq_of (e _ _ hb)) (dp_ints r), shp_ints l, shp_ints r, by rw [eqv_ints]; exact q H1 (Ex.refl H1)⟩
theorem rv_neInts {K : PySem.W.Frag} {H : Hp} {a b : Addr} {l r : List Int} (ha : IntsAt H a l) (hb : IntsAt H b r) : RV (rNeD K) (.ref a) (.ref b) H (.bl (!decide (l = r))) := fun H1 e Q q =>
  ⟨_, _, .lst (sq_of (e _ _ ha)) (dp_ints l), .lst (sq_of (e _ _ hb)) (dp_ints r), shp_ints l, shp_ints r, by rw [eqv_ints]; exact q H1 (Ex.refl H1)⟩
def natsI (t : List Nat) : List Int := t.map fun (n : Nat) => (n : Int)
theorem natsI_inj {t u : List Nat} (h : natsI t = natsI u) : t = u := by
  induction t generalizing u with
  | nil =>
    cases u with
    | nil => rfl
    | cons n u => simp [natsI] at h
  | cons m t ih =>
    cases u with
    | nil => simp [natsI] at h
    | cons n u =>
      simp only [natsI, List.map_cons, List.cons.injEq] at h
      have h1 : m = n := by omega
      rw [h1, ih h.2]
theorem NameAt.ints {H : Hp} {a : Addr} {t : List Nat} (h : NameAt H a t) : IntsAt H a (natsI t) := by
  unfold IntsAt natsI
  rw [List.map_map]
  exact h
theorem dec_nats (t u : List Nat) : decide (natsI t = natsI u) = (t == u) := by
  by_cases e : t = u
  · rw [e]
    simp
  · rw [decide_eq_false fun z => e (natsI_inj z)]
    simp [e]
theorem rv_eqName {K : PySem.W.Frag} {H : Hp} {a b : Addr} {t u : List Nat} (ha : NameAt H a t) (hb : NameAt H b u) : RV (rEqD K) (.ref a) (.ref b) H (.bl (t == u)) := by
  rw [← dec_nats]
  exact rv_eqInts ha.ints hb.ints
/-! ### pairs and loops -/
abbrev gPair (K : PySem.W.Frag) (i j : Nat) : TG := gTup K 2 (gCons (gName i) (gCons (gName j) gNil))
section
variable {K : PySem.W.Frag} {σ : L2.St} {H H' : Hp} {ta tb te tx : TE} {x y z v : V} {a b C dx : Addr} {fs : List (Str × V)} {sp : Sp} {dvs vs xs ys : List V} {E : XK} {tl : TA} {D : Ends} {tu tz : TS} {i j : Nat} {Q : L2.St → Hp → Prop}
theorem g_pair {T : Addr} (h : SqT K H T [x, y]) (q : Q ((σ.set i (some x)).set j (some y)) H) : gPair K i j (.ref T) σ H Q := ⟨T, [x, y], rfl, h, rfl, x, [y], rfl, y, [], rfl, rfl, q⟩
theorem s_pair (h : EvU te σ H [x, y]) (k : ∀ H1, Ex H H1 → D.nx ((σ.set i (some x)).set j (some y)) H1) : tAsg te (gPair K i j) D σ H := h H (Ex.refl H) _ fun p H1 _ e h1 => g_pair (st_of h1) (k H1 e)
theorem q_pair (h : EvU te σ H [x, y]) (k : ∀ H1, Ex H H1 → tz D ((σ.set i (some x)).set j (some y)) H1) : tSeq (tAsg te (gPair K i j)) tz D σ H := s_pair (D := { D with nx := tz D }) h k
/-- .. of a tuple that stands -/
theorem q_pairT {p : Addr} (h : Ev te σ H (.ref p)) (hp : SqT K H p [x, y]) (k : ∀ H1, Ex H H1 → tz D ((σ.set i (some x)).set j (some y)) H1) : tSeq (tAsg te (gPair K i j)) tz D σ H := h H (Ex.refl H) _ fun H1 e => g_pair (ex_t e hp) (k H1 e)
/-- for i, x in enumerate(xs), nothing changed: W of the turn and the slots -/
theorem s_forE (h : EvA tl σ H [.ref a]) (hx : H a = some (.lst xs)) (W : Nat → L2.St → Prop) (h0 : W 0 σ)
    (hs : ∀ n y σ' H', Ex H H' → xs[n]? = some y → W n σ' → tu { D with nx := fun σ2 H2 => Ex H H2 ∧ W (n + 1) σ2, ct := fun σ2 H2 => Ex H H2 ∧ W (n + 1) σ2, bk := D.nx } ((σ'.set i (some (.int (n : Int)))).set j (some y)) H')
    (hd : ∀ σ' H', Ex H H' → W xs.length σ' → D.nx σ' H') : tFor (iEnum K tl) (gPair K i j) tu D σ H :=
  h H (Ex.refl H) _ fun H1 e => ⟨a, xs, rfl, sq_of (e _ _ hx), for_it (walk_enum (xs := xs)) (fun n σ' H' => Ex H H' ∧ W n σ') ⟨e, h0⟩ (fun n σ' H' _ p => sq_of (p.1 _ _ hx)) (fun n v σ' H' H2 hn p y => by
    obtain ⟨T, x, y, rfl, hT, rfl, hx', hy⟩ := y
    cases hx'
    exact g_pair (st_of upd_same) (hs n y σ' _ (p.1.trans (Ex.new hT)) hy p.2)) fun σ' H' p => hd σ' H' p.1 p.2⟩
theorem q_forE (h : EvA tl σ H [.ref a]) (hx : H a = some (.lst xs)) (W : Nat → L2.St → Prop) (h0 : W 0 σ)
    (hs : ∀ n y σ' H', Ex H H' → xs[n]? = some y → W n σ' → tu { D with nx := fun σ2 H2 => Ex H H2 ∧ W (n + 1) σ2, ct := fun σ2 H2 => Ex H H2 ∧ W (n + 1) σ2, bk := tz D } ((σ'.set i (some (.int (n : Int)))).set j (some y)) H')
    (hd : ∀ σ' H', Ex H H' → W xs.length σ' → tz D σ' H') : tSeq (tFor (iEnum K tl) (gPair K i j) tu) tz D σ H := s_forE (D := { D with nx := tz D }) h hx W h0 hs hd
/-- for x, y in zip(xs, ys), of one length -/
theorem q_forZ (h : EvA tl σ H [.ref a, .ref b]) (hx : H a = some (.lst xs)) (hy : H b = some (.lst ys)) (hl : xs.length = ys.length) (W : Nat → L2.St → Prop) (h0 : W 0 σ)
    (hs : ∀ n x y σ' H', Ex H H' → xs[n]? = some x → ys[n]? = some y → W n σ' → tu { D with nx := fun σ2 H2 => Ex H H2 ∧ W (n + 1) σ2, ct := fun σ2 H2 => Ex H H2 ∧ W (n + 1) σ2, bk := tz D } ((σ'.set i (some x)).set j (some y)) H')
    (hd : ∀ σ' H', Ex H H' → W xs.length σ' → tz D σ' H') : tSeq (tFor (iZip K tl) (gPair K i j) tu) tz D σ H :=
  h H (Ex.refl H) _ fun H1 e => ⟨a, b, xs, ys, rfl, sq_of (e _ _ hx), sq_of (e _ _ hy), for_it (D := { D with nx := tz D }) (walk_zip (xs := xs) (ys := ys) (n := xs.length) (by rw [hl]; simp)) (fun n σ' H' => Ex H H' ∧ W n σ') ⟨e, h0⟩ (fun n σ' H' _ p => ⟨sq_of (p.1 _ _ hx), sq_of (p.1 _ _ hy)⟩) (fun n v σ' H' H2 hn p y => by
    obtain ⟨T, x, y, rfl, hT, rfl, hx', hy'⟩ := y
    exact g_pair (st_of upd_same) (hs n x y σ' _ (p.1.trans (Ex.new hT)) hx' hy' p.2)) fun σ' H' p => hd σ' H' p.1 p.2⟩
/-- for x in xs, nothing changed -/
theorem q_forX (h : Ev te σ H (.ref a)) (hx : H a = some (.lst xs)) (W : Nat → L2.St → Prop) (h0 : W 0 σ)
    (hs : ∀ n y σ' H', Ex H H' → xs[n]? = some y → W n σ' → tu { D with nx := fun σ2 H2 => Ex H H2 ∧ W (n + 1) σ2, ct := fun σ2 H2 => Ex H H2 ∧ W (n + 1) σ2, bk := tz D } (σ'.set i (some y)) H')
    (hd : ∀ σ' H', Ex H H' → W xs.length σ' → tz D σ' H') : tSeq (tFor (iList K te) (gName i) tu) tz D σ H :=
  q_forLn h (sq_of hx) (fun n σ' H' => Ex H H' ∧ W n σ') (fun H1 e => ⟨e, h0⟩) (fun n σ' H' _ p => sq_of (p.1 _ _ hx)) (fun n y σ' H' hn p => hs n y σ' H' p.1 hn p.2) fun σ' H' p => hd σ' H' p.1 p.2
/-- a new instance -/
def EvI (te : TE) (σ : L2.St) (H : Hp) (C : Addr) (fs : List (Str × V)) : Prop := ∀ H1, Ex H H1 → ∀ Q : VK, (∀ p dx H2, H1 p = none → Ex H1 H2 → H2 p = some (.ins C dx fs) → Q (.ref p) H2) → te σ H1 Q
theorem ei_make (h : EvA tl σ H vs) (hs : ∀ H1 p dx (Q : VK), Ex H H1 → H1 p = some (.ins C dx []) → Q .non (upd H1 p (.ins C dx fs)) → sp (.ref p :: (vs ++ dvs)) H1 Q E) : EvI (tMake C sp dvs E tl) σ H C fs := fun H1 e Q q =>
  h H1 e _ fun H2 e2 p dx hp hdx ne => by
    have e3 : Ex H2 (upd (upd H2 dx (.own p)) p (.ins C dx [])) := fun b o hb => by
      rw [upd_ne (ne_of_none hb hp), upd_ne (ne_of_none hb hdx)]
      exact hb
    refine hs _ p dx _ ((e.trans e2).trans e3) upd_same ⟨rfl, q p dx _ (fresh_back e2 hp) (fun b o hb => ?_) upd_same⟩
    have hb2 := e2 _ _ hb
    rw [upd_ne (ne_of_none hb2 hp)]
    exact e3 _ _ hb2
end

section
variable {σ : L2.St} {H : Hp} {te : TE} {C : Addr} {fs : List (Str × V)} {D : Ends} {tz : TS} {i : Nat}
theorem q_asgI (h : EvI te σ H C fs) (k : ∀ p dx H1, H p = none → Ex H H1 → H1 p = some (.ins C dx fs) → tz D (σ.set i (some (.ref p))) H1) : tSeq (tAsg te (gName i)) tz D σ H := h H (Ex.refl H) _ fun p dx H1 hp e h1 => k p dx H1 hp e h1
end
/-! ### slices, lists put together -/
theorem cut_take {xs : List V} {n : Nat} (h : n ≤ xs.length) : cutV xs none (some (n : Int)) = xs.take n := by
  unfold cutV
  rw [HT.sIx_none, HT.sIx_nat, Nat.min_eq_left h]
  simp
theorem cut_drop {xs : List V} {n : Nat} (h : n ≤ xs.length) : cutV xs (some (n : Int)) none = xs.drop n := by
  unfold cutV
  rw [HT.sIx_none, HT.sIx_nat, Nat.min_eq_left h, List.take_of_length_le (by rw [List.length_drop]; omega)]
theorem cut_mid {xs : List V} {n m : Nat} (h : m ≤ xs.length) (h' : n ≤ m) : cutV xs (some (n : Int)) (some (m : Int)) = (xs.drop n).take (m - n) := by
  unfold cutV
  rw [HT.sIx_nat, HT.sIx_nat, Nat.min_eq_left h, Nat.min_eq_left (Nat.le_trans h' h)]
section
variable {K : PySem.W.Frag} {σ : L2.St} {H : Hp} {ta tb te : TE} {v : V} {a b : Addr} {xs ys : List V} {tr : TA} {R : List V → Hp → Prop}
theorem el_cat (h : EvL ta σ H xs) (h' : EvL tb σ H ys) (hz : xs.length + ys.length ≤ 100000) : EvL (tOp rCat ta tb) σ H (xs ++ ys) := fun H1 e Q q =>
  h H1 e _ fun l H2 hl e2 h2 => h' H2 (e.trans e2) _ fun m H3 hm e3 h3 => ⟨l, m, xs, ys, rfl, rfl, e3 _ _ h2, h3, sz_of hz, fun p hp => q p _ (fresh_back (e2.trans e3) hp) ((e2.trans e3).trans (Ex.new hp)) upd_same⟩
theorem el_catV (h : Ev ta σ H (.ref a)) (ha : H a = some (.lst xs)) (h' : EvL tb σ H ys) (hz : xs.length + ys.length ≤ 100000) : EvL (tOp rCat ta tb) σ H (xs ++ ys) := fun H1 e Q q =>
  h H1 e _ fun H2 e2 => h' H2 (e.trans e2) _ fun m H3 hm e3 h3 => ⟨a, m, xs, ys, rfl, rfl, ((e.trans e2).trans e3) _ _ ha, h3, sz_of hz, fun p hp => q p _ (fresh_back (e2.trans e3) hp) ((e2.trans e3).trans (Ex.new hp)) upd_same⟩
theorem el_catR (h : EvL ta σ H xs) (h' : Ev tb σ H (.ref b)) (hb : H b = some (.lst ys)) (hz : xs.length + ys.length ≤ 100000) : EvL (tOp rCat ta tb) σ H (xs ++ ys) := fun H1 e Q q =>
  h H1 e _ fun l H2 hl e2 h2 => h' H2 (e.trans e2) _ fun H3 e3 => ⟨l, b, xs, ys, rfl, rfl, e3 _ _ h2, ((e.trans e2).trans e3) _ _ hb, sz_of hz, fun p hp => q p _ (fresh_back (e2.trans e3) hp) ((e2.trans e3).trans (Ex.new hp)) upd_same⟩
theorem el_catVV (h : Ev ta σ H (.ref a)) (ha : H a = some (.lst xs)) (h' : Ev tb σ H (.ref b)) (hb : H b = some (.lst ys)) (hz : xs.length + ys.length ≤ 100000) : EvL (tOp rCat ta tb) σ H (xs ++ ys) := fun H1 e Q q =>
  h H1 e _ fun H2 e2 => h' H2 (e.trans e2) _ fun H3 e3 => ⟨a, b, xs, ys, rfl, rfl, ((e.trans e2).trans e3) _ _ ha, ((e.trans e2).trans e3) _ _ hb, sz_of hz, fun p hp => q p _ (fresh_back (e2.trans e3) hp) ((e2.trans e3).trans (Ex.new hp)) upd_same⟩
theorem el_is (h : EvL te σ H xs) (e : xs = ys) : EvL te σ H ys := by
  rw [← e]
  exact h
/-- arguments, with what is known of them -/
def EvAR (ta : TA) (σ : L2.St) (H : Hp) (R : List V → Hp → Prop) : Prop := ∀ H1, Ex H H1 → ∀ Q : List V → Hp → Prop, (∀ vs H2, Ex H1 H2 → R vs H2 → Q vs H2) → ta σ H1 Q
theorem ear_nil : EvAR tNil σ H fun vs _ => vs = [] := fun H1 _ Q q => q [] H1 (Ex.refl H1) rfl
theorem ear_cons (h : Ev te σ H v) (hr : EvAR tr σ H R) : EvAR (tCons te tr) σ H fun vs H2 => ∃ r, vs = v :: r ∧ R r H2 := fun H1 e Q q =>
  h H1 e _ fun H2 e2 => hr H2 (e.trans e2) _ fun r H3 e3 hR => q _ H3 (e2.trans e3) ⟨r, rfl, hR⟩
theorem ear_consL (h : EvL te σ H xs) (hr : EvAR tr σ H R) : EvAR (tCons te tr) σ H fun vs H2 => ∃ p r, vs = .ref p :: r ∧ H2 p = some (.lst xs) ∧ R r H2 := fun H1 e Q q =>
  h H1 e _ fun p H2 hp e2 h2 => hr H2 (e.trans e2) _ fun r H3 e3 hR => q _ H3 (e2.trans e3) ⟨p, r, rfl, e3 _ _ h2, hR⟩
end


/-! ### calls of defs that change something: what is asked of the promise -/
section
variable {σ : L2.St} {H : Hp} {sp : Sp} {dvs vs : List V} {E : XK} {tl : TA} {ta : TE} {C a dx : Addr} {m : Str} {fs : List (Str × V)} {D : Ends} {tz : TS} {g : TG}
theorem x_call (h : EvA tl σ H vs) {Q : VK} (k : ∀ H1, Ex H H1 → sp (vs ++ dvs) H1 Q E) : tCall sp dvs E tl σ H Q := h H (Ex.refl H) _ fun H1 e => k H1 e
theorem x_meth (h : Ev ta σ H (.ref a)) (ho : H a = some (.ins C dx fs)) (hl : fs.lookup m = none) (ha : EvA tl σ H vs) {Q : VK} (k : ∀ H1, Ex H H1 → sp (.ref a :: (vs ++ dvs)) H1 Q E) : tMeth C m sp dvs E ta tl σ H Q :=
  h H (Ex.refl H) _ fun H2 e2 => ⟨a, dx, fs, rfl, e2 a _ ho, hl, ha H2 e2 _ fun H3 e3 => k H3 (e2.trans e3)⟩
theorem x_make (h : EvA tl σ H vs) {Q : VK} (k : ∀ H1 p dp, Ex H H1 → (∀ b o, H b = some o → b ≠ p) → H1 p = some (.ins C dp []) → sp (.ref p :: (vs ++ dvs)) H1 (fun v H2 => v = .non ∧ Q (.ref p) H2) E) : tMake C sp dvs E tl σ H Q :=
  h H (Ex.refl H) _ fun H2 e2 p dp hp hdp ne => k _ p dp (fun b o hb => by
    have hb2 := e2 _ _ hb
    rw [upd_ne (ne_of_none hb2 hp), upd_ne (ne_of_none hb2 hdp)]
    exact hb2) (fun b o hb => ne_of_none (e2 _ _ hb) hp) upd_same
theorem d_call (h : EvA tl σ H vs) (k : ∀ H1, Ex H H1 → sp (vs ++ dvs) H1 (fun _ H2 => D.nx σ H2) E) : tDrop (tCall sp dvs E tl) D σ H := x_call h k
theorem qd_call (h : EvA tl σ H vs) (k : ∀ H1, Ex H H1 → sp (vs ++ dvs) H1 (fun _ H2 => tz D σ H2) E) : tSeq (tDrop (tCall sp dvs E tl)) tz D σ H := x_call h k
theorem q_call (h : EvA tl σ H vs) (k : ∀ H1, Ex H H1 → sp (vs ++ dvs) H1 (fun v H2 => g v σ H2 fun σ2 H3 => tz D σ2 H3) E) : tSeq (tAsg (tCall sp dvs E tl) g) tz D σ H := x_call h k
theorem r_call (h : EvA tl σ H vs) (k : ∀ H1, Ex H H1 → sp (vs ++ dvs) H1 D.rt E) : tRet (tCall sp dvs E tl) D σ H := x_call h k
end
/-! ### a list of new lists, by a comprehension over a range -/
/-- at f: a list of lists, each its own object -/
structure RowsAt (H : Hp) (f : Addr) (rows : List Addr) (ls : List (List V)) : Prop where
  top : H f = some (.lst (rows.map V.ref))
  nd : rows.Nodup
  len : rows.length = ls.length
  row : ∀ (i : Nat) (r : Addr) (l : List V), rows[i]? = some r → ls[i]? = some l → H r = some (.lst l)
/-- .. all new -/
structure RowsNew (H : Hp) (f : Addr) (rows : List Addr) : Prop where
  top : H f = none
  row : ∀ r ∈ rows, H r = none ∧ r ≠ f
theorem RowsAt.ex {H H' : Hp} {f : Addr} {rows : List Addr} {ls : List (List V)} (h : RowsAt H f rows ls) (e : Ex H H') : RowsAt H' f rows ls := ⟨e _ _ h.top, h.nd, h.len, fun i r l h1 h2 => e _ _ (h.row i r l h1 h2)⟩
theorem RowsNew.back {H H' : Hp} {f : Addr} {rows : List Addr} (h : RowsNew H' f rows) (e : Ex H H') : RowsNew H f rows := ⟨fresh_back e h.top, fun r hr => ⟨fresh_back e (h.row r hr).1, (h.row r hr).2⟩⟩
def EvRows (te : TE) (σ : L2.St) (H : Hp) (ls : List (List V)) : Prop := ∀ H1, Ex H H1 → ∀ Q : VK, (∀ p rows H2, Ex H1 H2 → RowsAt H2 p rows ls → RowsNew H1 p rows → Q (.ref p) H2) → te σ H1 Q
theorem er_lcR1 {σ : L2.St} {H : Hp} {ta : TA} {te : TE} {j : Nat} {vs : List Nat} {n : Nat} (f : Nat → List V) (h : EvA ta σ H [.int (n : Int)]) (hn : n ≤ 40000) (hw : ∀ x, wipe ((wipe σ vs).set j (some x)) vs = wipe σ vs)
    (he : ∀ (i : Nat) H1, Ex H H1 → i < n → EvL te ((wipe σ vs).set j (some (.int (i : Int)))) H1 (f i)) :
    EvRows (tLc (iRng1 ta) (gName j) tYes te vs) σ H ((List.range n).map f) := fun H0 e Q q => h H0 e _ fun H1 e1 => by
  refine ⟨(n : Int), rfl, by omega, by omega, fun Dl hD => lc_range (lo := 0) (n := ((n : Int)).toNat) (fun i H' => ∃ rows, Ex H1 H' ∧ RowsAt H' Dl rows ((List.range i).map f) ∧ RowsNew H1 Dl rows) ⟨[], Ex.new hD, ⟨upd_same, List.nodup_nil, rfl, fun i r l h => by simp at h⟩, hD, fun r hr => by cases hr⟩ (fun i H' hi p => ?_) fun H' p => ?_⟩
  · have e0 : (0 : Int) + (i : Int) = (i : Int) := Int.zero_add _
    show wipe ((wipe σ vs).set j (some (.int ((0 : Int) + (i : Int))))) vs = wipe σ vs ∧ tYes ((wipe σ vs).set j (some (.int ((0 : Int) + (i : Int))))) H' fun b H3 => if b = true then te ((wipe σ vs).set j (some (.int ((0 : Int) + (i : Int))))) H3 fun y H4 => ∃ acc, H4 Dl = some (.lst acc) ∧ acc.length < sizeLine ∧ (∃ rows, Ex H1 (upd H4 Dl (.lst (acc ++ [y]))) ∧ RowsAt (upd H4 Dl (.lst (acc ++ [y]))) Dl rows ((List.range (i + 1)).map f) ∧ RowsNew H1 Dl rows) else ∃ rows, Ex H1 H3 ∧ RowsAt H3 Dl rows ((List.range (i + 1)).map f) ∧ RowsNew H1 Dl rows
    rw [e0]
    obtain ⟨rows, p1, p2, p3⟩ := p
    refine ⟨hw _, ?_⟩
    show te ((wipe σ vs).set j (some (.int (i : Int)))) H' _
    refine he i H1 (e.trans e1) (by omega) H' p1 _ fun r H4 hr e4 h4 => ⟨rows.map V.ref, e4 _ _ p2.top, ?_, rows ++ [r], ?_, ?_, ?_⟩
    · rw [List.length_map, p2.len, List.length_map, List.length_range]
      exact sz_lt (by omega)
    · exact Ex.mut (p1.trans e4) hD
    · have nr : r ≠ Dl := (ne_of_none p2.top hr).symm
      refine ⟨by rw [List.map_append]; exact upd_same, ?_, ?_, ?_⟩
      · rw [List.nodup_append]
        refine ⟨p2.nd, by simp, fun a ha b hb => ?_⟩
        cases List.mem_singleton.mp hb
        obtain ⟨k, hk⟩ := List.mem_iff_getElem?.mp ha
        have hkl := (List.getElem?_eq_some_iff.mp hk).1
        rw [p2.len] at hkl
        exact ne_of_none (p2.row k a _ hk (List.getElem?_eq_getElem hkl)) hr
      · rw [List.length_append, p2.len]
        simp
      · intro k a l hk hl
        rw [List.range_succ, List.map_append] at hl
        have hlen := p2.len
        rw [List.length_map, List.length_range] at hlen
        by_cases hki : k < i
        · rw [List.getElem?_append_left (by omega)] at hk
          rw [List.getElem?_append_left (by simpa using hki)] at hl
          rw [upd_ne (p3.row a (List.mem_of_getElem? hk)).2]
          exact e4 _ _ (p2.row k a l hk hl)
        · have ek : k = i := by
            have := (List.getElem?_eq_some_iff.mp hk).1
            rw [List.length_append] at this
            simp at this
            omega
          subst ek
          rw [List.getElem?_append_right (by omega)] at hk
          rw [List.getElem?_append_right (by simp)] at hl
          simp [hlen] at hk hl
          rw [← hk, ← hl, upd_ne nr]
          exact h4
    · refine ⟨hD, fun a ha => ?_⟩
      rcases List.mem_append.mp ha with ha | ha
      · exact p3.row a ha
      · cases List.mem_singleton.mp ha
        exact ⟨fresh_back p1 hr, (ne_of_none p2.top hr).symm⟩
  · obtain ⟨rows, p1, p2, p3⟩ := p
    exact q Dl rows H' (e1.trans p1) p2 (p3.back e1)
/-- a module's whole number -/
theorem pe_gint {X : Cx} {x : Str} {i : Int} {pos : Pos} (hm : ∃ t, X.mg x = some (.int i t)) (hg : Gl X x := by rfl) (hd : (x == ("__debug__" : Str)) = false := by decide) : PE X (.Name x pos) (tC (.int i)) := by
  obtain ⟨t, hm⟩ := hm
  exact pe_glob hg hm ⟨t, rfl⟩ hd
/-- a def that stands, with its promise -/
def OkD (P : Program) (w : World) (K : PySem.W.Frag) (mg : Str → Option Value) (base : Heap) (CX : CXT) (k : Nat) (f : Addr) (ps : List Str) (sp : Sp) : Prop :=
  ∃ fd, FnOk P w K mg base CX k f fd ps sp ∧ Binds K fd ps [] ∧ PySem.W.keepIn K (.ref f) = true
end SJ
/-! sorted(range(..), key=lambda number: 0 - net.goes[number].leaves), told by the heap alone. -/
namespace SJ
open PySem PySem.Spec PyProof.Rows L2 Evl LamX
section
variable {P : Program} {w : World} {K : PySem.W.Frag} {A : Around} {s : Shared} {H : Hp} {E : Value → Shared → Prop}
theorem raw_fld {Q : Value → Shared → Prop} {a C dx : Addr} {fs : List (Str × V)} {f : Str} {v : V} {b : Bool} (hok : HOk P w H s.heap) (hK : K.In s.heap) (e : H a = some (.ins C dx fs)) (c : Cls K C) (n : NoAttr K C f) (l : fs.lookup f = some v)
    (h : ∀ u tk, RelV v u → Q u { s with toks := tk }) : wpAny (model P w) A (getAttr (.ref a) f b) Q E s := by
  obtain ⟨mA, O, r, _⟩ := ins_get hok e
  obtain ⟨u, hu, ru⟩ := RelO.some_of (v := v) (o := mA f) (by rw [← l]; exact r f)
  exact get_map hK O (c.get f) c.hd n hu (handed_of ru) (h u _ ru)
/-- what the lambda looks at: the net, its departures, the one of a number -/
structure KeyAt (K : PySem.W.Frag) (H : Hp) (na : Addr) (i : Nat) (dep : Nat) : Prop where
  net : ∃ (dn : Addr) (pl cl : V) (gl ga dg : Addr) (gs : List Addr) (x0 x1 x3 x4 : V), H na = some (.ins (cNet K) dn (FNet pl cl (.ref gl))) ∧ H gl = some (.lst (gs.map V.ref)) ∧ gs.length ≤ 40000 ∧ gs[i]? = some ga ∧ H ga = some (.ins (cGo K) dg (FDeparture x0 x1 (nV dep) x3 x4))
theorem key_body {mg : Str → Option Value} {env : Env} {c0 na : Addr} {i dep : Nat} {t : Tok} {m : Str → Option Value} {Q : Value → Shared → Prop} {p1 p2 p3 p4 p5 p6 p7 : Pos} {j : Nat} (T : Txt w K mg) (hk : env.scope.kind = .function) (h1 : env.kindOf "net" = some .free) (h2 : env.cells.lookup ("net" : Str) = some c0)
    (h3 : s.heap.IsCell c0 (some (.ref na))) (h4 : env.kindOf "number" = some .local) (h5 : s.heap.Ns env.locals m) (h6 : m "number" = some (.int (i : Int) t)) (hok : HOk P w H s.heap) (hK : K.In s.heap) (N : KeyAt K H na i dep)
    (h : ∀ tk tk', Q (.int (0 - (dep : Int)) tk') { s with toks := tk }) :
    wpAny (model P w) A (eval (.BinOp (.Constant (.int 0) j p1) .Sub (.Attribute (.Subscript (.Attribute (.Name "net" p2) "goes" p3) (.Name "number" p4) p5) "leaves" p6) p7) env) Q E s := by
  obtain ⟨dn, pl, cl, gl, ga, dg, gs, x0, x1, x3, x4, n1, n2, n3, n4, n5⟩ := N
  refine wpAny_BinOp (wpAny_Constant_int ?_)
  refine attr_of (by rfl) (Subscript_ (attr_of (by rfl) (wpAny_Name (wpAny_loadName_free hk h1 h2 h3 ?_))))
  refine raw_fld (s := { s with toks := s.toks + 1 }) hok hK n1 T.c_Net T.n_Net_goes lNet_goes fun u tk ru => ?_
  obtain rfl : u = Value.ref gl := ru
  refine wpAny_Name (wpAny_loadName_local hk h4 h5 h6 ?_)
  obtain ⟨hz, its, n, rv, hob⟩ := hok gl _ n2
  obtain ⟨u, hu, ru⟩ := rv.get (show (gs.map V.ref)[i]? = some (V.ref ga) by rw [List.getElem?_map, n4]; rfl)
  obtain rfl : u = Value.ref ga := ru
  have hlt : i < 40000 := Nat.lt_of_lt_of_le (List.getElem?_eq_some_iff.mp n4).1 n3
  refine item_listR (l := gl) (items := its.toArray) (k := (i : Int)) (x := .ref ga) ⟨_, hob, rfl, _, rfl⟩ (by omega) (by omega) (by simpa using hu) ?_
  refine raw_fld (s := { s with toks := tk }) hok hK n5 T.c_Departure T.n_Departure_leaves lDeparture_leaves fun u tk2 ru => ?_
  obtain ⟨t2, rfl⟩ := ru
  exact sub_int (s := { s with toks := tk2 }) (h _ _)

/-- the parameters of the lambda -/
abbrev keyPars (p : Pos) : Arguments := { posonlyargs := [], args := [{ arg := "number", annotation := none, pos := p }], vararg := none, kwonlyargs := [], kw_defaults := [], kwarg := none, defaults := [] }
abbrev keyBody (j : Nat) (p1 p2 p3 p4 p5 p6 p7 : Pos) : Expr := .BinOp (.Constant (.int 0) j p1) .Sub (.Attribute (.Subscript (.Attribute (.Name "net" p2) "goes" p3) (.Name "number" p4) p5) "leaves" p6) p7
abbrev keyScope : Scope := { kind := .function, names := [(PySem.Str.ofString "number", .local), (PySem.Str.ofString "net", .free)], isGenerator := false, isCoroutine := false, more := [] }
/-- a call of the lambda: the key, and all that was there stays -/
theorem key_turn {mg : Str → Option Value} {q : Str} {f c' c0 na : Addr} {cl : List (Str × Addr)} {pm ctv : Value} {i dep : Nat} {t : Tok} {p0 p1 p2 p3 p4 p5 p6 p7 : Pos} {j : Nat} (T : Txt w K mg) (hd : A.depth < recursionLimit)
    (hf : s.heap.get? f = some (PySem.W.kla_obj "<lambda>" q (keyPars p0) (keyBody j p1 p2 p3 p4 p5 p6 p7) keyScope cl pm c' ctv)) (hc : s.heap.CodeRec (.ref c') q) (h2 : cl.lookup ("net" : Str) = some c0)
    (h3 : s.heap.IsCell c0 (some (.ref na))) (hok : HOk P w H s.heap) (hK : K.In s.heap) (hN : s.heap.NoLimit) (N : KeyAt K H na i dep) :
    wpAny (model P w) A (call (.ref f) [.int (i : Int) t]) (PySem.W.KeyPure (.int (0 - (dep : Int))) s) (fun _ _ => False) s := by
  refine wpAny_call ?_
  refine PySem.W.kla_callFunE hd hf rfl rfl rfl rfl hc ?_
  have hb : bindArgs (PySem.W.kla_fn "<lambda>" q (keyPars p0) (keyBody j p1 p2 p3 p4 p5 p6 p7) keyScope cl pm (.ref c') ctv) ⟨[.int (i : Int) t], []⟩ = pure [(("number" : Str), Value.int (i : Int) t)] := by rfl
  rw [hb]
  refine wpAny_pure (wpAny_newFunctionEnv (show ∀ x ∈ keyScope.names, x.2 ≠ .cell by decide) (fun y hy => by
    cases List.mem_singleton.mp hy
    exact show keyScope.names.lookup ("number" : Str) = some .local by decide) (fun h₁ hns hsb => ?_) rfl)
  have kp : ∀ b o, s.heap.get? b = some o → h₁.get? b = some o := fun b o e => hsb.extBut b o (Nat.ne_of_lt (Heap.lt_size e)) (Heap.get?_push_of_some _ e)
  refine ⟨hN.fresh _ hsb, ?_⟩
  refine PySem.W.kla_codeExpr ?_
  have hcell : h₁.IsCell c0 (some (.ref na)) := by
    obtain ⟨o, ho, hd⟩ := h3
    exact ⟨o, kp _ _ ho, hd⟩
  refine key_body (c0 := c0) (s := { s with heap := h₁, toks := s.toks + 1 }) T rfl rfl h2 hcell rfl hns (t := t) (by rfl) (hok.kept kp) (hK.keeps kp) N fun tk tk' => ?_
  exact ⟨h₁, tk, rfl, kp, .int _ _⟩
/-- sorted(r, key=f), r a range from 0 -/
theorem sorted_range_key {r f : Addr} {n : Nat} {a1 a2 a3 : Tok} {kz : Nat → Int} {Q : Value → Shared → Prop} (hh : A.handled = none) (hr : IsRange s.heap r 0 (n : Int) 1 a1 a2 a3) (hn : n ≤ 40000) (hu : A.units + 64 < PySem.cLine)
    (turn : ∀ (i : Nat) (t : Tok), i < n → ∀ (h : Heap) (tk : Nat), (∀ b o, s.heap.get? b = some o → h.get? b = some o) →
      wpAny (model P w) A.in1.in1 (call (.ref f) [.int (i : Int) t]) (PySem.W.KeyPure (.int (kz i)) { s with heap := h, toks := tk }) (fun _ _ => False) { s with heap := h, toks := tk })
    (h : ∀ (out : List Value) (D c : Nat) (h1 h' : Heap) (tk : Nat), (∀ b o, s.heap.get? b = some o → h1.get? b = some o) → h1.objs.size ≤ D → (∀ b o, h1.get? b = some o → h'.get? b = some o) → h'.get? D = some (seqObj "list" (List.toArray out) c) →
      PySem.W.EachIs (fun v (i : Nat) => ∃ t, v = Value.int (i : Int) t) out ((List.range n).mergeSort fun a b => decide (kz a ≤ kz b)) → Q (.ref D) { s with heap := h', toks := tk }) :
    wpAny (model P w) A (call (.builtin "sorted") [.ref r] [(Str.ofString "key", .ref f)]) Q E s := by
  refine call_function_entry_kw kind_sorted plain_sorted entry_sorted (ksk_s1 _ _) ?_
  unfold Builtin.«sorted»
  refine wpAny_bind (m := checkCount "sorted" 1 1 _) (wpAny_pure ?_)
  have hsz : Builtin.Range.rangeSize 0 (n : Int) 1 = (n : Int) := by
    rw [rangeSize_one]
    split <;> omega
  refine wpAny_bind (collect_range (n := n) hh hr (small_one (by omega) (by omega) (by omega) (by omega)) hsz (by omega) fun h1 tk1 acc k1 items => ?_)
  have hL : acc.toList.length = n := by
    rw [Array.length_toList]
    exact items.1
  refine wpAny_bind (wpAny_newList ?_ (by rw [hL, sizeLine_eq]; omega))
  have e : PySem.W.EachIs (fun v (i : Nat) => (∃ t, v = Value.int (i : Int) t) ∧ i < n) acc.toList (List.range n) := by
    refine PySem.W.EachIs.of_zip (by rw [hL, List.length_range]) fun p hp => ?_
    obtain ⟨j, hj, ej⟩ := List.mem_iff_getElem.mp hp
    have hjn : j < n := by
      rw [List.length_zip, hL, List.length_range] at hj
      omega
    rw [List.getElem_zip, List.getElem_range] at ej
    rw [← ej]
    obtain ⟨t, ht⟩ := items.2 j (acc.toList[j]) (by rw [← Array.getElem?_toList, List.getElem?_eq_getElem])
    exact ⟨⟨t, by show acc.toList[j] = _; rw [ht]; congr 1; omega⟩, hjn⟩
  refine wpAny_bind (wpAny_holding (PySem.W.list_sort_key_data (b := false) (fun i : Nat => PyData.int (kz i)) (vs := acc.toList) (Heap.get?_push_size _ rfl) e (PySem.W.AllAlike.of fun _ _ => by simp [PySem.W.alike]) (PySem.W.Sortable.others fun _ => ⟨by simp, by simp⟩) (by rw [List.length_range, sizeLine_eq]; omega) (fun x _ => ?_) (ksk_l1 _ _) (ksk_t1 _ _) ?_ ?_))
  · have d0 : (PyData.int (kz x)).depth = 0 := by simp [PyData.depth]
    have u1 : A.in1.units = A.units + 1 := rfl
    rw [d0, u1]
    omega
  · rintro v i ⟨⟨t, rfl⟩, hi⟩ _ g tk kp
    exact turn i t hi g tk fun b o e0 => kp b o (Nat.ne_of_lt (Heap.lt_size (k1 _ _ e0))) (Heap.get?_push_of_some _ (k1 b o e0))
  · intro out c g tk kp hD _ eo
    refine wpAny_pure ⟨_, rfl, h out h1.objs.size c h1 g tk k1 (Nat.le_refl _) (fun b o e0 => kp b o (Nat.ne_of_lt (Heap.lt_size e0)) (Heap.get?_push_of_some _ e0)) hD ?_⟩
    rw [PySem.W.dataLe_int] at eo
    exact eo.mono fun _ _ q => q.1
end
theorem KeyAt.extN {K : PySem.W.Frag} {H H' : Hp} {na : Addr} {i dep : Nat} (h : KeyAt K H na i dep) (e : ExtN H H') : KeyAt K H' na i dep := by
  obtain ⟨dn, pl, cl, gl, ga, dg, gs, x0, x1, x3, x4, n1, n2, n3, n4, n5⟩ := h
  exact ⟨dn, pl, cl, gl, ga, dg, gs, x0, x1, x3, x4, e _ _ n1 (fun _ z => by cases z), e _ _ n2 (fun _ z => by cases z), n3, n4, e _ _ n5 (fun _ z => by cases z)⟩
/-- the latest first, as the program sorts -/
def byLate (n : Nat) (dep : Nat → Nat) : List Nat := (List.range n).mergeSort fun a b => decide ((0 - (dep a : Int)) ≤ 0 - (dep b : Int))
def tLate (K : PySem.W.Frag) (T : List (Addr × Str)) (ta : TE) (jn : Nat) : TE := fun σ H Q => ta σ H fun x H1 => ∃ (n : Nat) (na : Addr) (dep : Nat → Nat), x = .int (n : Int) ∧ n ≤ 40000 ∧ σ[jn]? = some (some (.ref na)) ∧ (∀ i, i < n → KeyAt K H1 na i (dep i)) ∧ Tabs T H1 ∧
  ∀ (H2 : Hp) (p : Addr), ExtN H1 H2 → Tabs T H2 → H2 p = none → Q (.ref p) (upd H2 p (.lst ((byLate n dep).map nV)))
theorem vals_nats : ∀ {out : List Value} {ns : List Nat}, PySem.W.EachIs (fun v (i : Nat) => ∃ t, v = Value.int (i : Int) t) out ns → Vals (ns.map nV) out
  | _, _, .nil => .nil
  | _, _, .cons h t => .cons h (vals_nats t)
section
variable {X : Cx} {ta : TE} {a : Expr} {k jn j : Nat} {c P0 : Addr} {T : List (Addr × Str)} {p pr ps pos lpos kpos p0 p1 p2 p3 p4 p5 p6 p7 : Pos}
theorem pe_late (hgS : Gl X "sorted") (hmS : X.mg "sorted" = none) (hgR : Gl X "range") (hmR : X.mg "range" = none) (ha : PE X a ta) (TB : TabB X.base X.mg c P0) (hcode : X.env.code = .ref c) (hm : (P0, X.env.qual ++ "<lambda>") ∈ T)
    (hu : ∀ q ∈ T, q.1 = P0 → q.2 = X.env.qual ++ "<lambda>") (hr : Room k X.A) (hN : X.N[jn]? = some "net") (hcell : X.env.scope.names.lookup ("net" : Str) = some .cell) (Tx : Txt X.w X.K X.mg)
    (na : starEach [a] X.env = (false, eval a X.env) :: starEach [] X.env := by rfl) :
    PE X (.Call (.Name "sorted" p) [.Call (.Name "range" pr) [a] [] ps] [⟨some "key", .Lambda (keyPars p0) (keyBody j p1 p2 p3 p4 p5 p6 p7) keyScope lpos, kpos⟩] pos) (tLate X.K T ta jn) := by
  refine ⟨fun pins s σ H Q I h => ?_⟩
  refine wpAny_Call_Name_kw (ld_blt I hgS hmS (u := .builtin "sorted") (by decide +kernel) ?_)
  refine PyProof.Rows.callWith_kw ?_ (by rfl) (by rfl) (by rfl) (by rfl)
  refine args_cons (Call_ (ld_blt I hgR hmR boot_range (PyProof.Rows.callWith_type1 (one_arg ha I h (fun v s2 x H2 I2 r q => ?_) na) na)))
  obtain ⟨n, net, dep, rfl, hn, hs, hk, hT, fin⟩ := q
  obtain ⟨t, rfl⟩ := r
  refine call_range_1 (args_nil ?_)
  have I3 : Inv X ((s2.heap.objs.size, { cls := .type "range", data := .fields #[.int 0 s2.toks, .int (n : Int) t, .int 1 (s2.toks + 1)] }) :: pins) σ H2 { s2 with heap := s2.heap.push { cls := .type "range", data := .fields #[.int 0 s2.toks, .int (n : Int) t, .int 1 (s2.toks + 1)] }, toks := s2.toks + 1 + 1 } := by
    have J : Inv X pins σ H2 { s2 with heap := s2.heap.push { cls := .type "range", data := .fields #[.int 0 s2.toks, .int (n : Int) t, .int 1 (s2.toks + 1)] }, toks := s2.toks + 1 + 1 } := I2.kept fun b u e => Heap.get?_push_of_some _ e
    refine J.pins_of fun q hq => ?_
    rcases List.mem_cons.mp hq with rfl | hq
    · exact ⟨Heap.get?_push_size _ rfl, I2.hok.fresh (Nat.le_refl _), Nat.ne_of_gt I2.lt, I2.nofs (Nat.le_refl _), fun v z => by cases z⟩
    · exact J.pin q (List.mem_append_right _ hq)
  refine kwAll_cons ?_
  have hfree : ∀ y ∈ keyScope.names, y.2 = .free → ∃ c, X.env.cells.lookup y.1 = some c := fun y hy e => by
    rcases List.mem_cons.mp hy with rfl | hy
    · cases e
    · cases List.mem_singleton.mp hy
      exact I.ok.has _ (.inl hcell)
  refine lam_make2 I3 TB hcode hm hu hT (by rfl) hfree fun f c' pm ctv H1 s' I4 eN T1 hf hfn hfr hco => ?_
  refine kwAll_nil ?_
  show wpAny _ _ (call (.builtin "sorted") [.ref s2.heap.objs.size] [(Str.ofString "key", .ref f)]) _ _ s'
  have hrg := (I4.pin _ (List.mem_append_right _ (List.mem_cons_self ..))).1
  obtain ⟨c0, hc0⟩ := I.ok.has "net" (.inl hcell)
  have hclo : (cloFrom X.env.cells keyScope.names []).lookup ("net" : Str) = some c0 := by
    obtain ⟨c1, h1⟩ := mem_lookup (cloFrom_has (cells := X.env.cells) (acc := []) (show (("net" : Str), NameKind.free) ∈ keyScope.names by decide))
    rw [h1]
    rcases cloFrom_mem (PySem.mem_of_lookup h1) with hm | ⟨_, h2⟩
    · cases hm
    · rw [h2, hc0]
      rfl
  have hcl : s'.heap.IsCell c0 (some (.ref net)) := by
    obtain ⟨m, _, hl⟩ := I4.loc
    obtain ⟨u, ru, q⟩ := hl jn "net" _ hN hs (.inr (.inl hcell))
    obtain rfl : u = Value.ref net := ru
    rcases q with ⟨e, _⟩ | ⟨_, c2, e2, e3⟩
    · exact absurd (hcell.symm.trans e) (by decide)
    · rw [hc0] at e2
      cases e2
      exact e3
  refine sorted_range_key (kz := fun i => 0 - (dep i : Int)) hr.hd hrg hn hr.units (fun i t hi g tk kp => ?_) fun out D cc h1 h' tk k1 hD k2 hDl eo => ?_
  · refine key_turn (s := { s' with heap := g, toks := tk }) (A := X.A.in1.in1) Tx hr.depth (kp _ _ hf) ?_ hclo ?_ (I4.hok.kept kp) (I4.kIn.keeps kp) (I4.nolimit.keeps kp) ((hk i hi).extN eN)
    · obtain ⟨c2, oc, vs, t, e1, e2, e3, e4⟩ := NdefX.codeO_at I4.hok hco
      exact ⟨c2, oc, vs, t, e1, kp _ _ e2, e3, e4⟩
    · obtain ⟨o, ho, hd⟩ := hcl
      exact ⟨o, kp _ _ ho, hd⟩
  · have I5 : Inv X pins σ H1 { s' with heap := h1, toks := tk } := (I4.kept k1).pins_of fun q hq => (I4.kept (t' := tk) k1).pin q (List.mem_append_right _ (List.mem_cons_of_mem _ hq))
    have hv := vals_nats eo
    refine ⟨.ref D, upd H1 D (.lst ((byLate n dep).map nV)), I5.laid (t' := tk) k2 hD ⟨?_, out, cc, hv, hDl⟩, rfl, fin H1 D eN T1 (I5.hok.fresh hD)⟩
    rw [List.length_map]
    unfold byLate
    rw [List.length_mergeSort, List.length_range, sizeLine_eq]
    omega
end
end SJ
/-! for a, b in zip(a text, a list); dict(zip(a text, a list)). -/
namespace SJ
open PySem PySem.Spec PyProof.Rows L2 Evl
/-- signs of z and items of the list at b, in new pairs -/
def Itzs (K : PySem.W.Frag) (z : Str) (b : Addr) : It :=
  ⟨fun i H => ∃ (ys : List V) (y : V), i < z.cps.size ∧ SqL K H b ys ∧ ys[i]? = some y,
    fun i H v H' => ∃ (T : Addr) (c : Nat) (y : V), v = .ref T ∧ H T = none ∧ H' = upd H T (.tup [.str ⟨#[c]⟩, y]) ∧ z.cps[i]? = some c ∧ ∀ ys, SqL K H b ys → ys[i]? = some y,
    fun i H => ∃ ys : List V, SqL K H b ys ∧ i ≤ z.cps.size ∧ i ≤ ys.length ∧ (i = z.cps.size ∨ i = ys.length)⟩
/-- the cells of such a zip -/
def ZsAt (h : Heap) (Z TI TO i1 i2 b : Addr) (z : Str) (t : Tok) (i : Nat) : Prop :=
  IsZip h Z TI TO .none ∧ IsTupOf2 h TI (.ref i1) (.ref i2) ∧ (∃ x y, IsTupOf2 h TO x y) ∧ h.IsStrIter i1 (strIterType z) z t i ∧ h.IsListIter i2 b i
theorem turn_zipS {P : Program} {w : World} {K : PySem.W.Frag} {elts : List Expr} {kk : Nat} {tpos : Pos} {z : Str} {t : Tok} {b Z TI TO i1 i2 : Addr} (D : ZipSep2 Z TI TO i1 i2 [i1] [i2, b]) :
    Turn P w K (.Tuple elts kk tpos) (Itzs K z b) [Z, TI, TO, i1, i2] Z (fun i h => ZsAt h Z TI TO i1 i2 b z t i) where
  mem := by simp
  obj := fun i h st c hc => by
    obtain ⟨hz, hTI, ⟨x, y, hTO⟩, ⟨o1, e1, _, d1⟩, ⟨o2, e2, _, d2⟩⟩ := st
    have e' : c = Z ∨ c = TI ∨ c = TO ∨ c = i1 ∨ c = i2 := by simpa using hc
    rcases e' with q | q | q | q | q
    · rw [q]; exact ⟨_, hz, fun v q => nomatch q⟩
    · rw [q]; exact ⟨_, hTI, fun v q => nomatch q⟩
    · rw [q]; exact ⟨_, hTO, fun v q => nomatch q⟩
    · rw [q]; exact ⟨o1, e1, fun v q => by rw [d1] at q; cases q⟩
    · rw [q]; exact ⟨o2, e2, fun v q => by rw [d2] at q; cases q⟩
  keep := fun i h h' st k => by
    obtain ⟨hz, hTI, ⟨x, y, hTO⟩, ⟨o1, e1, r1⟩, h2⟩ := st
    exact ⟨k Z (by simp) _ hz, k TI (by simp) _ hTI, ⟨x, y, k TO (by simp) _ hTO⟩, ⟨o1, k i1 (by simp) _ e1, r1⟩, h2.at fun o q => k i2 (by simp) o q⟩
  item := by
    intro X hP hw hK hc i pins s σ H E I hf st hg
    subst hP hw hK
    obtain ⟨hz, hTI, ⟨x0, y0, hTO⟩, h1, h2⟩ := st
    obtain ⟨ys, y, hlt, hqy, hy⟩ := hg
    obtain ⟨its2, rv2, p2, _⟩ := I.list hqy
    obtain ⟨u2, hu2, ru2⟩ := rv2.get hy
    have hzl : Z < s.heap.objs.size := Heap.lt_size hz
    have hh : X.A.handled = none := I.ok.hd hc
    have nb : b ≠ i2 := fun e => by
      obtain ⟨o1, e1, c1, _⟩ := h2
      obtain ⟨o2, e2, c2, _⟩ := p2.isList
      rw [e, e1] at e2
      cases e2
      rw [c1] at c2
      exact absurd c2 (by decide)
    have hl2 : i < its2.toArray.size := by
      have := (List.getElem?_eq_some_iff.mp hu2).1
      simpa using this
    refine wpAny_pyNext_zipD2_item D (Draws.text (A := X.A.in1) hh i1 z t) (Draws.list (A := X.A.in1) hh i2 b nb its2.toArray) hz hTI hTO h1 ⟨h2, p2.isList⟩ hlt hl2 fun v1 v2 h' tk e1 e2 z' TO' h1' h2' hT hsz hk => ?_
    obtain ⟨c, u1, hc1, rfl⟩ := e1
    have ev2 : v2 = u2 := by
      have q : its2.toArray[i]? = some v2 := e2
      rw [List.getElem?_toArray, hu2] at q
      exact (Option.some.inj q).symm
    subst ev2
    refine ⟨_, rfl, wpAny_letOwnedTupleGo_zip (s := { s with heap := h', toks := tk }) z' fun h'' z'' sb => ?_⟩
    have hT2 : h''.get? s.heap.objs.size = some { cls := .type "tuple", data := .seq #[.str ⟨#[c]⟩ u1, v2] } := (sb.2 _ (Nat.ne_of_gt hzl)).trans hT
    have new : ObjOk X.prog X.w (upd H s.heap.objs.size (.tup [.str ⟨#[c]⟩, y])) h'' s.heap.objs.size (.tup [.str ⟨#[c]⟩, y]) :=
      ⟨by show 2 ≤ sizeLine; decide, [.str ⟨#[c]⟩ u1, v2], .cons ⟨u1, rfl⟩ (.cons ru2 .nil), ⟨_, hT2, rfl, _, rfl⟩⟩
    have I1 : Inv X pins σ (upd H s.heap.objs.size (.tup [.str ⟨#[c]⟩, y])) { s with heap := h'', toks := tk } :=
      I.turnedNew (t' := tk) (ch := [Z, TI, TO, i1, i2]) (fun c o hb q => (sb.2 c (fun q' => hb (by simp [q']))).trans (hk c o (fun q' => hb (by simp [q'])) (fun q' => hb (by simp [q'])) (fun q' => hb (by simp [q'])) (fun q' => hb (by simp [q'])) q)) hf (Nat.le_refl _) new
    refine ⟨.ref s.heap.objs.size, _, I1, rfl, ⟨_, c, y, rfl, I.hok.fresh (Nat.le_refl _), rfl, hc1, fun l hl => by rw [I.list_inj hl hqy]; exact hy⟩, ⟨z'', ?_, ⟨.str ⟨#[c]⟩ u1, v2, ?_⟩, ?_, ?_⟩, fun c hcm => ?_⟩
    · exact (sb.2 _ D.TIz).trans (hk _ _ D.TIz D.TITO D.TIi1 D.TIi2 hTI)
    · exact (sb.2 _ D.TOz).trans TO'
    · exact h1'.extBut sb.extBut (Ne.symm D.zi1)
    · exact h2'.1.extBut sb.extBut (Ne.symm D.zi2)
    · have hlt : c < s.heap.objs.size := by
        have e' : c = Z ∨ c = TI ∨ c = TO ∨ c = i1 ∨ c = i2 := by simpa using hcm
        rcases e' with q | q | q | q | q
        · rw [q]; exact hzl
        · rw [q]; exact Heap.lt_size hTI
        · rw [q]; exact Heap.lt_size hTO
        · rw [q]; obtain ⟨_, e1, _⟩ := h1; exact Heap.lt_size e1
        · rw [q]; obtain ⟨_, e2, _⟩ := h2; exact Heap.lt_size e2
      rw [upd_ne (Nat.ne_of_lt hlt)]
      exact (hf c hcm).1
  done := by
    intro X hP hw hK hc i pins s σ H E I hf st hg
    subst hP hw hK
    obtain ⟨hz, hTI, ⟨x0, y0, hTO⟩, h1, h2⟩ := st
    obtain ⟨ys, hqy, le1, le2, hend⟩ := hg
    obtain ⟨its2, rv2, p2, _⟩ := I.list hqy
    have l2 := rv2.length
    have hh : X.A.handled = none := I.ok.hd hc
    have nb : b ≠ i2 := fun e => by
      obtain ⟨o1, e1, c1, _⟩ := h2
      obtain ⟨o2, e2, c2, _⟩ := p2.isList
      rw [e, e1] at e2
      cases e2
      rw [c1] at c2
      exact absurd c2 (by decide)
    refine wpAny_pyNext_zipD2_end D (Draws.text (A := X.A.in1) hh i1 z t) (Draws.list (A := X.A.in1) hh i2 b nb its2.toArray) hz hTI hTO h1 ⟨h2, p2.isList⟩ le1 (by simp; omega) (by rcases hend with q | q; exact .inl q; exact .inr (by simp; omega)) fun h' tk hk => ⟨rfl, I.turnedL (t' := tk) (ch := [Z, TI, TO, i1, i2]) (fun c o hb q =>
      hk c o (fun q' => hb (by simp [q'])) (fun q' => hb (by simp [q'])) (fun q' => hb (by simp [q'])) (fun q' => hb (by simp [q'])) q) hf⟩
  self := fun A i s Q E st h => wpAny_pyIter_zip st.1 h
def iZipS (K : PySem.W.Frag) (ta : TA) : TI := fun σ H R => ta σ H fun vs H1 => ∃ z b ys, vs = [.str z, .ref b] ∧ SqL K H1 b ys ∧ R (Itzs K z b) H1
theorem pi_zipS {X : Cx} {e e2 : Expr} {ta : TA} {p pos tpos : Pos} {elts : List Expr} {kk : Nat} (hg : Gl X "zip") (hm : X.mg "zip" = none) (ha : PA X [e, e2] ta)
    (hs : starEach [e, e2] X.env = (false, eval e X.env) :: starEach [e2] X.env := by rfl) (hpl : (backTo pos (starEach [e2] X.env)).any (·.1) = false := by rfl) :
    PI X (.Tuple elts kk tpos) (.Call (.Name "zip" p) [e, e2] [] pos) (iZipS X.K ta) := by
  refine ⟨fun pins s σ H R I h => ?_⟩
  refine Call_ (ld_blt I hg hm PyProof.Rows.boot_zip (PyProof.Rows.callWith_type1 (thn (ha.run pos pins s σ H _ I h) fun us s1 ⟨vs, H1, I1, r1, q1⟩ => ?_) hs hpl))
  obtain ⟨z, b, ys, ex, hqy, q⟩ := q1
  subst ex
  cases r1 with
  | cons r rr =>
    cases rr with
    | cons r' rr =>
      cases rr
      cases r'
      obtain ⟨t, rfl⟩ := r
      obtain ⟨its2, rv2, p2, _⟩ := I1.list hqy
      have lb : b < s1.heap.objs.size := p2.lt
      refine zip_begins2 (begins_text z t) (begins_list b its2.toArray) trivial p2.isList fun h' hz hTI hTO h1 h2 hsz hk => wpAny_pyIter_zip hz ?_
      have I2 : Inv X pins σ H1 { s1 with heap := h' } := I1.kept (t' := s1.toks) hk
      have S : ZipSep2 (s1.heap.objs.size + 4) (s1.heap.objs.size + 2) (s1.heap.objs.size + 3) s1.heap.objs.size (s1.heap.objs.size + 1) [s1.heap.objs.size] [s1.heap.objs.size + 1, b] := zip_sep2 (fun _ h => nomatch h) (fun c h => by cases List.mem_singleton.mp h; exact lb)
      refine ⟨s1.heap.objs.size + 4, [s1.heap.objs.size + 4, s1.heap.objs.size + 2, s1.heap.objs.size + 3, s1.heap.objs.size, s1.heap.objs.size + 1], _, _, H1, rfl, I2, turn_zipS (z := z) (t := t) (b := b) S, ⟨hz, hTI, ⟨_, _, hTO⟩, ⟨_, h1, rfl, rfl⟩, ⟨_, h2, rfl, rfl⟩⟩, fun c hcm => ?_, q⟩
      have e' : c = s1.heap.objs.size + 4 ∨ c = s1.heap.objs.size + 2 ∨ c = s1.heap.objs.size + 3 ∨ c = s1.heap.objs.size ∨ c = s1.heap.objs.size + 1 := by simpa using hcm
      have hle : s1.heap.objs.size ≤ c := by
        rcases e' with z | z | z | z | z
        · rw [z]; exact Nat.le_add_right _ _
        · rw [z]; exact Nat.le_add_right _ _
        · rw [z]; exact Nat.le_add_right _ _
        · rw [z]; exact Nat.le_refl _
        · rw [z]; exact Nat.le_add_right _ _
      exact I1.fpOk hle (I1.hok.fresh hle)
end SJ
/-! dict(zip(a text, a list)). -/
namespace SJ
open PySem PySem.Spec PyProof.Rows L2 Evl
section
variable {prog : Program} {w : World} {A : Around} {E : Value → Shared → Prop} {s : Shared} {z TI TO T i1 i2 : Addr} {fp1 fp2 : List Addr} {n1 n2 i : Nat} {P1 P2 : Nat → Value → Prop} {St1 St2 : Nat → Heap → Prop} {f : Bool} {oT : Obj}
/-- the next pair, while the one given out before is still there -/
theorem zipH_item {Q : Value → Shared → Prop} (S : ZipSep2 z TI TO i1 i2 fp1 fp2) (D1 : Draws prog w A i1 fp1 n1 P1 St1) (D2 : Draws prog w A i2 fp2 n2 P2 St2)
    (hz : IsZipHeld s.heap z TI TO T f) (hT : s.heap.get? T = some oT) (hTI : IsTupOf2 s.heap TI (.ref i1) (.ref i2)) (st1 : St1 i s.heap) (st2 : St2 i s.heap) (hlt1 : i < n1) (hlt2 : i < n2)
    (hQ : ∀ x1 x2 h' tk, P1 i x1 → P2 i x2 → IsZipHeld h' z TI TO T true → St1 (i + 1) h' → St2 (i + 1) h' → IsTupOf2 h' s.heap.objs.size x1 x2 → h'.objs.size = s.heap.objs.size + 1 →
      (∀ c o, c ≠ z → c ≠ i1 → c ≠ i2 → s.heap.get? c = some o → h'.get? c = some o) → Q (.ref s.heap.objs.size) { s with heap := h', toks := tk }) :
    wpAny (model prog w) A (Builtin.«zip.__next__» ⟨[.ref z], []⟩) (fun fin s' => ∃ v, fin = .done (.ret v) ∧ Q v s') E s := by
  show wpAny _ _ (field (.ref z) 2 >>= _) _ _ _
  refine wpAny_bind (wpAny_field hz rfl (x := .bool false) rfl ?_)
  show wpAny _ _ (field (.ref z) 3 >>= _) _ _ _
  refine wpAny_bind (wpAny_field hz rfl (x := .ref TI) rfl ?_)
  refine wpAny_bind (wpAny_seqItems hTI rfl ?_)
  show wpAny _ _ (Builtin.SmallTypes.ownedTupleIsFree (.ref z) >>= _) _ _ _
  refine wpAny_bind (wpAny_tupleHeld_zip hz hT fun g1 hz1 hs1 => ?_)
  simp only [Bool.false_eq_true, if_false]
  refine wpAny_bind ?_
  rw [← Array.forIn_toList]
  simp only [List.forIn_cons, List.forIn_nil]
  refine wpAny_bind (wpAny_bind (wpAny_holding ?_))
  show wpAny _ _ (Builtin.SmallTypes.nextOf (.ref i1) >>= _) _ _ _
  refine wpAny_bind (D1.item i { s with heap := g1 } _ _ hlt1 (D1.over st1 hs1 S.zf1) fun x1 g2 tk1 hx1 sn1 hs2 => wpAny_pure ?_)
  replace hs2 : Heap.SameBut i1 g1 g2 := hs2
  refine wpAny_pure ?_
  refine wpAny_bind (wpAny_bind (wpAny_holding ?_))
  show wpAny _ _ (Builtin.SmallTypes.nextOf (.ref i2) >>= _) _ _ _
  refine wpAny_bind (D2.item i { s with heap := g2, toks := tk1 } _ _ hlt2 (D2.over (D2.over st2 hs1 S.zf2) hs2 S.sep1_2) fun x2 g3 tk2 hx2 sn2 hs3 => wpAny_pure ?_)
  replace hs3 : Heap.SameBut i2 g2 g3 := hs3
  refine wpAny_pure (wpAny_pure ?_)
  show wpAny _ _ (newTuple [x1, x2] >>= _) _ _ _
  refine wpAny_bind (wpAny_newTuple ?_)
  have hsz : g3.objs.size = s.heap.objs.size := by rw [hs3.1, hs2.1, hs1.1]
  have hz3 : IsZipHeld g3 z TI TO T true := hs3.extBut _ _ S.zi2 (hs2.extBut _ _ S.zi1 hz1)
  have hk : ∀ c o, c ≠ z → c ≠ i1 → c ≠ i2 → s.heap.get? c = some o → g3.get? c = some o := fun c o c1 c2 c3 e => hs3.extBut _ _ c3 (hs2.extBut _ _ c2 (hs1.extBut _ _ c1 e))
  have q1 : St1 (i + 1) g3 := D1.over sn1 hs3 S.sep2_1
  refine wpAny_pure ⟨_, rfl, ?_⟩
  show Q (.ref g3.objs.size) _
  have hp : IsTupOf2 (g3.push { cls := .type "tuple", data := .seq #[x1, x2] }) g3.objs.size x1 x2 := Heap.get?_push_size _ rfl
  have hz4 : (g3.push { cls := .type "tuple", data := .seq #[x1, x2] }).objs.size = g3.objs.size + 1 := Heap.size_push ..
  rw [hsz] at hp hz4 ⊢
  exact hQ x1 x2 _ tk2 hx1 hx2 (Heap.get?_push_of_some _ hz3) (D1.frame _ _ _ q1 fun b hb o e => Heap.get?_push_of_some _ e) (D2.frame _ _ _ sn2 fun b hb o e => Heap.get?_push_of_some _ e) hp hz4 fun c o c1 c2 c3 e => Heap.get?_push_of_some _ (hk c o c1 c2 c3 e)
theorem zipH_end {Q : Fin → Shared → Prop} (S : ZipSep2 z TI TO i1 i2 fp1 fp2) (D1 : Draws prog w A i1 fp1 n1 P1 St1) (D2 : Draws prog w A i2 fp2 n2 P2 St2)
    (hz : IsZipHeld s.heap z TI TO T f) (hT : s.heap.get? T = some oT) (hTI : IsTupOf2 s.heap TI (.ref i1) (.ref i2)) (st1 : St1 i s.heap) (st2 : St2 i s.heap) (hle1 : i ≤ n1) (hle2 : i ≤ n2) (hend : i = n1 ∨ i = n2)
    (hE : ∀ h' tk e, (∀ c o, c ≠ z → c ≠ i1 → c ≠ i2 → s.heap.get? c = some o → h'.get? c = some o) → (∃ o, h'.get? e = some o ∧ o.cls = .type "StopIteration") → E (.ref e) { s with heap := h', toks := tk }) :
    wpAny (model prog w) A (Builtin.«zip.__next__» ⟨[.ref z], []⟩) Q E s := by
  show wpAny _ _ (field (.ref z) 2 >>= _) _ _ _
  refine wpAny_bind (wpAny_field hz rfl (x := .bool false) rfl ?_)
  show wpAny _ _ (field (.ref z) 3 >>= _) _ _ _
  refine wpAny_bind (wpAny_field hz rfl (x := .ref TI) rfl ?_)
  refine wpAny_bind (wpAny_seqItems hTI rfl ?_)
  show wpAny _ _ (Builtin.SmallTypes.ownedTupleIsFree (.ref z) >>= _) _ _ _
  refine wpAny_bind (wpAny_tupleHeld_zip hz hT fun g1 hz1 hs1 => ?_)
  simp only [Bool.false_eq_true, if_false]
  refine wpAny_bind ?_
  rw [← Array.forIn_toList]
  simp only [List.forIn_cons, List.forIn_nil]
  refine wpAny_bind (wpAny_bind (wpAny_holding ?_))
  show wpAny _ _ (Builtin.SmallTypes.nextOf (.ref i1) >>= _) _ _ _
  by_cases hlt1 : i < n1
  · refine wpAny_bind (D1.item i { s with heap := g1 } _ _ hlt1 (D1.over st1 hs1 S.zf1) fun x1 g2 tk1 hx1 sn1 hs2 => wpAny_pure ?_)
    replace hs2 : Heap.SameBut i1 g1 g2 := hs2
    refine wpAny_pure ?_
    have e2 : i = n2 := by omega
    refine wpAny_bind (wpAny_bind (wpAny_holding ?_))
    show wpAny _ _ (Builtin.SmallTypes.nextOf (.ref i2) >>= _) _ _ _
    refine wpAny_bind (D2.done { s with heap := g2, toks := tk1 } _ _ (by rw [← e2]; exact D2.over (D2.over st2 hs1 S.zf2) hs2 S.sep1_2) fun q e hq he => ?_)
    replace hq : Heap.ExtBut i2 g2 q := hq
    exact hE q tk1 e (fun c o c1 c2 c3 x => hq _ _ c3 (hs2.extBut _ _ c2 (hs1.extBut _ _ c1 x))) he
  · have e1 : i = n1 := by omega
    refine wpAny_bind (D1.done { s with heap := g1 } _ _ (by rw [← e1]; exact D1.over st1 hs1 S.zf1) fun q e hq he => ?_)
    replace hq : Heap.ExtBut i1 g1 q := hq
    exact hE q s.toks e (fun c o c1 c2 c3 x => hq _ _ c2 (hs1.extBut _ _ c1 x)) he
theorem nextH_item {Q : Option Value → Shared → Prop} (S : ZipSep2 z TI TO i1 i2 fp1 fp2) (D1 : Draws prog w A.in1 i1 fp1 n1 P1 St1) (D2 : Draws prog w A.in1 i2 fp2 n2 P2 St2)
    (hz : IsZipHeld s.heap z TI TO T f) (hT : s.heap.get? T = some oT) (hTI : IsTupOf2 s.heap TI (.ref i1) (.ref i2)) (st1 : St1 i s.heap) (st2 : St2 i s.heap) (hlt1 : i < n1) (hlt2 : i < n2)
    (hQ : ∀ x1 x2 h' tk, P1 i x1 → P2 i x2 → IsZipHeld h' z TI TO T true → St1 (i + 1) h' → St2 (i + 1) h' → IsTupOf2 h' s.heap.objs.size x1 x2 → h'.objs.size = s.heap.objs.size + 1 →
      (∀ c o, c ≠ z → c ≠ i1 → c ≠ i2 → s.heap.get? c = some o → h'.get? c = some o) → Q (some (.ref s.heap.objs.size)) { s with heap := h', toks := tk }) :
    wpAny (model prog w) A (pyNext (.ref z)) Q E s := by
  have hTy : s.TypeIs (.ref z) "zip" := ⟨_, hz, rfl⟩
  unfold pyNext
  exact wpAny_bind (wpAny_attempt (wpAny_callSpecial?_slot (name := Str.ofString "__next__") hTy F.slot_zip_next
    (wpAny_call_entry F.slot_zip_next hTy F.entry_zip_next
      (zipH_item S D1 D2 hz hT hTI st1 st2 hlt1 hlt2 fun x1 x2 h' tk y1 y2 b1 d1 d2 b5 b6 b7 => wpAny_pure (hQ x1 x2 h' tk y1 y2 b1 d1 d2 b5 b6 b7)) (F.args_zip_next_1 _))))
theorem nextH_end {Q : Option Value → Shared → Prop} (S : ZipSep2 z TI TO i1 i2 fp1 fp2) (D1 : Draws prog w A.in1 i1 fp1 n1 P1 St1) (D2 : Draws prog w A.in1 i2 fp2 n2 P2 St2)
    (hz : IsZipHeld s.heap z TI TO T f) (hT : s.heap.get? T = some oT) (hTI : IsTupOf2 s.heap TI (.ref i1) (.ref i2)) (st1 : St1 i s.heap) (st2 : St2 i s.heap) (hle1 : i ≤ n1) (hle2 : i ≤ n2) (hend : i = n1 ∨ i = n2)
    (hQ : ∀ h' tk, (∀ c o, c ≠ z → c ≠ i1 → c ≠ i2 → s.heap.get? c = some o → h'.get? c = some o) → Q none { s with heap := h', toks := tk }) : wpAny (model prog w) A (pyNext (.ref z)) Q E s := by
  have hTy : s.TypeIs (.ref z) "zip" := ⟨_, hz, rfl⟩
  unfold pyNext
  refine wpAny_bind (wpAny_attempt (wpAny_callSpecial?_slot (name := Str.ofString "__next__") hTy F.slot_zip_next
    (wpAny_call_entry F.slot_zip_next hTy F.entry_zip_next (zipH_end S D1 D2 hz hT hTI st1 st2 hle1 hle2 hend fun h' tk e hk he => ?_) (F.args_zip_next_1 _))))
  obtain ⟨o, ho, hc⟩ := he
  refine wpAny_bind (wpAny_isInstance (T := "StopIteration") (b := true) ⟨o, ho, hc⟩ isSubtype_stop ?_)
  exact wpAny_pure (hQ _ _ hk)
end
theorem pairArg_zipS {prog : Program} {w : World} {Z TI TO i1 i2 b : Addr} {x : Str} {t : Tok} {ys : Array Value} (S : ZipSep2 Z TI TO i1 i2 [i1] [i2, b]) (nb : b ≠ i2) (bz : b ≠ Z) (bTO : b ≠ TO) (bi1 : b ≠ i1) :
    PairArg prog w "zip" Z [Z, TI, TO, i1, i2, b] [Z, TO, i1, i2] (min x.cps.size ys.size) (fun i k v => (∃ c u, x.cps[i]? = some c ∧ k = .str ⟨#[c]⟩ u) ∧ ys[i]? = some v)
      (fun h => ZsAt h Z TI TO i1 i2 b x t 0 ∧ h.IsList b ys) where
  type := fun s ok => ⟨_, ok.1.1, rfl⟩
  notDict := by decide
  keep := fun h h' ok hk => by
    obtain ⟨⟨hz, hTI, ⟨p, q, hTO⟩, ⟨o1, e1, r1⟩, h2⟩, hl⟩ := ok
    exact ⟨⟨hk _ _ hz, hk _ _ hTI, ⟨p, q, hk _ _ hTO⟩, ⟨o1, hk _ _ e1, r1⟩, h2.at fun o e => hk _ o e⟩, hl.at fun o e => hk _ o e⟩
  there := fun h ok c hc => by
    obtain ⟨⟨hz, hTI, ⟨p, q, hTO⟩, ⟨o1, h1, _⟩, ⟨o2, h2, _⟩⟩, ⟨o3, hl, _⟩⟩ := ok
    simp only [List.mem_cons, List.not_mem_nil, or_false] at hc
    rcases hc with rfl | rfl | rfl | rfl | rfl | rfl
    all_goals first | exact ⟨_, hz⟩ | exact ⟨_, hTI⟩ | exact ⟨_, hTO⟩ | exact ⟨_, h1⟩ | exact ⟨_, h2⟩ | exact ⟨_, hl⟩
  sub := fun c hc => by simp at hc ⊢; rcases hc with rfl | rfl | rfl | rfl <;> simp
  noKeys := fun A s Q E hA ok h => getAttrOr_miss_zip ok.1.1 rfl rfl rfl zip_no_keys (by decide +kernel) hA h
  iter := fun A s d Q E hA ok hd hdf h => by
    obtain ⟨⟨hz, hTI, ⟨p, q, hTO⟩, h1, h2⟩, hl⟩ := ok
    simp only [List.mem_cons, List.not_mem_nil, or_false, not_or] at hdf
    obtain ⟨dz, dTI, dTO, di1, di2, db⟩ := hdf
    have D1 : Draws prog w A.in1 i1 [i1] x.cps.size _ _ := Draws.text (A := A.in1) hA i1 x t
    have D2 : Draws prog w A.in1 i2 [i2, b] ys.size _ _ := Draws.list (A := A.in1) hA i2 b nb ys
    refine wpAny_pyIter_zip hz (h Z [Z, TO, i1, i2] (fun i h => IsTupOf2 h TI (.ref i1) (.ref i2) ∧ h.IsStrIter i1 (strIterType x) x t i ∧ h.IsListIter i2 b i ∧ h.IsList b ys ∧
      ((IsZip h Z TI TO .none ∧ ∃ p q, IsTupOf2 h TO p q) ∨ ∃ T f oT, IsZipHeld h Z TI TO T f ∧ h.get? T = some oT ∧ T ≠ Z ∧ T ≠ i1 ∧ T ≠ i2 ∧ T ≠ d)) s.heap s.toks ?_
      ⟨hTI, h1, h2, hl, .inl ⟨hz, p, q, hTO⟩⟩ (fun _ _ e => e) fun c hc => .inl hc)
    exact {
      off := fun hm => by
        simp only [List.mem_cons, List.not_mem_nil, or_false] at hm
        rcases hm with e | e | e | e
        · exact dz e
        · exact dTO e
        · exact di1 e
        · exact di2 e
      frame := fun i h₁ h₂ st hk => by
        obtain ⟨hTI, ⟨o1, e1, r1⟩, h2, hl, hz⟩ := st
        refine ⟨hk _ _ (Ne.symm dTI) hTI, ⟨o1, hk _ _ (Ne.symm di1) e1, r1⟩, h2.at fun o e => hk _ o (Ne.symm di2) e, hl.at fun o e => hk _ o (Ne.symm db) e, ?_⟩
        rcases hz with ⟨hz, p, q, hTO⟩ | ⟨T, f, oT, hz, hT, r1, r2, r3, r4⟩
        · exact .inl ⟨hk _ _ (Ne.symm dz) hz, p, q, hk _ _ (Ne.symm dTO) hTO⟩
        · exact .inr ⟨T, f, oT, hk _ _ (Ne.symm dz) hz, hk _ _ r4 hT, r1, r2, r3, r4⟩
      item := fun i s₁ Q₁ E₁ hi st hds hQ => by
        obtain ⟨hTI, h1, h2, hl, hz⟩ := st
        have lt1 : i < x.cps.size := Nat.lt_of_lt_of_le hi (Nat.min_le_left ..)
        have lt2 : i < ys.size := Nat.lt_of_lt_of_le hi (Nat.min_le_right ..)
        have lt : ∀ {c o}, s₁.heap.get? c = some o → s₁.heap.objs.size ≠ c := fun e => Nat.ne_of_gt (Heap.lt_size e)
        have m1 : s₁.heap.objs.size ≠ i1 := let ⟨_, e, _⟩ := h1; lt e
        have m2 : s₁.heap.objs.size ≠ i2 := let ⟨_, e, _⟩ := h2; lt e
        rcases hz with ⟨hz, p, q, hTO⟩ | ⟨T, f, oT, hz, hT, r1, r2, r3, r4⟩
        · refine wpAny_pyNext_zipD2_item S D1 D2 hz hTI hTO h1 ⟨h2, hl⟩ lt1 lt2 fun v1 v2 h' tk y1 y2 a1 a2 a3 a4 a5 a6 hk => ?_
          exact hQ s₁.heap.objs.size v1 v2 h' tk ⟨y1, y2⟩ (.inl ⟨_, a5, rfl, _, rfl⟩)
            ⟨hk _ _ S.TIz S.TITO S.TIi1 S.TIi2 hTI, a3, a4.1, a4.2, .inr ⟨s₁.heap.objs.size, false, _, a1, a5, lt hz, m1, m2, Nat.ne_of_gt hds⟩⟩
            fun c o hc e => hk c o (fun x => hc (by simp [x])) (fun x => hc (by simp [x])) (fun x => hc (by simp [x])) (fun x => hc (by simp [x])) e
        · refine nextH_item S D1 D2 hz hT hTI h1 ⟨h2, hl⟩ lt1 lt2 fun v1 v2 h' tk y1 y2 a1 a3 a4 a5 a6 hk => ?_
          exact hQ s₁.heap.objs.size v1 v2 h' tk ⟨y1, y2⟩ (.inl ⟨_, a5, rfl, _, rfl⟩)
            ⟨hk _ _ S.TIz S.TIi1 S.TIi2 hTI, a3, a4.1, a4.2, .inr ⟨T, true, oT, a1, hk _ _ r1 r2 r3 hT, r1, r2, r3, r4⟩⟩
            fun c o hc e => hk c o (fun x => hc (by simp [x])) (fun x => hc (by simp [x])) (fun x => hc (by simp [x])) e
      done := fun s₁ Q₁ E₁ st hQ => by
        obtain ⟨hTI, h1, h2, hl, hz⟩ := st
        have hend : min x.cps.size ys.size = x.cps.size ∨ min x.cps.size ys.size = ys.size := by omega
        rcases hz with ⟨hz, p, q, hTO⟩ | ⟨T, f, oT, hz, hT, r1, r2, r3, r4⟩
        · exact wpAny_pyNext_zipD2_end S D1 D2 hz hTI hTO h1 ⟨h2, hl⟩ (by omega) (by omega) hend fun h' tk hk => hQ h' tk fun c o hc e => hk c o (fun x => hc (by simp [x])) (fun x => hc (by simp [x])) (fun x => hc (by simp [x])) (fun x => hc (by simp [x])) e
        · exact nextH_end S D1 D2 hz hT hTI h1 ⟨h2, hl⟩ (by omega) (by omega) hend fun h' tk hk => hQ h' tk fun c o hc e => hk c o (fun x => hc (by simp [x])) (fun x => hc (by simp [x])) (fun x => hc (by simp [x])) e }
/-- the pairs of a text's signs and a list's items -/
def zipKV (z : Str) (ys : List V) : List (Key × V) := (z.cps.toList.zip ys).map fun q => (.inr ⟨#[q.1]⟩, q.2)
def tDictZ (K : PySem.W.Frag) (ta : TA) : TE := fun σ H Q => ta σ H fun vs H1 => ∃ (z : Str) (b : Addr) (ys : List V), vs = [.str z, .ref b] ∧ SqL K H1 b ys ∧ ∀ p, H1 p = none → Q (.ref p) (upd H1 p (.dK (mergeK [] (zipKV z ys))))
theorem kv_zip : ∀ (cs : List Nat) {ys : List V} {its : List Value}, Vals ys its → KV ((cs.zip ys).map fun q => ((Sum.inr ⟨#[q.1]⟩ : Key), q.2)) ((cs.zip its).map fun q => ((Sum.inr ⟨#[q.1]⟩ : Key), q.2))
  | [], _, _, _ => .nil
  | _ :: _, _, _, .nil => .nil
  | c :: cs, _, _, .cons r rr => .cons ⟨rfl, r⟩ (kv_zip cs rr)
theorem pe_dictZ {X : Cx} {e e2 : Expr} {ta : TA} {p pz ps pos : Pos} (hcalm : X.calm = true) (hgD : Gl X "dict") (hmD : X.mg "dict" = none) (hg : Gl X "zip") (hm : X.mg "zip" = none) (ha : PA X [e, e2] ta)
    (hs : starEach [e, e2] X.env = (false, eval e X.env) :: starEach [e2] X.env := by rfl) (hpl : (backTo ps (starEach [e2] X.env)).any (·.1) = false := by rfl)
    (hs2 : starEach [.Call (.Name "zip" pz) [e, e2] [] ps] X.env = (false, eval (.Call (.Name "zip" pz) [e, e2] [] ps) X.env) :: starEach [] X.env := by rfl) :
    PE X (.Call (.Name "dict" p) [.Call (.Name "zip" pz) [e, e2] [] ps] [] pos) (tDictZ X.K ta) := by
  refine ⟨fun pins s σ H Q I h => ?_⟩
  refine Call_ (ld_blt I hgD hmD PyProof.Rows.boot_dict (PyProof.Rows.callWith_type1 (args_cons (Call_ (ld_blt I hg hm PyProof.Rows.boot_zip (PyProof.Rows.callWith_type1 (thn (ha.run ps pins s σ H _ I h) fun us s1 ⟨vs, H1, I1, r1, q1⟩ => ?_) hs hpl))) hs2) hs2 rfl))
  obtain ⟨z, b, ys, ex, hqy, q⟩ := q1
  subst ex
  cases r1 with
  | cons r rr =>
    cases rr with
    | cons r' rr =>
      cases rr
      cases r'
      obtain ⟨t, rfl⟩ := r
      obtain ⟨its2, rv2, p2, hz2⟩ := I1.list hqy
      have lb : b < s1.heap.objs.size := p2.lt
      refine zip_begins2 (begins_text z t) (begins_list b its2.toArray) trivial p2.isList fun h' hz hTI hTO h1 h2 hsz hk => args_nil ?_
      have I2 : Inv X pins σ H1 { s1 with heap := h' } := I1.kept (t' := s1.toks) hk
      have S : ZipSep2 (s1.heap.objs.size + 4) (s1.heap.objs.size + 2) (s1.heap.objs.size + 3) s1.heap.objs.size (s1.heap.objs.size + 1) [s1.heap.objs.size] [s1.heap.objs.size + 1, b] := zip_sep2 (fun _ h => nomatch h) (fun c h => by cases List.mem_singleton.mp h; exact lb)
      have nb : ∀ j, b ≠ s1.heap.objs.size + j := fun j => Nat.ne_of_lt (Nat.lt_of_lt_of_le lb (Nat.le_add_right _ _))
      have l2 := rv2.length
      refine call_dict_pairs (s := { s1 with heap := h' }) (knd := mixKind X.prog X.w) (kvs := (z.cps.toList.zip its2).map fun q => (.inr ⟨#[q.1]⟩, q.2)) (pairArg_zipS (x := z) (t := t) (ys := its2.toArray) S (nb 1) (nb 4) (nb 3) (nb 0)) (I2.ok.hd hcalm)
        ⟨⟨hz, hTI, ⟨_, _, hTO⟩, ⟨_, h1, rfl, rfl⟩, ⟨_, h2, rfl, rfl⟩⟩, p2.isList.at fun o e => hk _ o e⟩ ⟨?_, fun i k v hr => ?_⟩ ?_ fun h2 tk hd2 hk2 => ?_
      · rw [List.length_map, List.length_zip]
        simp
      · obtain ⟨⟨c, u, hc, rfl⟩, hv⟩ := hr
        refine ⟨.inr ⟨#[c]⟩, ?_, mixKind_str _ _ _ _⟩
        have hc' : z.cps.toList[i]? = some c := by simpa using hc
        have hv' : its2[i]? = some v := by simpa using hv
        rw [List.getElem?_map, (List.getElem?_zip_eq_some (z := (c, v))).mpr ⟨hc', hv'⟩]
        rfl
      · have : its2.toArray.size = its2.length := by simp
        rw [this]
        omega
      · have keep : ∀ c o, s1.heap.get? c = some o → h2.get? c = some o := fun c o e => by
          have lc : c < s1.heap.objs.size := Heap.lt_size e
          refine hk2 c o (fun hm => ?_) (hk c o e)
          simp only [List.mem_cons, List.not_mem_nil, or_false] at hm
          rcases hm with e' | e' | e' | e'
          · exact absurd e' (Nat.ne_of_lt (Nat.lt_of_lt_of_le lc (Nat.le_add_right _ _)))
          · exact absurd e' (Nat.ne_of_lt (Nat.lt_of_lt_of_le lc (Nat.le_add_right _ _)))
          · exact absurd e' (Nat.ne_of_lt lc)
          · exact absurd e' (Nat.ne_of_lt (Nat.lt_of_lt_of_le lc (Nat.le_add_right _ _)))
        have big : s1.heap.objs.size ≤ h'.objs.size := by rw [hsz]; exact Nat.le_add_right _ _
        have hm : (h'.objs.size == sysModules) = false := beq_eq_false_iff_ne.mpr (Nat.ne_of_gt (Nat.lt_of_lt_of_le I1.big big))
        have hlen : (mergeK [] (zipKV z ys)).length ≤ sizeLine := by
          refine Nat.le_trans (length_mergeK _ []) ?_
          unfold zipKV
          rw [List.length_nil, Nat.zero_add, List.length_map, List.length_zip]
          omega
        exact ⟨.ref h'.objs.size, upd H1 h'.objs.size (.dK (mergeK [] (zipKV z ys))), I1.laid (t' := tk) keep big (show ObjOk X.prog X.w _ _ _ (.dK (mergeK [] (zipKV z ys))) from ⟨hlen, hm, _, KV.merge (kv_zip z.cps.toList rv2) .nil, hd2⟩), rfl, q _ (I1.hok.fresh big)⟩
end SJ
/-! Numbers that may be none; names looked up. -/
namespace SJ
open PySem PySem.Spec PyProof.Rows L2 Evl
def sp_lesser (_ : PySem.W.Frag) : Sp := PureSp fun vs _ z => ∃ i j : Int, vs = [.int i, .int j] ∧ z = .int (mLess i j)
theorem sc_lesser : FnScope ["one", "other"] ["one", "other"] (defScope s_lesser) := ⟨rfl, rfl, rfl, by decide +kernel, rfl, by decide +kernel, by decide +kernel⟩
theorem ok_lesser {P : Program} {w : World} {K : PySem.W.Frag} {mg : Str → Option Value} {base : Heap} (T : Txt w K mg) : OkD P w K mg base CX0 1 (He.ga K "lesser") ["one", "other"] (sp_lesser K) := by
  obtain ⟨fd, F⟩ := T.f_lesser
  refine ⟨fd, F.ok sc_lesser (fun vs H Q E h => ?_) (fun cdv A outer s H vs Q E hr h => ?_), F.bindsN fun _ _ _ _ _ _ us hl => match us, hl with | [_, _], _ => rfl, F.kp⟩
  · obtain ⟨z, G, eG, ⟨i, j, rfl, rfl⟩, k⟩ := h
    rfl
  · refine ⟨_, PSs.nox (pss_cons (ps_if (pt_cmpR op_eq (pv 0) (pe_gint T.i_NONE) (nomark _)) (pss_one (ps_ret (pv 1))) pss_nil) (pss_cons (ps_if (pt_cmpR op_eq (pv 1) (pe_gint T.i_NONE) (nomark _)) (pss_one (ps_ret (pv 0))) pss_nil) (pss_one (ps_ret (pe_callB (call_min2 rfl) (by rfl) T.b_min (by decide +kernel) (pa_cons (pv 0) (pa_cons (pv 1) pa_nil))))))), ?_⟩
    obtain ⟨z, G, eG, ⟨i, j, rfl, rfl⟩, k⟩ := h
    refine q_when (et_test (ev_eqI (ev_var rfl) ev_c)) (fun h1 H1 e1 => ?_) (fun h1 H1 e1 => ?_)
    · refine s_ret (ev_var rfl) fun H2 e2 => int_eq (k _ (e1.trans e2)) ?_
      exact (if_pos (of_decide_eq_true h1)).symm
    · refine q_when (et_test (ev_eqI (ev_var rfl) ev_c)) (fun h2 H2 e2 => ?_) (fun h2 H2 e2 => ?_)
      · refine s_ret (ev_var rfl) fun H3 e3 => int_eq (k _ ((e1.trans e2).trans e3)) ?_
        unfold mLess
        rw [if_neg (of_decide_eq_false h1), if_pos (of_decide_eq_true h2)]
      · refine s_ret (ev_cb (ea_cons (ev_var rfl) (ea_cons (ev_var rfl) ea_nil)) (z := .int (if j < i then j else i)) fun H3 e3 Q q => ⟨i, j, rfl, q H3 (Ex.refl H3)⟩) fun H3 e3 => int_eq (k _ ((e1.trans e2).trans e3)) ?_
        unfold mLess
        rw [if_neg (of_decide_eq_false h1), if_neg (of_decide_eq_false h2)]
def sp_greater (_ : PySem.W.Frag) : Sp := PureSp fun vs _ z => ∃ i j : Int, vs = [.int i, .int j] ∧ z = .int (mGreat i j)
theorem sc_greater : FnScope ["one", "other"] ["one", "other"] (defScope s_greater) := ⟨rfl, rfl, rfl, by decide +kernel, rfl, by decide +kernel, by decide +kernel⟩
theorem ok_greater {P : Program} {w : World} {K : PySem.W.Frag} {mg : Str → Option Value} {base : Heap} (T : Txt w K mg) : OkD P w K mg base CX0 1 (He.ga K "greater") ["one", "other"] (sp_greater K) := by
  obtain ⟨fd, F⟩ := T.f_greater
  refine ⟨fd, F.ok sc_greater (fun vs H Q E h => ?_) (fun cdv A outer s H vs Q E hr h => ?_), F.bindsN fun _ _ _ _ _ _ us hl => match us, hl with | [_, _], _ => rfl, F.kp⟩
  · obtain ⟨z, G, eG, ⟨i, j, rfl, rfl⟩, k⟩ := h
    rfl
  · refine ⟨_, PSs.nox (pss_cons (ps_if (PW.pt (pw_or (pt_cmpR op_eq (pv 0) (pe_gint T.i_NONE) (nomark _)) (pw_or1 (pt_cmpR op_eq (pv 1) (pe_gint T.i_NONE) (nomark _))))) (pss_one (ps_ret (pe_gint T.i_NONE))) pss_nil) (pss_one (ps_ret (pe_callB (call_max2 rfl) (by rfl) T.b_max (by decide +kernel) (pa_cons (pv 0) (pa_cons (pv 1) pa_nil)))))), ?_⟩
    obtain ⟨z, G, eG, ⟨i, j, rfl, rfl⟩, k⟩ := h
    refine q_when (et_or (et_test (ev_eqI (ev_var rfl) ev_c)) fun _ => et_test (ev_eqI (ev_var rfl) ev_c)) (fun h1 H1 e1 => ?_) (fun h1 H1 e1 => ?_)
    · refine s_ret ev_c fun H2 e2 => int_eq (k _ (e1.trans e2)) ?_
      unfold mGreat
      rw [if_pos (by simpa using h1)]
    · refine s_ret (ev_cb (ea_cons (ev_var rfl) (ea_cons (ev_var rfl) ea_nil)) (z := .int (if j > i then j else i)) fun H3 e3 Q q => ⟨i, j, rfl, q H3 (Ex.refl H3)⟩) fun H3 e3 => int_eq (k _ (e1.trans e3)) ?_
      show (if j > i then j else i) = mGreat i j
      unfold mGreat
      rw [if_neg (show ¬ (i = -1 ∨ j = -1) by simpa using h1)]
def sp_summed (_ : PySem.W.Frag) : Sp := PureSp fun vs _ z => ∃ i j : Int, vs = [.int i, .int j] ∧ z = .int (mSum i j)
theorem sc_summed : FnScope ["one", "other"] ["one", "other"] (defScope s_summed) := ⟨rfl, rfl, rfl, by decide +kernel, rfl, by decide +kernel, by decide +kernel⟩
theorem ok_summed {P : Program} {w : World} {K : PySem.W.Frag} {mg : Str → Option Value} {base : Heap} (T : Txt w K mg) : OkD P w K mg base CX0 1 (He.ga K "summed") ["one", "other"] (sp_summed K) := by
  obtain ⟨fd, F⟩ := T.f_summed
  refine ⟨fd, F.ok sc_summed (fun vs H Q E h => ?_) (fun cdv A outer s H vs Q E hr h => ?_), F.bindsN fun _ _ _ _ _ _ us hl => match us, hl with | [_, _], _ => rfl, F.kp⟩
  · obtain ⟨z, G, eG, ⟨i, j, rfl, rfl⟩, k⟩ := h
    rfl
  · refine ⟨_, PSs.nox (pss_cons (ps_if (PW.pt (pw_or (pt_cmpR op_eq (pv 0) (pe_gint T.i_NONE) (nomark _)) (pw_or1 (pt_cmpR op_eq (pv 1) (pe_gint T.i_NONE) (nomark _))))) (pss_one (ps_ret (pe_gint T.i_NONE))) pss_nil) (pss_one (ps_ret (pe_op op_add (pv 0) (pv 1))))), ?_⟩
    obtain ⟨z, G, eG, ⟨i, j, rfl, rfl⟩, k⟩ := h
    refine q_when (et_or (et_test (ev_eqI (ev_var rfl) ev_c)) fun _ => et_test (ev_eqI (ev_var rfl) ev_c)) (fun h1 H1 e1 => ?_) (fun h1 H1 e1 => ?_)
    · refine s_ret ev_c fun H2 e2 => int_eq (k _ (e1.trans e2)) ?_
      unfold mSum
      rw [if_pos (by simpa using h1)]
    · refine s_ret (ev_op (ev_var rfl) (ev_var rfl) rv_I0) fun H2 e2 => int_eq (k _ (e1.trans e2)) ?_
      unfold mSum
      rw [if_neg (by simpa using h1)]
/-- the number of the first thing of a name -/
def NamedAt (K : PySem.W.Frag) (H : Hp) (a : Addr) (t : List Nat) : Prop := ∃ C dx fs na, H a = some (.ins C dx fs) ∧ Cls K C ∧ NoAttr K C "name" ∧ fs.lookup ("name" : Str) = some (.ref na) ∧ NameAt H na t
def sp_number_of (K : PySem.W.Frag) : Sp := PureSp fun vs G z => ∃ (l b : Addr) (ts : List (List Nat)) (t : List Nat), vs = [.ref l, .ref b] ∧ ThingsAt (NamedAt K) G l ts ∧ NameAt G b t ∧ z = .int (idxI (fun x => x == t) ts)
theorem idxI_hit {α : Type} {f : α → Bool} {l : List α} {n : Nat} {x : α} (h : l[n]? = some x) (hf : f x = true) (hn : ∀ (m : Nat) (y : α), m < n → l[m]? = some y → f y = false) : idxI f l = n := by
  refine idxI_some ?_
  obtain ⟨h1, h2⟩ := List.getElem?_eq_some_iff.mp h
  refine List.findIdx?_eq_some_iff_getElem.mpr ⟨h1, by rw [h2]; exact hf, fun j hj => ?_⟩
  rw [hn j _ hj (List.getElem?_eq_getElem (Nat.lt_trans hj h1))]
  decide
theorem idxI_miss {α : Type} {f : α → Bool} {l : List α} (hn : ∀ (m : Nat) (y : α), l[m]? = some y → f y = false) : idxI f l = -1 := by
  have e : l.findIdx? f = none := List.findIdx?_eq_none_iff.mpr fun x hx => by
    obtain ⟨m, hm⟩ := List.mem_iff_getElem?.mp hx
    exact hn m x hm
  unfold idxI
  rw [e]
theorem sc_number_of : FnScope ["things", "name", "number", "thing"] ["things", "name"] (defScope s_number_of) := ⟨rfl, rfl, rfl, by decide +kernel, rfl, by decide +kernel, by decide +kernel⟩
theorem ok_number_of {P : Program} {w : World} {K : PySem.W.Frag} {mg : Str → Option Value} {base : Heap} (T : Txt w K mg) : OkD P w K mg base CX0 1 (He.ga K "number_of") ["things", "name"] (sp_number_of K) := by
  obtain ⟨fd, F⟩ := T.f_number_of
  refine ⟨fd, F.ok sc_number_of (fun vs H Q E h => ?_) (fun cdv A outer s H vs Q E hr h => ?_), F.bindsN fun _ _ _ _ _ _ us hl => match us, hl with | [_, _], _ => rfl, F.kp⟩
  · obtain ⟨z, G, eG, ⟨l, b, ts, t, rfl, hl, hb, rfl⟩, k⟩ := h
    rfl
  · refine ⟨_, PSs.nox (pss_cons (ps_for PassesOwn.never rfl (pi_enum rfl T.b_enumerate (pa_cons (pv 0) pa_nil)) (pg_tup rfl (pgs_cons (pg_name (i := 2) sc_number_of.nd rfl (Or.inl rfl)) (pgs_cons (pg_name (i := 3) sc_number_of.nd rfl (Or.inl rfl)) pgs_nil))) (pss_one (ps_if (pt_cmpR (op_eqD hr.units) (pe_fld (pv 3) rfl) (pv 1) (nomark _)) (pss_one (ps_ret (pv 2))) pss_nil))) (pss_one (ps_ret (pe_un un_neg pe_int)))), ?_⟩
    obtain ⟨z, G, eG, ⟨l, b, ts, t, rfl, hl, hb, rfl⟩, k⟩ := h
    obtain ⟨as, hl1, hl2⟩ := hl
    refine q_forE (ea_cons (ev_var rfl) ea_nil) (eG _ _ hl1) (fun n σ => (∃ u v, σ = [some (.ref l), some (.ref b), u, v]) ∧ ∀ m y, m < n → ts[m]? = some y → (y == t) = false) ⟨⟨_, _, rfl⟩, fun m y hm => absurd hm (by omega)⟩ ?_ ?_
    · rintro n y σ' H' e' hy ⟨⟨u, v, rfl⟩, hW⟩
      rw [List.getElem?_map] at hy
      obtain ⟨a, ha, rfl⟩ := Option.map_eq_some_iff.mp hy
      obtain ⟨x, hx⟩ : ∃ x, ts[n]? = some x := ⟨_, List.getElem?_eq_getElem (by rw [← paired_len hl2]; exact (List.getElem?_eq_some_iff.mp ha).1)⟩
      obtain ⟨a', ha', C, dx, fs, na, h1, h2, h3, h4, h5⟩ := paired_at hl2 hx
      rw [ha] at ha'
      cases ha'
      refine s_when (et_test (ev_op (ev_fld (ev_var rfl) (e' _ _ (eG _ _ h1)) h2 h3 h4) (ev_var rfl) (rv_eqName (e' _ _ (eG _ _ h5)) (e' _ _ (eG _ _ hb))))) (fun hc H1 e1 => ?_) (fun hc H1 e1 => ?_)
      · exact s_ret (ev_var rfl) fun H2 e2 => int_eq (k _ ((e'.trans e1).trans e2)) (idxI_hit hx hc hW).symm
      · refine ⟨e'.trans e1, ⟨_, _, rfl⟩, fun m y hm hz => ?_⟩
        by_cases e : m = n
        · rw [e, hx] at hz
          cases hz
          exact hc
        · exact hW m y (by omega) hz
    · rintro σ' H' e' ⟨_, hW⟩
      refine s_ret (ev_un ev_c fun H1 _ _ q => ⟨1, rfl, q H1 (Ex.refl H1)⟩) fun H2 e2 => int_eq (k _ (e'.trans e2)) (idxI_miss fun m y hy => hW m y (by rw [List.length_map, paired_len hl2]; exact (List.getElem?_eq_some_iff.mp hy).1) hy).symm
end SJ
/-! Nets: their parts made, one departure left out, shifted. -/
namespace SJ
open PySem PySem.Spec PyProof.Rows L2 Evl
def sp_Place_init (K : PySem.W.Frag) : Sp := fun vs H Q _ => ∃ (p dx : Addr) (x0 x1 : V), vs = [.ref p, x0, x1] ∧ H p = some (.ins (cPlace K) dx []) ∧ Q .non (upd H p (.ins (cPlace K) dx (FPlace x0 x1)))
theorem sc_Place_init : FnScope ["self", "name", "handling"] ["self", "name", "handling"] (defScope s_Place_init) := ⟨rfl, rfl, rfl, by decide +kernel, rfl, by decide +kernel, by decide +kernel⟩
theorem ok_Place_init {P : Program} {w : World} {K : PySem.W.Frag} {mg : Str → Option Value} {base : Heap} (T : Txt w K mg) : OkD P w K mg base CX0 1 (He.ma K (He.ga K "Place") "__init__") ["self", "name", "handling"] (sp_Place_init K) := by
  obtain ⟨fd, F⟩ := T.f_Place_init
  refine ⟨fd, F.ok sc_Place_init (fun vs H Q E h => ?_) (fun cdv A outer s H vs Q E hr h => ?_), F.bindsN fun _ _ _ _ _ _ us hl => match us, hl with | [_, _, _], _ => rfl, F.kp⟩
  · obtain ⟨p, dx, x0, x1, rfl, hp, k⟩ := h
    rfl
  · refine ⟨_, PSs.nox (pss_cons (ps_fld (pv 0) (pv 1) rfl) (pss_one (ps_fld (pv 0) (pv 2) rfl))), ?_⟩
    obtain ⟨p, dx, x0, x1, rfl, hp, k⟩ := h
    refine ⟨_, rfl, _, rfl, p, _, dx, _, rfl, hp, T.c_Place, T.n_Place_name, (by show 0 < 1000; decide), ?_⟩
    refine ⟨_, rfl, _, rfl, p, _, dx, _, rfl, upd_same, T.c_Place, T.n_Place_handling, (by show 1 < 1000; decide), ?_⟩
    show Q .non (upd (upd H p (.ins (cPlace K) dx (putF "name" x0 []))) p (.ins (cPlace K) dx (putF "handling" x1 (putF "name" x0 []))))
    rw [upd_upd, pPlace_name, pPlace_handling]
    exact k
def sp_Car_init (K : PySem.W.Frag) : Sp := fun vs H Q _ => ∃ (p dx : Addr) (x0 x1 x2 x3 : V), vs = [.ref p, x0, x1, x2, x3] ∧ H p = some (.ins (cCar K) dx []) ∧ Q .non (upd H p (.ins (cCar K) dx (FCar x0 x1 x2 x3)))
theorem sc_Car_init : FnScope ["self", "name", "start", "end", "long"] ["self", "name", "start", "end", "long"] (defScope s_Car_init) := ⟨rfl, rfl, rfl, by decide +kernel, rfl, by decide +kernel, by decide +kernel⟩
theorem ok_Car_init {P : Program} {w : World} {K : PySem.W.Frag} {mg : Str → Option Value} {base : Heap} (T : Txt w K mg) : OkD P w K mg base CX0 1 (He.ma K (He.ga K "Car") "__init__") ["self", "name", "start", "end", "long"] (sp_Car_init K) := by
  obtain ⟨fd, F⟩ := T.f_Car_init
  refine ⟨fd, F.ok sc_Car_init (fun vs H Q E h => ?_) (fun cdv A outer s H vs Q E hr h => ?_), F.bindsN fun _ _ _ _ _ _ us hl => match us, hl with | [_, _, _, _, _], _ => rfl, F.kp⟩
  · obtain ⟨p, dx, x0, x1, x2, x3, rfl, hp, k⟩ := h
    rfl
  · refine ⟨_, PSs.nox (pss_cons (ps_fld (pv 0) (pv 1) rfl) (pss_cons (ps_fld (pv 0) (pv 2) rfl) (pss_cons (ps_fld (pv 0) (pv 3) rfl) (pss_one (ps_fld (pv 0) (pv 4) rfl))))), ?_⟩
    obtain ⟨p, dx, x0, x1, x2, x3, rfl, hp, k⟩ := h
    refine ⟨_, rfl, _, rfl, p, _, dx, _, rfl, hp, T.c_Car, T.n_Car_name, (by show 0 < 1000; decide), ?_⟩
    refine ⟨_, rfl, _, rfl, p, _, dx, _, rfl, upd_same, T.c_Car, T.n_Car_start, (by show 1 < 1000; decide), ?_⟩
    refine ⟨_, rfl, _, rfl, p, _, dx, _, rfl, upd_same, T.c_Car, T.n_Car_end, (by show 2 < 1000; decide), ?_⟩
    refine ⟨_, rfl, _, rfl, p, _, dx, _, rfl, upd_same, T.c_Car, T.n_Car_long, (by show 3 < 1000; decide), ?_⟩
    show Q .non (upd (upd (upd (upd H p _) p _) p _) p (.ins (cCar K) dx (putF "long" x3 (putF "end" x2 (putF "start" x1 (putF "name" x0 []))))))
    rw [upd_upd, upd_upd, upd_upd, pCar_name, pCar_start, pCar_end, pCar_long]
    exact k
def sp_Departure_init (K : PySem.W.Frag) : Sp := fun vs H Q _ => ∃ (p dx : Addr) (x0 x1 x2 x3 x4 : V), vs = [.ref p, x0, x1, x2, x3, x4] ∧ H p = some (.ins (cGo K) dx []) ∧ Q .non (upd H p (.ins (cGo K) dx (FDeparture x0 x1 x2 x3 x4)))
theorem sc_Departure_init : FnScope ["self", "name", "start", "leaves", "end", "comes"] ["self", "name", "start", "leaves", "end", "comes"] (defScope s_Departure_init) := ⟨rfl, rfl, rfl, by decide +kernel, rfl, by decide +kernel, by decide +kernel⟩
theorem ok_Departure_init {P : Program} {w : World} {K : PySem.W.Frag} {mg : Str → Option Value} {base : Heap} (T : Txt w K mg) : OkD P w K mg base CX0 1 (He.ma K (He.ga K "Departure") "__init__") ["self", "name", "start", "leaves", "end", "comes"] (sp_Departure_init K) := by
  obtain ⟨fd, F⟩ := T.f_Departure_init
  refine ⟨fd, F.ok sc_Departure_init (fun vs H Q E h => ?_) (fun cdv A outer s H vs Q E hr h => ?_), F.bindsN fun _ _ _ _ _ _ us hl => match us, hl with | [_, _, _, _, _, _], _ => rfl, F.kp⟩
  · obtain ⟨p, dx, x0, x1, x2, x3, x4, rfl, hp, k⟩ := h
    rfl
  · refine ⟨_, PSs.nox (pss_cons (ps_fld (pv 0) (pv 1) rfl) (pss_cons (ps_fld (pv 0) (pv 2) rfl) (pss_cons (ps_fld (pv 0) (pv 3) rfl) (pss_cons (ps_fld (pv 0) (pv 4) rfl) (pss_one (ps_fld (pv 0) (pv 5) rfl)))))), ?_⟩
    obtain ⟨p, dx, x0, x1, x2, x3, x4, rfl, hp, k⟩ := h
    refine ⟨_, rfl, _, rfl, p, _, dx, _, rfl, hp, T.c_Departure, T.n_Departure_name, (by show 0 < 1000; decide), ?_⟩
    refine ⟨_, rfl, _, rfl, p, _, dx, _, rfl, upd_same, T.c_Departure, T.n_Departure_start, (by show 1 < 1000; decide), ?_⟩
    refine ⟨_, rfl, _, rfl, p, _, dx, _, rfl, upd_same, T.c_Departure, T.n_Departure_leaves, (by show 2 < 1000; decide), ?_⟩
    refine ⟨_, rfl, _, rfl, p, _, dx, _, rfl, upd_same, T.c_Departure, T.n_Departure_end, (by show 3 < 1000; decide), ?_⟩
    refine ⟨_, rfl, _, rfl, p, _, dx, _, rfl, upd_same, T.c_Departure, T.n_Departure_comes, (by show 4 < 1000; decide), ?_⟩
    show Q .non (upd (upd (upd (upd (upd H p _) p _) p _) p _) p (.ins (cGo K) dx (putF "comes" x4 (putF "end" x3 (putF "leaves" x2 (putF "start" x1 (putF "name" x0 [])))))))
    rw [upd_upd, upd_upd, upd_upd, upd_upd, pDeparture_name, pDeparture_start, pDeparture_leaves, pDeparture_end, pDeparture_comes]
    exact k
/-- all that was there but p stands -/
def ExBut (p : Addr) (H H' : Hp) : Prop := ∀ b o, H b = some o → b ≠ p → H' b = some o
/-- three new lists, apart from one another -/
structure New3 (H : Hp) (a b c : Addr) : Prop where
  na : H a = none
  nb : H b = none
  nc : H c = none
  ab : a ≠ b
  ac : a ≠ c
  bc : b ≠ c
def sp_Net_init (K : PySem.W.Frag) : Sp := fun vs H Q _ => ∃ (p dx a b c : Addr) (xs ys zs : List V), vs = [.ref p, .ref a, .ref b, .ref c] ∧ H p = some (.ins (cNet K) dx []) ∧ SqL K H a xs ∧ SqL K H b ys ∧ SqL K H c zs ∧
  ∀ (H' : Hp) (pl cl gl : Addr), ExBut p H H' → New3 H pl cl gl → H' pl = some (.lst xs) → H' cl = some (.lst ys) → H' gl = some (.lst zs) → H' p = some (.ins (cNet K) dx (FNet (.ref pl) (.ref cl) (.ref gl))) → Q .non H'
theorem sq_but {K : PySem.W.Frag} {H H' : Hp} {p a C dx : Addr} {fs : List (Str × V)} {xs : List V} (h : SqL K H a xs) (hp : H p = some (.ins C dx fs)) (e : ExBut p H H') : SqL K H' a xs := by
  rcases h with (h | ⟨o, h⟩) | h
  · exact .inl (.inl (e _ _ h (ne_of h hp (by intro z; cases z))))
  · exact .inl (.inr ⟨o, e _ _ h (ne_of h hp (by intro z; cases z))⟩)
  · exact .inr h
theorem exbut_new {H : Hp} {l p : Addr} {o u : HO} (hl : H l = none) : ExBut p H (upd (upd H l o) p u) := fun b w hb ne => by
  rw [upd_ne ne, upd_ne (ne_of_none hb hl)]
  exact hb
theorem ExBut.trans {p : Addr} {H H1 H2 : Hp} (a : ExBut p H H1) (b : ExBut p H1 H2) : ExBut p H H2 := fun q o h n => b q o (a q o h n) n
theorem ExBut.none {p : Addr} {H H1 : Hp} (a : ExBut p H H1) {b : Addr} (n : b ≠ p) (h : H1 b = Option.none) : H b = Option.none := by
  cases q : H b with
  | none => rfl
  | some o =>
    rw [a b o q n] at h
    cases h
theorem sc_Net_init : FnScope ["self", "places", "cars", "goes"] ["self", "places", "cars", "goes"] (defScope s_Net_init) := ⟨rfl, rfl, rfl, by decide +kernel, rfl, by decide +kernel, by decide +kernel⟩
theorem ok_Net_init {P : Program} {w : World} {K : PySem.W.Frag} {mg : Str → Option Value} {base : Heap} (T : Txt w K mg) : OkD P w K mg base CX0 1 (He.ma K (He.ga K "Net") "__init__") ["self", "places", "cars", "goes"] (sp_Net_init K) := by
  obtain ⟨fd, F⟩ := T.f_Net_init
  refine ⟨fd, F.ok sc_Net_init (fun vs H Q E h => ?_) (fun cdv A outer s H vs Q E hr h => ?_), F.bindsN fun _ _ _ _ _ _ us hl => match us, hl with | [_, _, _, _], _ => rfl, F.kp⟩
  · obtain ⟨p, dx, a, b, c, xs, ys, zs, rfl, hp, ha, hb, hc, k⟩ := h
    rfl
  · refine ⟨_, PSs.nox (pss_cons (ps_fld (pv 0) (pe_callTy call_list_of (by rfl) T.b_list (by decide +kernel) (pa_cons (pv 1) pa_nil)) rfl) (pss_cons (ps_fld (pv 0) (pe_callTy call_list_of (by rfl) T.b_list (by decide +kernel) (pa_cons (pv 2) pa_nil)) rfl) (pss_one (ps_fld (pv 0) (pe_callTy call_list_of (by rfl) T.b_list (by decide +kernel) (pa_cons (pv 3) pa_nil)) rfl)))), ?_⟩
    obtain ⟨p, dx, a, b, c, xs, ys, zs, rfl, hp, ha, hb, hc, k⟩ := h
    refine ⟨_, rfl, a, xs, rfl, .inl ha, fun pl hpl => ⟨_, rfl, p, _, dx, _, rfl, (upd_ne (ne_of_none hp hpl)).trans hp, T.c_Net, T.n_Net_places, (by show 0 < 1000; decide), ?_⟩⟩
    have e1 : ExBut p H (upd (upd H pl (.lst xs)) p (.ins (cNet K) dx (putF "places" (.ref pl) []))) := exbut_new hpl
    refine ⟨_, rfl, b, ys, rfl, .inl (sq_but hb hp e1), fun cl hcl => ⟨_, rfl, p, _, dx, _, rfl, (upd_ne (ne_of_none upd_same hcl)).trans upd_same, T.c_Net, T.n_Net_cars, (by show 1 < 1000; decide), ?_⟩⟩
    have e2 : ExBut p (upd (upd H pl (.lst xs)) p (.ins (cNet K) dx (putF "places" (.ref pl) []))) (upd (upd (upd (upd H pl (.lst xs)) p (.ins (cNet K) dx (putF "places" (.ref pl) []))) cl (.lst ys)) p (.ins (cNet K) dx (putF "cars" (.ref cl) (putF "places" (.ref pl) [])))) := exbut_new hcl
    refine ⟨_, rfl, c, zs, rfl, .inl (sq_but (sq_but hc hp e1) upd_same e2), fun gl hgl => ⟨_, rfl, p, _, dx, _, rfl, (upd_ne (ne_of_none upd_same hgl)).trans upd_same, T.c_Net, T.n_Net_goes, (by show 2 < 1000; decide), ?_⟩⟩
    have e3 : ExBut p (upd (upd (upd (upd H pl (.lst xs)) p (.ins (cNet K) dx (putF "places" (.ref pl) []))) cl (.lst ys)) p (.ins (cNet K) dx (putF "cars" (.ref cl) (putF "places" (.ref pl) [])))) (upd (upd (upd (upd (upd (upd H pl (.lst xs)) p (.ins (cNet K) dx (putF "places" (.ref pl) []))) cl (.lst ys)) p (.ins (cNet K) dx (putF "cars" (.ref cl) (putF "places" (.ref pl) [])))) gl (.lst zs)) p (.ins (cNet K) dx (putF "goes" (.ref gl) (putF "cars" (.ref cl) (putF "places" (.ref pl) []))))) := exbut_new hgl
    have npl : pl ≠ p := (ne_of_none hp hpl).symm
    have ncl : cl ≠ p := (ne_of_none upd_same hcl).symm
    have ngl : gl ≠ p := (ne_of_none upd_same hgl).symm
    have h1 : upd (upd H pl (.lst xs)) p (.ins (cNet K) dx (putF "places" (.ref pl) [])) pl = some (.lst xs) := (upd_ne npl).trans upd_same
    have h2 := e2 _ _ h1 npl
    have h3 : upd (upd (upd (upd H pl (.lst xs)) p (.ins (cNet K) dx (putF "places" (.ref pl) []))) cl (.lst ys)) p (.ins (cNet K) dx (putF "cars" (.ref cl) (putF "places" (.ref pl) []))) cl = some (.lst ys) := (upd_ne ncl).trans upd_same
    refine k _ pl cl gl ((e1.trans e2).trans e3) ⟨hpl, e1.none ncl hcl, (e1.trans e2).none ngl hgl, ne_of_none h1 hcl, ne_of_none h2 hgl, ne_of_none h3 hgl⟩ (e3 _ _ h2 npl) (e3 _ _ h3 ncl) ((upd_ne ngl).trans upd_same) ?_
    rw [upd_same, pNet_places, pNet_cars, pNet_goes]
/-- a new net, its three lists new and apart -/
def EvNet (K : PySem.W.Frag) (te : TE) (σ : L2.St) (H : Hp) (xs ys zs : List V) : Prop := ∀ H1, Ex H H1 → ∀ Q : VK, (∀ p dx pl cl gl H2, H1 p = none → New3 H1 pl cl gl → Ex H1 H2 → H2 p = some (.ins (cNet K) dx (FNet (.ref pl) (.ref cl) (.ref gl))) → H2 pl = some (.lst xs) → H2 cl = some (.lst ys) → H2 gl = some (.lst zs) → Q (.ref p) H2) → te σ H1 Q
theorem New3.back {H H' : Hp} {a b c : Addr} (h : New3 H' a b c) (e : Ex H H') : New3 H a b c := ⟨fresh_back e h.na, fresh_back e h.nb, fresh_back e h.nc, h.ab, h.ac, h.bc⟩
theorem enet_make {K : PySem.W.Frag} {σ : L2.St} {H : Hp} {tl : TA} {xs ys zs : List V} {E : XK} (h : EvAR tl σ H fun vs H2 => ∃ a b c, vs = [.ref a, .ref b, .ref c] ∧ SqL K H2 a xs ∧ SqL K H2 b ys ∧ SqL K H2 c zs) : EvNet K (tMake (cNet K) (sp_Net_init K) [] E tl) σ H xs ys zs := fun H1 e Q q => by
  refine h H1 e _ fun vs H2 e2 hR p dx hp hdx ne => ?_
  obtain ⟨a, b, c, rfl, ha, hb, hc⟩ := hR
  have e3 : Ex H2 (upd (upd H2 dx (.own p)) p (.ins (cNet K) dx [])) := fun b o hb => by
    rw [upd_ne (ne_of_none hb hp), upd_ne (ne_of_none hb hdx)]
    exact hb
  refine ⟨p, dx, a, b, c, xs, ys, zs, rfl, upd_same, ex_l e3 ha, ex_l e3 hb, ex_l e3 hc, fun H' pl cl gl eb n3 h1 h2 h3 h4 => ⟨rfl, q p dx pl cl gl H' (fresh_back e2 hp) ((n3.back e3).back e2) (fun b o hb => ?_) h4 h1 h2 h3⟩⟩
  have hb2 := e2 _ _ hb
  exact eb _ _ (e3 _ _ hb2) (ne_of_none hb2 hp)
theorem NetIs.of_new {K : PySem.W.Frag} {G H : Hp} {p dx pl cl gl : Addr} {n : Vbtoad.Net} {ps cs gs : List Addr} (e : Ex G H) (h : H p = some (.ins (cNet K) dx (FNet (.ref pl) (.ref cl) (.ref gl)))) (h1 : H pl = some (.lst (ps.map V.ref))) (h2 : H cl = some (.lst (cs.map V.ref))) (h3 : H gl = some (.lst (gs.map V.ref)))
    (q1 : Paired (PlaceAt K G) ps n.places) (q2 : Paired (CarAt K G) cs n.cars) (q3 : Paired (GoAt K H) gs n.goes) : NetIs K H p pl cl gl n :=
  ⟨⟨dx, h⟩, ⟨ps, h1, paired_mono (fun _ _ z => z.ex e) q1⟩, ⟨cs, h2, paired_mono (fun _ _ z => z.ex e) q2⟩, ⟨gs, h3, q3⟩⟩
theorem paired_take {α β : Type} {F : α → β → Prop} : ∀ {l : List α} {r : List β} (n : Nat), Paired F l r → Paired F (l.take n) (r.take n)
  | _, _, 0, _ => .nil
  | _, _, _ + 1, .nil => .nil
  | _, _, n + 1, .cons h t => .cons h (paired_take n t)
theorem paired_drop {α β : Type} {F : α → β → Prop} : ∀ {l : List α} {r : List β} (n : Nat), Paired F l r → Paired F (l.drop n) (r.drop n)
  | _, _, 0, h => h
  | _, _, _ + 1, .nil => .nil
  | _, _, n + 1, .cons _ t => paired_drop n t
def sp_without (K : PySem.W.Frag) : Sp := fun vs H Q _ => ∃ (G : Hp) (a : Addr) (n : Vbtoad.Net) (i : Nat), vs = [.ref a, .int (i : Int)] ∧ Ex G H ∧ NetAt K G a n ∧ i < n.goes.length ∧ n.goes.length ≤ 30 ∧
  ∀ H' p, Ex H H' → NetAt K H' p { n with goes := n.goes.eraseIdx i } → Q (.ref p) H'
theorem sc_without : FnScope ["net", "number"] ["net", "number"] (defScope s_without) := ⟨rfl, rfl, rfl, by decide +kernel, rfl, by decide +kernel, by decide +kernel⟩
theorem ok_without {P : Program} {w : World} {K : PySem.W.Frag} {mg : Str → Option Value} {base : Heap} (T : Txt w K mg) : OkD P w K mg base CX0 3 (He.ga K "without") ["net", "number"] (sp_without K) := by
  obtain ⟨fd_Net_init, G_Net_init, B_Net_init, K_Net_init⟩ := ok_Net_init (P := P) (w := w) (base := base) T
  obtain ⟨fd, F⟩ := T.f_without
  refine ⟨fd, F.ok sc_without (fun vs H Q E h => ?_) (fun cdv A outer s H vs Q E hr h => ?_), F.bindsN fun _ _ _ _ _ _ us hl => match us, hl with | [_, _], _ => rfl, F.kp⟩
  · obtain ⟨G, a, n, i, rfl, eG, hn, hi, hl, k⟩ := h
    rfl
  · refine ⟨_, PSs.nox (pss_one (ps_ret (pe_make T.k_Net G_Net_init (hr.mono (by decide)) rfl T.g_Net B_Net_init .nil pass0 (pa_cons (pe_fld (pv 0) rfl) (pa_cons (pe_fld (pv 0) rfl) (pa_cons (pe_op op_cat (pe_slice sl_list (pe_fld (pv 0) rfl) po_none (po_some (pv 1))) (pe_slice sl_list (pe_fld (pv 0) rfl) (po_some (pe_op op_add (pv 1) pe_int)) po_none)) pa_nil)))))), ?_⟩
    obtain ⟨G, a, n, i, rfl, eG, hn, hi, hl, k⟩ := h
    obtain ⟨pl, cl, gl, ⟨dx, ho⟩, ⟨ps, hp1, hp2⟩, ⟨cs, hc1, hc2⟩, ⟨gs, hg1, hg2⟩⟩ := hn
    have lg : gs.length = n.goes.length := paired_len hg2
    have ha := eG _ _ ho
    have gfl : Ev (tFld K (tVar 0) "goes") (start ["net", "number"] [.ref a, .int (i : Int)]) H (.ref gl) := ev_fld (ev_var rfl) ha T.c_Net T.n_Net_goes lNet_goes
    refine enet_make (xs := ps.map V.ref) (ys := cs.map V.ref) (zs := (gs.take i ++ gs.drop (i + 1)).map V.ref) (fun H1 e1 Q1 q1 => ear_cons (ev_fld (ev_var rfl) ha T.c_Net T.n_Net_places lNet_places) (ear_cons (ev_fld (ev_var rfl) ha T.c_Net T.n_Net_cars lNet_cars)
      (ear_consL (el_is (ys := (gs.take i ++ gs.drop (i + 1)).map V.ref) (el_cat (el_sl gfl eo_none (eo_some (ev_var rfl)) (sq_of (eG _ _ hg1))) (el_sl gfl (eo_some (ev_op (ev_var rfl) ev_c rv_I0)) eo_none (sq_of (eG _ _ hg1))) ?_) ?_) ear_nil)) H1 e1 Q1 ?_) H (Ex.refl H) _ fun p dx' pl' cl' gl' H2 hp n3 e2 h0 h1 h2 h3 => k H2 p e2 ⟨pl', cl', gl', NetIs.of_new (G := G) (eG.trans e2) h0 h1 h2 h3 hp2 hc2 ?_⟩
    · refine Nat.le_trans (Nat.add_le_add (cutV_length _ _ _) (cutV_length _ _ _)) ?_
      rw [List.length_map]
      omega
    · rw [cut_take (by rw [List.length_map]; omega), show ((i : Int) + 1) = ((i + 1 : Nat) : Int) by omega, cut_drop (by rw [List.length_map]; omega), List.map_append, List.map_take, List.map_drop]
    · rintro vs H3 e3 ⟨r1, rfl, r2, rfl, p3, r3, rfl, hp3, rfl⟩
      exact q1 _ H3 e3 ⟨pl, cl, p3, rfl, sq_of (e3 _ _ (e1 _ _ (eG _ _ hp1))), sq_of (e3 _ _ (e1 _ _ (eG _ _ hc1))), sq_of hp3⟩
    · rw [List.eraseIdx_eq_take_drop_succ]
      exact paired_mono (fun _ _ z => z.ex (eG.trans e2)) (paired_app (paired_take i hg2) (paired_drop (i + 1) hg2))
theorem paired_set {α β : Type} {F : α → β → Prop} {x : α} {y : β} (h : F x y) : ∀ {l : List α} {r : List β} (i : Nat), Paired F l r → Paired F (l.set i x) (r.set i y)
  | _, _, _, .nil => .nil
  | _, _, 0, .cons _ t => .cons h t
  | _, _, i + 1, .cons q t => .cons q (paired_set h i t)
def shiftGo (m : Int) (g : Vbtoad.Go) : Vbtoad.Go := { g with dep := ((g.dep : Int) + m).toNat, arr := ((g.arr : Int) + m).toNat }
def sp_shifted (K : PySem.W.Frag) : Sp := fun vs H Q _ => ∃ (G : Hp) (a : Addr) (n : Vbtoad.Net) (i : Nat) (g : Vbtoad.Go) (m : Int), vs = [.ref a, .int (i : Int), .int m] ∧ Ex G H ∧ NetAt K G a n ∧ n.goes[i]? = some g ∧ n.goes.length ≤ 30 ∧ 0 ≤ (g.dep : Int) + m ∧ 0 ≤ (g.arr : Int) + m ∧
  ∀ H' p, Ex H H' → NetAt K H' p { n with goes := n.goes.set i (shiftGo m g) } → Q (.ref p) H'
theorem sc_shifted : FnScope ["net", "number", "minutes", "old", "new"] ["net", "number", "minutes"] (defScope s_shifted) := ⟨rfl, rfl, rfl, by decide +kernel, rfl, by decide +kernel, by decide +kernel⟩
theorem ok_shifted {P : Program} {w : World} {K : PySem.W.Frag} {mg : Str → Option Value} {base : Heap} (T : Txt w K mg) : OkD P w K mg base CX0 3 (He.ga K "shifted") ["net", "number", "minutes"] (sp_shifted K) := by
  obtain ⟨fd_Net_init, G_Net_init, B_Net_init, K_Net_init⟩ := ok_Net_init (P := P) (w := w) (base := base) T
  obtain ⟨fd_Departure_init, G_Departure_init, B_Departure_init, K_Departure_init⟩ := ok_Departure_init (P := P) (w := w) (base := base) T
  obtain ⟨fd, F⟩ := T.f_shifted
  refine ⟨fd, F.ok sc_shifted (fun vs H Q E h => ?_) (fun cdv A outer s H vs Q E hr h => ?_), F.bindsN fun _ _ _ _ _ _ us hl => match us, hl with | [_, _, _], _ => rfl, F.kp⟩
  · obtain ⟨G, a, n, i, g, m, rfl, eG, hn, hi, hl, hm1, hm2, k⟩ := h
    rfl
  · refine ⟨_, PSs.nox (pss_cons (ps_set (i := 3) sc_shifted.nd rfl (Or.inl rfl) (pe_ix ix_list (pe_fld (pv 0) rfl) (pv 1) (fun _ _ => rfl))) (pss_cons (ps_set (i := 4) sc_shifted.nd rfl (Or.inl rfl) (pe_make T.k_Departure G_Departure_init (hr.mono (by decide)) rfl T.g_Departure B_Departure_init .nil pass0 (pa_cons (pe_fld (pv 3) rfl) (pa_cons (pe_fld (pv 3) rfl) (pa_cons (pe_op op_add (pe_fld (pv 3) rfl) (pv 2)) (pa_cons (pe_fld (pv 3) rfl) (pa_cons (pe_op op_add (pe_fld (pv 3) rfl) (pv 2)) pa_nil))))))) (pss_one (ps_ret (pe_make T.k_Net G_Net_init (hr.mono (by decide)) rfl T.g_Net B_Net_init .nil pass0 (pa_cons (pe_fld (pv 0) rfl) (pa_cons (pe_fld (pv 0) rfl) (pa_cons (pe_op op_cat (pe_op op_cat (pe_slice sl_list (pe_fld (pv 0) rfl) po_none (po_some (pv 1))) (pe_lst (pa_cons (pv 4) pa_nil))) (pe_slice sl_list (pe_fld (pv 0) rfl) (po_some (pe_op op_add (pv 1) pe_int)) po_none)) pa_nil)))))))), ?_⟩
    obtain ⟨G, a, n, i, g, m, rfl, eG, hn, hi, hl, hm1, hm2, k⟩ := h
    obtain ⟨pl, cl, gl, ⟨dx, ho⟩, ⟨ps, hp1, hp2⟩, ⟨cs, hc1, hc2⟩, ⟨gs, hg1, hg2⟩⟩ := hn
    have lg : gs.length = n.goes.length := paired_len hg2
    have hil := (List.getElem?_eq_some_iff.mp hi).1
    have ha := eG _ _ ho
    obtain ⟨ga, hga, dg, na, hg, hna⟩ := paired_at hg2 hi
    have gfl : ∀ {x y}, Ev (tFld K (tVar 0) "goes") [some (.ref a), some (.int (i : Int)), some (.int m), x, y] H (.ref gl) := fun {x y} => ev_fld (ev_var rfl) ha T.c_Net T.n_Net_goes lNet_goes
    refine q_asg (ev_ixL gfl (ev_var rfl) (eG _ _ hg1) (by rw [List.getElem?_map, hga]; rfl)) fun H1 e1 => ?_
    have hg' : H1 ga = _ := e1 _ _ (eG _ _ hg)
    refine q_asgI (C := cGo K) (fs := FDeparture (.ref na) (nV g.from_) (.int ((g.dep : Int) + m)) (nV g.to_) (.int ((g.arr : Int) + m))) (ei_make (vs := [.ref na, nV g.from_, .int ((g.dep : Int) + m), nV g.to_, .int ((g.arr : Int) + m)]) (ea_cons (ev_fld (ev_var rfl) hg' T.c_Departure T.n_Departure_name lDeparture_name) (ea_cons (ev_fld (ev_var rfl) hg' T.c_Departure T.n_Departure_start lDeparture_start)
      (ea_cons (ev_op (ev_fld (ev_var rfl) hg' T.c_Departure T.n_Departure_leaves lDeparture_leaves) (ev_var rfl) rv_I0) (ea_cons (ev_fld (ev_var rfl) hg' T.c_Departure T.n_Departure_end lDeparture_end) (ea_cons (ev_op (ev_fld (ev_var rfl) hg' T.c_Departure T.n_Departure_comes lDeparture_comes) (ev_var rfl) rv_I0) ea_nil)))))
      fun H2 p dx Q _ hp q => ⟨p, dx, _, _, _, _, _, rfl, hp, q⟩) fun np dn H2 hnp e2 hn2 => ?_
    have eH : Ex H H2 := e1.trans e2
    refine enet_make (xs := ps.map V.ref) (ys := cs.map V.ref) (zs := (gs.take i ++ [np] ++ gs.drop (i + 1)).map V.ref) (fun H3 e3 Q1 q1 => ear_cons (ev_fld (ev_var rfl) (eH _ _ ha) T.c_Net T.n_Net_places lNet_places) (ear_cons (ev_fld (ev_var rfl) (eH _ _ ha) T.c_Net T.n_Net_cars lNet_cars)
      (ear_consL (el_is (ys := (gs.take i ++ [np] ++ gs.drop (i + 1)).map V.ref) (el_cat (el_cat (el_sl (gfl.mono eH) eo_none (eo_some (ev_var rfl)) (sq_of (eH _ _ (eG _ _ hg1)))) (el_lst (ea_cons (ev_var rfl) ea_nil) (by show 1 ≤ 100000; decide)) ?_) (el_sl (gfl.mono eH) (eo_some (ev_op (ev_var rfl) ev_c rv_I0)) eo_none (sq_of (eH _ _ (eG _ _ hg1)))) ?_) ?_) ear_nil)) H3 e3 Q1 ?_)
      H2 (Ex.refl H2) _ fun p dx' pl' cl' gl' H3 hp n3 e3 h0 h1 h2 h3 => k H3 p (eH.trans e3) ⟨pl', cl', gl', NetIs.of_new (G := G) (eG.trans (eH.trans e3)) h0 h1 h2 h3 hp2 hc2 ?_⟩
    · refine Nat.le_trans (Nat.add_le_add (cutV_length _ _ _) (Nat.le_refl _)) ?_
      show (gs.map V.ref).length + 1 ≤ 100000
      rw [List.length_map]
      omega
    · rw [List.length_append]
      refine Nat.le_trans (Nat.add_le_add (Nat.add_le_add (cutV_length _ _ _) (Nat.le_refl _)) (cutV_length _ _ _)) ?_
      show (gs.map V.ref).length + 1 + (gs.map V.ref).length ≤ 100000
      rw [List.length_map]
      omega
    · rw [cut_take (by rw [List.length_map]; omega), show ((i : Int) + 1) = ((i + 1 : Nat) : Int) by omega, cut_drop (by rw [List.length_map]; omega), List.map_append, List.map_append, List.map_take, List.map_drop]
      rfl
    · rintro vs H4 e4 ⟨r1, rfl, r2, rfl, p3, r3, rfl, hp3, rfl⟩
      exact q1 _ H4 e4 ⟨pl, cl, p3, rfl, sq_of (e4 _ _ (e3 _ _ (eH _ _ (eG _ _ hp1)))), sq_of (e4 _ _ (e3 _ _ (eH _ _ (eG _ _ hc1)))), sq_of hp3⟩
    · have hs : gs.take i ++ [np] ++ gs.drop (i + 1) = gs.set i np := by
        rw [List.set_eq_take_append_cons_drop, if_pos (by omega), List.append_assoc]
        rfl
      rw [hs]
      refine paired_set ⟨dn, na, ?_, (eH.trans e3) _ _ (eG _ _ hna)⟩ i (paired_mono (fun _ _ z => z.ex (eG.trans (eH.trans e3))) hg2)
      rw [show (nV (shiftGo m g).dep : V) = .int ((g.dep : Int) + m) from congrArg V.int (Int.toNat_of_nonneg hm1), show (nV (shiftGo m g).arr : V) = .int ((g.arr : Int) + m) from congrArg V.int (Int.toNat_of_nonneg hm2)]
      exact e3 _ _ hn2
end SJ
/-! The table of ways by cars. -/
namespace SJ
open PySem PySem.Spec PyProof.Rows L2 Evl
def tabV (t : Tab) : List (List V) := t.map fun r => r.map V.int
theorem nodup_inj {α : Type} {l : List α} (nd : l.Nodup) {i j : Nat} {x : α} (h1 : l[i]? = some x) (h2 : l[j]? = some x) : i = j := by
  obtain ⟨a1, b1⟩ := List.getElem?_eq_some_iff.mp h1
  obtain ⟨a2, b2⟩ := List.getElem?_eq_some_iff.mp h2
  have p := List.pairwise_iff_getElem.mp nd
  rcases Nat.lt_trichotomy i j with h | h | h
  · exact absurd (b1.trans b2.symm) (p i j a1 a2 h)
  · exact h
  · exact absurd (b2.trans b1.symm) (p j i a2 a1 h)
def TabAt (H : Hp) (f : Addr) (rows : List Addr) (t : Tab) : Prop := RowsAt H f rows (tabV t)
theorem TabAt.ex {H H' : Hp} {f : Addr} {rows : List Addr} {t : Tab} (h : TabAt H f rows t) (e : Ex H H') : TabAt H' f rows t := RowsAt.ex h e
theorem TabAt.row_ {H : Hp} {f : Addr} {rows : List Addr} {t : Tab} {m i : Nat} (h : TabAt H f rows t) (sq : Sq m t) (hi : i < m) : ∃ r, (rows.map V.ref)[i]? = some (.ref r) ∧ rows[i]? = some r ∧ H r = some (.lst ((t.getD i []).map V.int)) := by
  have hl := h.len
  rw [show (tabV t).length = m by unfold tabV; rw [List.length_map, sq.1]] at hl
  have hr : rows[i]? = some rows[i] := List.getElem?_eq_getElem (by omega)
  refine ⟨rows[i], by rw [List.getElem?_map, hr]; rfl, hr, h.row i _ _ hr ?_⟩
  unfold tabV
  rw [List.getElem?_map, List.getElem?_eq_getElem (by rw [sq.1]; exact hi), List.getD_eq_getElem?_getD, List.getElem?_eq_getElem (by rw [sq.1]; exact hi)]
  rfl
theorem tab_cell {t : Tab} {m i j : Nat} (sq : Sq m t) (hi : i < m) (hj : j < m) : ((t.getD i []).map V.int)[j]? = some (.int (tg t i j)) := by
  rw [List.getElem?_map]
  unfold tg
  rw [List.getD_eq_getElem?_getD (l := t.getD i []), List.getElem?_eq_getElem (by rw [sq.2 i hi]; exact hj)]
  rfl
/-- found[i][j] -/
theorem ev_cell {K : PySem.W.Frag} {σ : L2.St} {H : Hp} {tf ta tb : TE} {f : Addr} {rows : List Addr} {t : Tab} {m i j : Nat} (hf : Ev tf σ H (.ref f)) (ha : Ev ta σ H (.int (i : Int))) (hb : Ev tb σ H (.int (j : Int))) (h : TabAt H f rows t) (sq : Sq m t) (hi : i < m) (hj : j < m) :
    Ev (tOp (rIxL K) (tOp (rIxL K) tf ta) tb) σ H (.int (tg t i j)) := by
  obtain ⟨r, h1, _, h3⟩ := h.row_ sq hi
  exact ev_ixL (ev_ixL hf ha h.top h1) hb h3 (tab_cell sq hi hj)
/-- found[i][j] = v -/
theorem TabAt.put {H : Hp} {f : Addr} {rows : List Addr} {t : Tab} {m i j : Nat} {v : Int} {r : Addr} (h : TabAt H f rows t) (sq : Sq m t) (hi : i < m) (hr : rows[i]? = some r) (nf : r ≠ f) : TabAt (upd H r (.lst (((t.getD i []).map V.int).set j (.int v)))) f rows (ts t i j v) := by
  refine ⟨(upd_ne (Ne.symm nf)).trans h.top, h.nd, by have := h.len; unfold tabV ts at *; rw [List.length_map] at *; rw [List.length_set]; exact this, fun k a l hk hl => ?_⟩
  unfold tabV ts at hl
  rw [List.getElem?_map, List.getElem?_set] at hl
  by_cases e : i = k
  · subst e
    rw [if_pos rfl, if_pos (by rw [sq.1]; exact hi)] at hl
    rw [hr] at hk
    cases hk
    have hl2 : some (((t.getD i []).set j v).map V.int) = some l := hl
    rw [upd_same, ← Option.some.inj hl2, List.map_set]
  · rw [if_neg e] at hl
    have na : a ≠ r := fun z => by
      rw [z] at hk
      exact e (nodup_inj h.nd hr (by rw [hk]))
    rw [upd_ne na]
    refine h.row k a l hk ?_
    unfold tabV
    rw [List.getElem?_map]
    exact hl
def sp_put_shorter (K : PySem.W.Frag) : Sp := fun vs H Q _ => ∃ (G : Hp) (a f : Addr) (rows : List Addr) (n : Vbtoad.Net) (t : Tab) (i b j : Nat), vs = [.ref a, .ref f, .int (i : Int), .int (b : Int), .int (j : Int)] ∧ Ex G H ∧ NetAt K G a n ∧ TabAt H f rows t ∧ RowsNew G f rows ∧
  Sq n.places.length t ∧ i < n.places.length ∧ b < n.places.length ∧ j < n.places.length ∧ ∀ H', Ex G H' → TabAt H' f rows (fwPut n i b t j) → Q .non H'
theorem handling_at {n : Vbtoad.Net} {b : Nat} {p : Vbtoad.Place} (h : n.places[b]? = some p) : Vbtoad.handlingAt n b = p.handling := by
  unfold Vbtoad.handlingAt
  rw [h]
  rfl
theorem sc_put_shorter : FnScope ["net", "found", "one", "between", "other", "long"] ["net", "found", "one", "between", "other"] (defScope s_put_shorter) := ⟨rfl, rfl, rfl, by decide +kernel, rfl, by decide +kernel, by decide +kernel⟩
theorem ok_put_shorter {P : Program} {w : World} {K : PySem.W.Frag} {mg : Str → Option Value} {base : Heap} (T : Txt w K mg) : OkD P w K mg base CX0 1 (He.ga K "put_shorter") ["net", "found", "one", "between", "other"] (sp_put_shorter K) := by
  obtain ⟨fd, F⟩ := T.f_put_shorter
  refine ⟨fd, F.ok sc_put_shorter (fun vs H Q E h => ?_) (fun cdv A outer s H vs Q E hr h => ?_), F.bindsN fun _ _ _ _ _ _ us hl => match us, hl with | [_, _, _, _, _], _ => rfl, F.kp⟩
  · obtain ⟨G, a, f, rows, n, t, i, b, j, rfl, eG, hn, ht, hN, sq, hi, hb, hj, k⟩ := h
    rfl
  · refine ⟨_, PSs.nox (pss_cons (ps_if (PW.pt (pw_or (pt_cmpR op_in_seq (pv 3) (pe_tup (pa_cons (pv 2) (pa_cons (pv 4) pa_nil))) (by rfl)) (pw_or (pt_cmpR op_eq (pv 2) (pv 4) (nomark _)) (pw_or (pt_cmpR op_lt (pe_ix ix_list (pe_ix ix_list (pv 1) (pv 2) (fun _ _ => rfl)) (pv 3) (fun _ _ => rfl)) pe_int (nomark _)) (pw_or1 (pt_cmpR op_lt (pe_ix ix_list (pe_ix ix_list (pv 1) (pv 3) (fun _ _ => rfl)) (pv 4) (fun _ _ => rfl)) pe_int (nomark _))))))) (pss_one ps_retN) pss_nil) (pss_cons (ps_set (i := 5) sc_put_shorter.nd rfl (Or.inl rfl) (pe_op op_add (pe_op op_add (pe_ix ix_list (pe_ix ix_list (pv 1) (pv 2) (fun _ _ => rfl)) (pv 3) (fun _ _ => rfl)) (pe_fld (pe_ix ix_list (pe_fld (pv 0) rfl) (pv 3) (fun _ _ => rfl)) rfl)) (pe_ix ix_list (pe_ix ix_list (pv 1) (pv 3) (fun _ _ => rfl)) (pv 4) (fun _ _ => rfl)))) (pss_one (ps_if (PW.pt (pw_or (pt_cmpR op_lt (pe_ix ix_list (pe_ix ix_list (pv 1) (pv 2) (fun _ _ => rfl)) (pv 4) (fun _ _ => rfl)) pe_int (nomark _)) (pw_or1 (pt_cmpR op_lt (pv 5) (pe_ix ix_list (pe_ix ix_list (pv 1) (pv 2) (fun _ _ => rfl)) (pv 4) (fun _ _ => rfl)) (nomark _))))) (pss_one (ps_asg (pv 5) (pg_sub (pe_ix ix_list (pv 1) (pv 2) (fun _ _ => rfl)) (pv 4) set_list))) pss_nil)))), ?_⟩
    obtain ⟨G, a, f, rows, n, t, i, b, j, rfl, eG, hn, ht, hN, sq, hi, hb, hj, k⟩ := h
    obtain ⟨pl, cl, gl, ⟨dx, ho⟩, hpl, -, -⟩ := hn
    obtain ⟨p, hp⟩ : ∃ p, n.places[b]? = some p := ⟨_, List.getElem?_eq_getElem hb⟩
    obtain ⟨pv, pa, hp1, hp2, dp, na, hp3, _⟩ := hpl.at_ hp
    have cell : ∀ {x y : Nat} {p q : Nat} {z}, x < n.places.length → y < n.places.length → ([some (.ref a), some (.ref f), some (.int (i : Int)), some (.int (b : Int)), some (.int (j : Int)), z] : L2.St)[p]? = some (some (.int (x : Int))) → ([some (.ref a), some (.ref f), some (.int (i : Int)), some (.int (b : Int)), some (.int (j : Int)), z] : L2.St)[q]? = some (some (.int (y : Int))) →
        Ev (tOp (rIxL K) (tOp (rIxL K) (tVar 1) (tVar p)) (tVar q)) [some (.ref a), some (.ref f), some (.int (i : Int)), some (.int (b : Int)), some (.int (j : Int)), z] H (.int (tg t x y)) := fun hx hy e1 e2 => ev_cell (ev_var rfl) (ev_var e1) (ev_var e2) ht sq hx hy
    refine q_when (b := decide ((b = i ∨ b = j) ∨ i = j ∨ tg t i b < 0 ∨ tg t b j < 0)) (et_is (et_or (et_test (ev_inU (ev_var rfl) (eu_tup (ea_cons (ev_var rfl) (ea_cons (ev_var rfl) ea_nil)) (by show 2 ≤ 100000; decide)) rfl rfl)) fun _ => et_or (et_test (ev_eqI (ev_var rfl) (ev_var rfl))) fun _ => et_or (et_test (ev_op (cell hi hb rfl rfl) ev_c rv_I0)) fun _ => et_test (ev_op (cell hb hj rfl rfl) ev_c rv_I0)) ?_) (fun hc H1 e1 => ?_) (fun hc H1 e1 => ?_)
    · have e1 : inV (.int (b : Int)) [.int (i : Int), .int (j : Int)] = decide (b = i ∨ b = j) := by
        show (decide ((i : Int) = (b : Int)) || (decide ((j : Int) = (b : Int)) || false)) = _
        by_cases q1 : b = i
        · rw [decide_eq_true (show (i : Int) = (b : Int) by omega), decide_eq_true (Or.inl q1)]
          rfl
        · rw [decide_eq_false (show ¬ (i : Int) = (b : Int) by omega)]
          by_cases q2 : b = j
          · rw [decide_eq_true (show (j : Int) = (b : Int) by omega), decide_eq_true (Or.inr q2)]
            rfl
          · rw [decide_eq_false (show ¬ (j : Int) = (b : Int) by omega), decide_eq_false (by omega)]
            rfl
      have e2 : decide ((i : Int) = (j : Int)) = decide (i = j) := decide_eq_decide.mpr (by omega)
      show (inV (.int (b : Int)) [.int (i : Int), .int (j : Int)] || (decide ((i : Int) = (j : Int)) || (decide (tg t i b < 0) || decide (tg t b j < 0)))) = _
      rw [e1, e2]
      simp only [Bool.decide_or, Bool.or_assoc]
    · have z := k H1 (eG.trans e1) (by unfold fwPut; rw [if_pos (of_decide_eq_true hc)]; exact ht.ex e1)
      exact z
    · refine q_asg (v := .int (tg t i b + (Vbtoad.handlingAt n b : Int) + tg t b j)) (ev_is (ev_op (ev_op ((cell hi hb rfl rfl).mono e1) (ev_fld (ev_ixL (ev_fld (ev_var rfl) (e1 _ _ (eG _ _ ho)) T.c_Net T.n_Net_places lNet_places) (ev_var rfl) (e1 _ _ (eG _ _ hp1)) hp2) (e1 _ _ (eG _ _ hp3)) T.c_Place T.n_Place_handling lPlace_handling) rv_I0) ((cell hb hj rfl rfl).mono e1) rv_I0) (by rw [handling_at hp])) fun H2 e2 => ?_
      refine s_when (b := decide (tg t i j < 0 ∨ tg t i b + (Vbtoad.handlingAt n b : Int) + tg t b j < tg t i j)) (et_is (et_or (et_test (ev_op (ev_cell (ev_var rfl) (ev_var rfl) (ev_var rfl) (ht.ex (e1.trans e2)) sq hi hj) ev_c rv_I0)) fun _ => et_test (ev_op (ev_var rfl) (ev_cell (ev_var rfl) (ev_var rfl) (ev_var rfl) (ht.ex (e1.trans e2)) sq hi hj) rv_I0)) (Bool.decide_or _ _).symm) (fun hd H3 e3 => ?_) (fun hd H3 e3 => ?_)
      · obtain ⟨r, h1, h2, h3⟩ := (ht.ex ((e1.trans e2).trans e3)).row_ sq hi
        refine s_setL h3 (ev_var rfl) (ev_ixL (ev_var rfl) (ev_var rfl) (((e1.trans e2).trans e3) _ _ ht.top) h1) (ev_var rfl) (by rw [List.length_map, sq.2 i hi]; exact hj) fun H4 e4 => ?_
        have eH := ((e1.trans e2).trans e3).trans e4
        have z := (ht.ex eH).put (j := j) (v := tg t i b + (Vbtoad.handlingAt n b : Int) + tg t b j) sq hi h2 (hN.row r (List.mem_of_getElem? h2)).2
        refine k _ (Ex.mut (eG.trans eH) (hN.row r (List.mem_of_getElem? h2)).1) ?_
        unfold fwPut
        rw [if_neg (of_decide_eq_false hc), if_pos (of_decide_eq_true hd)]
        exact z
      · refine k _ (eG.trans ((e1.trans e2).trans e3)) ?_
        unfold fwPut
        rw [if_neg (of_decide_eq_false hc), if_neg (of_decide_eq_false hd)]
        exact ht.ex ((e1.trans e2).trans e3)
theorem given_all (n : Nat) (v : Nat → V) : given n (fun _ => true) v = (List.range n).map v := by
  unfold given
  rw [List.filter_eq_self.mpr fun _ _ => rfl]
theorem fwCar_sq {m : Nat} {t : Tab} {c : Vbtoad.Car} (h : Sq m t) : Sq m (fwCar t c) := by
  unfold fwCar
  split
  · exact ts_sq h
  · exact h
theorem fwPut_sq {n : Vbtoad.Net} {m i b j : Nat} {t : Tab} (h : Sq m t) : Sq m (fwPut n i b t j) := by
  unfold fwPut
  split
  · exact h
  · split
    · exact ts_sq h
    · exact h
theorem fw0_sq (m : Nat) : Sq m (fw0 m) := ⟨by simp [fw0], fun i hi => by rw [fw0_getD hi]; simp⟩
theorem tabV_fw0 (m : Nat) : tabV (fw0 m) = (List.range m).map fun i => (List.range m).map fun j => V.int (if i = j then 0 else -1) := by
  unfold tabV fw0
  rw [List.map_map]
  congr 1
  funext i
  show ((List.range m).map _).map V.int = _
  rw [List.map_map]
  rfl
theorem fold_more {σ : Type} (f : σ → Nat → σ) (s : σ) (i : Nat) : (List.range (i + 1)).foldl f s = f ((List.range i).foldl f s) i := by
  rw [List.range_succ, List.foldl_append]
  rfl
section
variable {σ : L2.St} {H : Hp} {te : TE} {D : Ends} {tz : TS} {i : Nat} {ls : List (List V)}
theorem q_asgRows (h : EvRows te σ H ls) (k : ∀ p rows H1, Ex H H1 → RowsAt H1 p rows ls → RowsNew H p rows → tz D (σ.set i (some (.ref p))) H1) : tSeq (tAsg te (gName i)) tz D σ H := h H (Ex.refl H) _ fun p rows H1 e h1 hn => k p rows H1 e h1 hn
end
def sp_come_tables (K : PySem.W.Frag) : Sp := fun vs H Q _ => ∃ (G : Hp) (a : Addr) (n : Vbtoad.Net), vs = [.ref a] ∧ Ex G H ∧ NetAt K G a n ∧ NetOk n ∧ ∀ H' f rows, Ex H H' → TabAt H' f rows (comeT n) → Q (.ref f) H'
theorem sc_come_tables : FnScope ["net", "many", "one", "other", "found", "car", "between"] ["net"] (defScope s_come_tables) := ⟨rfl, rfl, rfl, by decide +kernel, rfl, by decide +kernel, by decide +kernel⟩
theorem ok_come_tables {P : Program} {w : World} {K : PySem.W.Frag} {mg : Str → Option Value} {base : Heap} (T : Txt w K mg) : OkD P w K mg base CX0 2 (He.ga K "come_tables") ["net"] (sp_come_tables K) := by
  obtain ⟨fd_put_shorter, G_put_shorter, B_put_shorter, K_put_shorter⟩ := ok_put_shorter (P := P) (w := w) (base := base) T
  obtain ⟨fd, F⟩ := T.f_come_tables
  refine ⟨fd, F.ok sc_come_tables (fun vs H Q E h => ?_) (fun cdv A outer s H vs Q E hr h => ?_), F.bindsN fun _ _ _ _ _ _ us hl => match us, hl with | [_], _ => rfl, F.kp⟩
  · obtain ⟨G, a, n, rfl, eG, hn, ok, k⟩ := h
    rfl
  · refine ⟨_, PSs.nox (pss_cons (ps_set (i := 1) sc_come_tables.nd rfl (Or.inr rfl) (pe_callB call_len_seq (by rfl) T.b_len PySem.boot_len (pa_cons (pe_fld (pv 0) rfl) pa_nil))) (pss_cons (ps_setLc (i := 4) (own := [("one", 2)]) (g := gName 2) rfl sc_come_tables.nd rfl rfl (sw_true rfl rfl rfl (by decide +kernel)) (pi_range1 rfl T.b_range (pa_cons (pv 1) pa_nil)) (blkOk_by (own := [("one", 2)]) (N := ["net", "many", "one", "other", "found", "car", "between"]) (sc := defScope s_come_tables) (by decide +kernel)) (fun _ _ _ _ _ => pg_name (i := 2) sc_come_tables.nd rfl (Or.inr rfl)) (fun _ _ _ _ _ => pts_nil) (fun _ _ _ _ _ => pe_lc (own := [("other", 3)]) (g := gName 3) rfl sc_come_tables.nd (pi_range1 rfl T.b_range (pa_cons (pv 1) pa_nil)) (blkOk_by (own := [("other", 3)]) (N := ["net", "many", "one", "other", "found", "car", "between"]) (sc := ({ kind := .function, names := [(".0", .local), ("one", .cell), ("range", .globalImplicit), ("many", .cell)], isGenerator := false, isCoroutine := false } : Scope)) (by decide +kernel)) (fun _ _ _ _ _ => pg_name (i := 3) sc_come_tables.nd rfl (Or.inl rfl)) (fun _ _ _ _ _ => pts_nil) (fun _ _ _ _ _ => pe_ifExp (pt_cmpR op_eq (pv 2) (pv 3) (nomark _)) pe_int (pe_un un_neg pe_int)))) (pss_cons (ps_for PassesOwn.never rfl (pi_list (pe_fld (pv 0) rfl)) (pg_name (i := 5) sc_come_tables.nd rfl (Or.inl rfl)) (pss_one (ps_if (PW.pt (pw_or (pt_cmpR op_lt (pe_ix ix_list (pe_ix ix_list (pv 4) (pe_fld (pv 5) rfl) (fun _ _ => rfl)) (pe_fld (pv 5) rfl) (fun _ _ => rfl)) pe_int (nomark _)) (pw_or1 (pt_cmpR op_lt (pe_fld (pv 5) rfl) (pe_ix ix_list (pe_ix ix_list (pv 4) (pe_fld (pv 5) rfl) (fun _ _ => rfl)) (pe_fld (pv 5) rfl) (fun _ _ => rfl)) (nomark _))))) (pss_one (ps_asg (pe_fld (pv 5) rfl) (pg_sub (pe_ix ix_list (pv 4) (pe_fld (pv 5) rfl) (fun _ _ => rfl)) (pe_fld (pv 5) rfl) set_list))) pss_nil))) (pss_cons (ps_for PassesOwn.never rfl (pi_range1 rfl T.b_range (pa_cons (pv 1) pa_nil)) (pg_name (i := 6) sc_come_tables.nd rfl (Or.inl rfl)) (pss_one (ps_for PassesOwn.never rfl (pi_range1 rfl T.b_range (pa_cons (pv 1) pa_nil)) (pg_name (i := 2) sc_come_tables.nd rfl (Or.inl rfl)) (pss_one (ps_for PassesOwn.never rfl (pi_range1 rfl T.b_range (pa_cons (pv 1) pa_nil)) (pg_name (i := 3) sc_come_tables.nd rfl (Or.inl rfl)) (pss_one (ps_expr (pe_call G_put_shorter (hr.mono (by decide)) rfl T.g_put_shorter K_put_shorter B_put_shorter .nil pass0 (pa_cons (pv 0) (pa_cons (pv 4) (pa_cons (pv 2) (pa_cons (pv 6) (pa_cons (pv 3) pa_nil))))))))))))) (pss_one (ps_ret (pv 4))))))), ?_⟩
    obtain ⟨G, a, n, rfl, eG, hn, ok, k⟩ := h
    obtain ⟨pl, cl, gl, ⟨dx, ho⟩, hpl, ⟨cs, hc1, hc2⟩, -⟩ := id hn
    obtain ⟨pv, hp1, hp2⟩ := hpl.len
    have ha := eG _ _ ho
    have hm := ok.pl
    refine q_asg (v := .int (n.places.length : Int)) (ev_is (ev_len (ev_fld (ev_var rfl) ha T.c_Net T.n_Net_places lNet_places) (sq_of (eG _ _ hp1))) (by rw [hp2])) fun H1 e1 => ?_
    refine q_asgRows (ls := tabV (fw0 n.places.length)) ?_ fun f rows H2 e2 hf hN => ?_
    · rw [tabV_fw0]
      refine er_lcR1 (fun i => (List.range n.places.length).map fun j => V.int (if i = j then 0 else -1)) (ea_cons (ev_var rfl) ea_nil) (by omega) (fun x => rfl) fun i H3 e3 hi => ?_
      refine el_is (el_lcR1 (fun _ => true) (fun j => V.int (if i = j then 0 else -1)) (ea_cons (ev_var rfl) ea_nil) (by omega) (fun x => rfl) (fun j H4 _ _ => fun H5 e5 Q q => q H5 (Ex.refl H5)) fun j H4 e4 hj _ => ?_) (by rw [given_all]; rfl)
      refine ev_if (b := decide ((i : Int) = (j : Int))) (et_test (ev_eqI (ev_var rfl) (ev_var rfl))) (fun hc => ?_) (fun hc => ?_)
      · have e : i = j := by have := of_decide_eq_true hc; omega
        rw [if_pos e]
        exact ev_c
      · have e : ¬ i = j := by have := of_decide_eq_false hc; omega
        rw [if_neg e]
        exact ev_un ev_c fun H6 _ Q q => ⟨1, rfl, q H6 (Ex.refl H6)⟩
    have eH1 : Ex G H1 := eG.trans e1
    have hNG : RowsNew G f rows := hN.back eH1
    have start0 : TabAt H2 f rows (fw0 n.places.length) := hf
    refine q_forLn (a := cl) (xs := cs.map V.ref) (ev_fld (ev_var rfl) (e2 _ _ (e1 _ _ ha)) T.c_Net T.n_Net_cars lNet_cars) (sq_of (e2 _ _ (e1 _ _ (eG _ _ hc1)))) (fun i σ' H' => (∃ x1 x2 x3 x4, σ' = [some (.ref a), some (.int (n.places.length : Int)), x1, x2, some (.ref f), x3, x4]) ∧ Ex H1 H' ∧ TabAt H' f rows ((n.cars.take i).foldl fwCar (fw0 n.places.length)) ∧ Sq n.places.length ((n.cars.take i).foldl fwCar (fw0 n.places.length)))
      (fun H3 e3 => ⟨⟨_, _, _, _, rfl⟩, e2.trans e3, start0.ex e3, fw0_sq _⟩) (fun i σ' H' _ p => sq_of (p.2.1 _ _ (e1 _ _ (eG _ _ hc1)))) ?_ ?_
    · rintro i x σ' H' hx ⟨⟨x1, x2, x3, x4, rfl⟩, eH', ht, sq⟩
      rw [List.getElem?_map] at hx
      obtain ⟨ca, hca, rfl⟩ := Option.map_eq_some_iff.mp hx
      obtain ⟨c, hc⟩ : ∃ c, n.cars[i]? = some c := ⟨_, List.getElem?_eq_getElem (by rw [← paired_len hc2]; exact (List.getElem?_eq_some_iff.mp hca).1)⟩
      obtain ⟨ca', h0, dc, na, h1, _⟩ := paired_at hc2 hc
      rw [hca] at h0
      cases h0
      have oc := ok.c c (List.mem_of_getElem? hc)
      have hcar : H' ca = some (.ins (cCar K) dc (FCar (.ref na) (nV c.from_) (nV c.to_) (nV c.long))) := eH' _ _ (eH1 _ _ h1)
      have more : (n.cars.take (i + 1)).foldl fwCar (fw0 n.places.length) = fwCar ((n.cars.take i).foldl fwCar (fw0 n.places.length)) c := by
        rw [List.take_add_one, hc, List.foldl_append]
        rfl
      rw [more]
      generalize (n.cars.take i).foldl fwCar (fw0 n.places.length) = t at ht sq
      have cell : Ev (tOp (rIxL K) (tOp (rIxL K) (tVar 4) (tFld K (tVar 5) "start")) (tFld K (tVar 5) "end")) [some (.ref a), some (.int (n.places.length : Int)), x1, x2, some (.ref f), some (.ref ca), x4] H' (.int (tg t c.from_ c.to_)) :=
        ev_cell (ev_var rfl) (ev_fld (ev_var rfl) hcar T.c_Car T.n_Car_start lCar_start) (ev_fld (ev_var rfl) hcar T.c_Car T.n_Car_end lCar_end) ht sq oc.fr oc.to
      refine s_when (b := decide (tg t c.from_ c.to_ < 0 ∨ (c.long : Int) < tg t c.from_ c.to_)) (et_is (et_or (et_test (ev_op cell ev_c rv_I0)) fun _ => et_test (ev_op (ev_fld (ev_var rfl) hcar T.c_Car T.n_Car_long lCar_long) cell rv_I0)) (Bool.decide_or _ _).symm) (fun hd H3 e3 => ?_) (fun hd H3 e3 => ?_)
      · obtain ⟨r, h1, h2, h3⟩ := (ht.ex e3).row_ sq oc.fr
        refine s_setL h3 (ev_fld (ev_var rfl) (e3 _ _ hcar) T.c_Car T.n_Car_long lCar_long) (ev_ixL (ev_var rfl) (ev_fld (ev_var rfl) (e3 _ _ hcar) T.c_Car T.n_Car_start lCar_start) (e3 _ _ ht.top) h1) (ev_fld (ev_var rfl) (e3 _ _ hcar) T.c_Car T.n_Car_end lCar_end) (by rw [List.length_map, sq.2 _ oc.fr]; exact oc.to) fun H4 e4 => ?_
        refine ⟨⟨_, _, _, _, rfl⟩, Ex.mut ((eH'.trans e3).trans e4) (hN.row r (List.mem_of_getElem? h2)).1, ?_, fwCar_sq sq⟩
        unfold fwCar
        rw [if_pos (of_decide_eq_true hd)]
        exact ((ht.ex (e3.trans e4))).put sq oc.fr h2 (hN.row r (List.mem_of_getElem? h2)).2
      · refine ⟨⟨_, _, _, _, rfl⟩, eH'.trans e3, ?_, fwCar_sq sq⟩
        unfold fwCar
        rw [if_neg (of_decide_eq_false hd)]
        exact ht.ex e3
    · rintro σ' H' ⟨⟨x1, x2, x3, x4, rfl⟩, eH', ht, sq⟩
      rw [List.length_map, paired_len hc2, List.take_length] at ht sq
      have nat_n : ((n.places.length : Int)).toNat = n.places.length := Int.toNat_natCast _
      refine q_forR1 (ea_cons (ev_var rfl) ea_nil) (by omega) (fun b σ' H' => (∃ x1 x2 x3 x4, σ' = [some (.ref a), some (.int (n.places.length : Int)), x1, x2, some (.ref f), x3, x4]) ∧ Ex H1 H' ∧ TabAt H' f rows ((List.range b).foldl (fwPhase n) (fwCars n)) ∧ Sq n.places.length ((List.range b).foldl (fwPhase n) (fwCars n))) (fun H3 e3 => ⟨⟨_, _, _, _, rfl⟩, eH'.trans e3, ht.ex e3, sq⟩) ?_ ?_
      · rintro b σ' H' hb ⟨⟨x1, x2, x3, x4, rfl⟩, eH', ht, sq⟩
        rw [fold_more]
        generalize (List.range b).foldl (fwPhase n) (fwCars n) = tb at ht sq
        refine s_forR1 (ea_cons (ev_var rfl) ea_nil) (by omega) (fun i σ' H' => (∃ x1 x2 x3, σ' = [some (.ref a), some (.int (n.places.length : Int)), x1, x2, some (.ref f), x3, some (.int (b : Int))]) ∧ Ex H1 H' ∧ TabAt H' f rows ((List.range i).foldl (fwRow n b) tb) ∧ Sq n.places.length ((List.range i).foldl (fwRow n b) tb)) (fun H3 e3 => ⟨⟨_, _, _, rfl⟩, eH'.trans e3, ht.ex e3, sq⟩) ?_ ?_
        · rintro i σ' H' hi ⟨⟨x1, x2, x3, rfl⟩, eH', ht, sq⟩
          rw [fold_more]
          generalize (List.range i).foldl (fwRow n b) tb = ti at ht sq
          refine s_forR1 (ea_cons (ev_var rfl) ea_nil) (by omega) (fun j σ' H' => (∃ x2 x3, σ' = [some (.ref a), some (.int (n.places.length : Int)), some (.int (i : Int)), x2, some (.ref f), x3, some (.int (b : Int))]) ∧ Ex H1 H' ∧ TabAt H' f rows ((List.range j).foldl (fwPut n i b) ti) ∧ Sq n.places.length ((List.range j).foldl (fwPut n i b) ti)) (fun H3 e3 => ⟨⟨_, _, rfl⟩, eH'.trans e3, ht.ex e3, sq⟩) ?_ ?_
          · rintro j σ' H' hj ⟨⟨x2, x3, rfl⟩, eH', ht, sq⟩
            rw [fold_more]
            generalize (List.range j).foldl (fwPut n i b) ti = tj at ht sq
            refine d_call (ea_cons (ev_var rfl) (ea_cons (ev_var rfl) (ea_cons (ev_var rfl) (ea_cons (ev_var rfl) (ea_cons (ev_var rfl) ea_nil))))) fun H3 e3 => ⟨H1, a, f, rows, n, tj, i, b, j, rfl, eH'.trans e3, hn.ex eH1, ht.ex e3, hN, sq, by omega, by omega, by omega, fun H4 e4 h4 => ?_⟩
            exact ⟨⟨_, _, rfl⟩, e4, h4, fwPut_sq sq⟩
          · rintro σ' H' ⟨⟨x2, x3, rfl⟩, eH', ht, sq⟩
            rw [nat_n] at ht sq
            exact ⟨⟨_, _, _, rfl⟩, eH', ht, sq⟩
        · rintro σ' H' ⟨⟨x1, x2, x3, rfl⟩, eH', ht, sq⟩
          rw [nat_n] at ht sq
          exact ⟨⟨_, _, _, _, rfl⟩, eH', ht, sq⟩
      · rintro σ' H' ⟨⟨x1, x2, x3, x4, rfl⟩, eH', ht, sq⟩
        rw [nat_n] at ht
        exact s_ret (ev_var rfl) fun H3 e3 => k H3 f rows (e1.trans (eH'.trans e3)) (ht.ex e3)
end SJ
/-! What's sure: the methods that change nothing. -/
namespace SJ
open PySem PySem.Spec PyProof.Rows L2 Evl
/-- an object that knows what's sure: its net, its goal, its ways by cars, rows of worths -/
structure SurIs (K : PySem.W.Frag) (H : Hp) (a na cm wm : Addr) (rows wrows : List Addr) (n : Vbtoad.Net) (d : Nat) (W : Tab) : Prop where
  obj : ∃ dx, H a = some (.ins (cSur K) dx (FSureness (.ref na) (nV d) (.ref cm) (.ref wm)))
  net : NetAt K H na n
  come : TabAt H cm rows (comeT n)
  wor : TabAt H wm wrows W
/-- rows of worths, one for each k -/
structure WorOk (n : Vbtoad.Net) (W : Tab) : Prop where
  len : W.length = 4
  row : ∀ k, k < 4 → (W.getD k []).length = n.goes.length
def SurP (K : PySem.W.Frag) (H : Hp) (a : Addr) (n : Vbtoad.Net) (d : Nat) (W : Tab) : Prop := (∃ na cm wm rows wrows, SurIs K H a na cm wm rows wrows n d W) ∧ NetOk n ∧ d < n.places.length ∧ WorOk n W
section
variable {K : PySem.W.Frag} {H H' : Hp} {a na cm wm : Addr} {rows wrows : List Addr} {n : Vbtoad.Net} {d : Nat} {W : Tab}
theorem SurIs.ex (h : SurIs K H a na cm wm rows wrows n d W) (e : Ex H H') : SurIs K H' a na cm wm rows wrows n d W := by
  obtain ⟨⟨dx, h0⟩, h1, h2, h3⟩ := h
  exact ⟨⟨dx, e _ _ h0⟩, h1.ex e, h2.ex e, h3.ex e⟩
theorem SurP.ex (h : SurP K H a n d W) (e : Ex H H') : SurP K H' a n d W := by
  obtain ⟨⟨na, cm, wm, rows, wrows, h⟩, r⟩ := h
  exact ⟨⟨na, cm, wm, rows, wrows, h.ex e⟩, r⟩
end
section
variable {w : World} {K : PySem.W.Frag} {mg : Str → Option Value} {σ : L2.St} {H : Hp} {ts ti : TE} {a na : Addr} {n : Vbtoad.Net} {u : Nat}
/-- net.places[u].handling -/
theorem ev_hand (T : Txt w K mg) (hs : Ev ts σ H (.ref na)) (hn : NetAt K H na n) (hi : Ev ti σ H (.int (u : Int))) (hu : u < n.places.length) : Ev (tFld K (tOp (rIxL K) (tFld K ts "places") ti) "handling") σ H (.int (Vbtoad.handlingAt n u : Int)) := by
  obtain ⟨pl, cl, gl, ⟨dx, ho⟩, hpl, -, -⟩ := hn
  obtain ⟨p, hp⟩ : ∃ p, n.places[u]? = some p := ⟨_, List.getElem?_eq_getElem hu⟩
  obtain ⟨pv, pa, hp1, hp2, dp, nm, hp3, _⟩ := hpl.at_ hp
  rw [handling_at hp]
  exact ev_fld (ev_ixL (ev_fld hs ho T.c_Net T.n_Net_places lNet_places) hi hp1 hp2) hp3 T.c_Place T.n_Place_handling lPlace_handling
end
def sp_Sureness_by_cars (K : PySem.W.Frag) : Sp := PureSp fun vs G z => ∃ (a : Addr) (n : Vbtoad.Net) (d : Nat) (W : Tab) (p : Nat), vs = [.ref a, .int (p : Int)] ∧ SurP K G a n d W ∧ p < n.places.length ∧ z = .int (Vbtoad.orNone (fwD n p d))
theorem sc_Sureness_by_cars : FnScope ["self", "place"] ["self", "place"] (defScope s_Sureness_by_cars) := ⟨rfl, rfl, rfl, by decide +kernel, rfl, by decide +kernel, by decide +kernel⟩
theorem ok_Sureness_by_cars {P : Program} {w : World} {K : PySem.W.Frag} {mg : Str → Option Value} {base : Heap} (T : Txt w K mg) : OkD P w K mg base CX0 1 (He.ma K (He.ga K "Sureness") "by_cars") ["self", "place"] (sp_Sureness_by_cars K) := by
  obtain ⟨fd, F⟩ := T.f_Sureness_by_cars
  refine ⟨fd, F.ok sc_Sureness_by_cars (fun vs H Q E h => ?_) (fun cdv A outer s H vs Q E hr h => ?_), F.bindsN fun _ _ _ _ _ _ us hl => match us, hl with | [_, _], _ => rfl, F.kp⟩
  · obtain ⟨z, G, eG, ⟨a, n, d, W, p, rfl, hS, hp, rfl⟩, k⟩ := h
    rfl
  · refine ⟨_, PSs.nox (pss_one (ps_ret (pe_ix ix_list (pe_ix ix_list (pe_fld (pv 0) rfl) (pv 1) (fun _ _ => rfl)) (pe_fld (pv 0) rfl) (fun _ _ => rfl)))), ?_⟩
    obtain ⟨z, G, eG, ⟨a, n, d, W, p, rfl, hS, hp, rfl⟩, k⟩ := h
    obtain ⟨⟨na, cm, wm, rows, wrows, ⟨dx, ho⟩, hnet, hcome, hwor⟩, ok, hd, wok⟩ := hS
    refine s_ret (ev_cell (ev_fld (ev_var rfl) (eG _ _ ho) T.c_Sureness T.n_Sureness_come lSureness_come) (ev_var rfl) (ev_fld (ev_var rfl) (eG _ _ ho) T.c_Sureness T.n_Sureness_goal lSureness_goal) (hcome.ex eG) (come_ok ok).1.sq hp hd) fun H2 e2 => int_eq (k _ e2) (fwD_tg ok hp hd)
def sp_Sureness_ready_in (K : PySem.W.Frag) : Sp := PureSp fun vs G z => ∃ (a : Addr) (n : Vbtoad.Net) (d : Nat) (W : Tab) (p u : Nat), vs = [.ref a, .int (p : Int), .int (u : Int)] ∧ SurP K G a n d W ∧ p < n.places.length ∧ u < n.places.length ∧ z = .int (Vbtoad.orNone (rdy n p u))
theorem sc_Sureness_ready_in : FnScope ["self", "place", "other"] ["self", "place", "other"] (defScope s_Sureness_ready_in) := ⟨rfl, rfl, rfl, by decide +kernel, rfl, by decide +kernel, by decide +kernel⟩
theorem ok_Sureness_ready_in {P : Program} {w : World} {K : PySem.W.Frag} {mg : Str → Option Value} {base : Heap} (T : Txt w K mg) : OkD P w K mg base CX0 2 (He.ma K (He.ga K "Sureness") "ready_in") ["self", "place", "other"] (sp_Sureness_ready_in K) := by
  obtain ⟨fd_summed, G_summed, B_summed, K_summed⟩ := ok_summed (P := P) (w := w) (base := base) T
  obtain ⟨fd, F⟩ := T.f_Sureness_ready_in
  refine ⟨fd, F.ok sc_Sureness_ready_in (fun vs H Q E h => ?_) (fun cdv A outer s H vs Q E hr h => ?_), F.bindsN fun _ _ _ _ _ _ us hl => match us, hl with | [_, _, _], _ => rfl, F.kp⟩
  · obtain ⟨z, G, eG, ⟨a, n, d, W, p, u, rfl, hS, hp, hu, rfl⟩, k⟩ := h
    rfl
  · refine ⟨_, PSs.nox (pss_cons (ps_if (pt_cmpR op_eq (pv 1) (pv 2) (nomark _)) (pss_one (ps_ret pe_int)) pss_nil) (pss_one (ps_ret (pe_call G_summed (hr.mono (by decide)) rfl T.g_summed K_summed B_summed .nil pass0 (pa_cons (pe_ix ix_list (pe_ix ix_list (pe_fld (pv 0) rfl) (pv 1) (fun _ _ => rfl)) (pv 2) (fun _ _ => rfl)) (pa_cons (pe_fld (pe_ix ix_list (pe_fld (pe_fld (pv 0) rfl) rfl) (pv 2) (fun _ _ => rfl)) rfl) pa_nil)))))), ?_⟩
    obtain ⟨z, G, eG, ⟨a, n, d, W, p, u, rfl, hS, hp, hu, rfl⟩, k⟩ := h
    obtain ⟨⟨na, cm, wm, rows, wrows, ⟨dx, ho⟩, hnet, hcome, hwor⟩, ok, hd, wok⟩ := hS
    refine q_when (et_test (ev_eqI (ev_var rfl) (ev_var rfl))) (fun hc H1 e1 => ?_) (fun hc H1 e1 => ?_)
    · refine s_ret ev_c fun H2 e2 => int_eq (k _ (e1.trans e2)) ?_
      have e : p = u := by have := of_decide_eq_true hc; omega
      unfold rdy
      rw [if_pos e]
      rfl
    · have ne : ¬ p = u := by have := of_decide_eq_false hc; omega
      refine s_ret (ev_call (ea_cons (ev_cell (ev_fld (ev_var rfl) (e1 _ _ (eG _ _ ho)) T.c_Sureness T.n_Sureness_come lSureness_come) (ev_var rfl) (ev_var rfl) (hcome.ex (eG.trans e1)) (come_ok ok).1.sq hp hu)
        (ea_cons (ev_hand T (ev_fld (ev_var rfl) (e1 _ _ (eG _ _ ho)) T.c_Sureness T.n_Sureness_net lSureness_net) (hnet.ex (eG.trans e1)) (ev_var rfl) hu) ea_nil)) (spv_pure ⟨_, _, rfl, rfl⟩)) fun H2 e2 => int_eq (k _ (e1.trans e2)) ?_
      rw [fwD_tg ok hp hu, mSum_nat]
      unfold rdy
      rw [if_neg ne]
      congr 2
      funext m
      omega
def sp_Sureness_is_in_time (K : PySem.W.Frag) : Sp := PureSp fun vs G z => ∃ (a : Addr) (n : Vbtoad.Net) (d : Nat) (W : Tab) (t p : Nat) (ga : Addr) (g : Vbtoad.Go), vs = [.ref a, .int (t : Int), .int (p : Int), .ref ga] ∧ SurP K G a n d W ∧ p < n.places.length ∧ g.from_ < n.places.length ∧ GoAt K G ga g ∧ z = .bl (inTime n p t g)
theorem sc_Sureness_is_in_time : FnScope ["self", "minute", "place", "go", "long"] ["self", "minute", "place", "go"] (defScope s_Sureness_is_in_time) := ⟨rfl, rfl, rfl, by decide +kernel, rfl, by decide +kernel, by decide +kernel⟩
theorem ok_Sureness_is_in_time {P : Program} {w : World} {K : PySem.W.Frag} {mg : Str → Option Value} {base : Heap} (T : Txt w K mg) : OkD P w K mg base CX0 3 (He.ma K (He.ga K "Sureness") "is_in_time") ["self", "minute", "place", "go"] (sp_Sureness_is_in_time K) := by
  obtain ⟨fd_Sureness_ready_in, G_Sureness_ready_in, B_Sureness_ready_in, K_Sureness_ready_in⟩ := ok_Sureness_ready_in (P := P) (w := w) (base := base) T
  obtain ⟨fd, F⟩ := T.f_Sureness_is_in_time
  refine ⟨fd, F.ok sc_Sureness_is_in_time (fun vs H Q E h => ?_) (fun cdv A outer s H vs Q E hr h => ?_), F.bindsN fun _ _ _ _ _ _ us hl => match us, hl with | [_, _, _, _], _ => rfl, F.kp⟩
  · obtain ⟨z, G, eG, ⟨a, n, d, W, t, p, ga, g, rfl, hS, hp, hu, hg, rfl⟩, k⟩ := h
    rfl
  · refine ⟨_, PSs.nox (pss_cons (ps_set (i := 4) sc_Sureness_is_in_time.nd rfl (Or.inl rfl) (pe_meth (pv 0) T.c_Sureness T.m_Sureness_ready_in G_Sureness_ready_in (hr.mono (by decide)) B_Sureness_ready_in .nil pass0 (pa_cons (pv 2) (pa_cons (pe_fld (pv 3) rfl) pa_nil)))) (pss_one (ps_ret (pe_and (pe_cmpR op_ne (pv 4) (pe_gint T.i_NONE) (nomark _)) (pe_one (pe_cmpR op_le (pe_op op_add (pv 1) (pv 4)) (pe_fld (pv 3) rfl) (nomark _))))))), ?_⟩
    obtain ⟨z, G, eG, ⟨a, n, d, W, t, p, ga, g, rfl, hS, hp, hu, hg, rfl⟩, k⟩ := h
    obtain ⟨⟨na, cm, wm, rows, wrows, ⟨dx, ho⟩, -⟩, -⟩ := id hS
    obtain ⟨dg, nm, hg0, -⟩ := hg
    refine q_asg (ev_meth (ev_var rfl) (eG _ _ ho) lSureness_ready_in (ea_cons (ev_var rfl) (ea_cons (ev_fld (ev_var rfl) (eG _ _ hg0) T.c_Departure T.n_Departure_start lDeparture_start) ea_nil)) (spv_pure ⟨a, n, d, W, p, g.from_, rfl, hS.ex eG, hp, hu, rfl⟩)) fun H1 e1 => ?_
    refine s_ret (ev_andV (ev_neI (ev_var rfl) ev_c) fun _ => ev_op (ev_op (ev_var rfl) (ev_var rfl) rv_I0) (ev_fld (ev_var rfl) (e1 _ _ (eG _ _ hg0)) T.c_Departure T.n_Departure_leaves lDeparture_leaves) rv_I0) fun H2 e2 => bl_eq (k _ (e1.trans e2)) ?_
    unfold inTime
    cases e : rdy n p g.from_ with
    | none => rfl
    | some m =>
      have h1 : (!decide (Vbtoad.orNone (some m) = -1)) = true := by
        rw [decide_eq_false (show ¬ (Vbtoad.orNone (some m) = -1) from fun z => by
          have z2 : (m : Int) = -1 := z
          omega)]
        rfl
      rw [h1, Bool.true_and]
      show decide ((t : Int) + (m : Int) ≤ (g.dep : Int)) = decide (t + m ≤ g.dep)
      exact decide_eq_decide.mpr (by omega)
def sp_Sureness_sure (K : PySem.W.Frag) : Sp := PureSp fun vs G z => ∃ (a : Addr) (n : Vbtoad.Net) (d : Nat) (W : Tab) (kk t p : Nat), vs = [.ref a, .int (kk : Int), .int (t : Int), .int (p : Int)] ∧ SurP K G a n d W ∧ kk < 4 ∧ p < n.places.length ∧ z = .int (sureI n d (W.getD kk []) p t)
theorem sc_Sureness_sure : FnScope ["self", "k", "minute", "place", "found", "go", "worth"] ["self", "k", "minute", "place"] (defScope s_Sureness_sure) := ⟨rfl, rfl, rfl, by decide +kernel, rfl, by decide +kernel, by decide +kernel⟩
theorem ok_Sureness_sure {P : Program} {w : World} {K : PySem.W.Frag} {mg : Str → Option Value} {base : Heap} (T : Txt w K mg) : OkD P w K mg base CX0 4 (He.ma K (He.ga K "Sureness") "sure") ["self", "k", "minute", "place"] (sp_Sureness_sure K) := by
  obtain ⟨fd_Sureness_is_in_time, G_Sureness_is_in_time, B_Sureness_is_in_time, K_Sureness_is_in_time⟩ := ok_Sureness_is_in_time (P := P) (w := w) (base := base) T
  obtain ⟨fd_lesser, G_lesser, B_lesser, K_lesser⟩ := ok_lesser (P := P) (w := w) (base := base) T
  obtain ⟨fd_summed, G_summed, B_summed, K_summed⟩ := ok_summed (P := P) (w := w) (base := base) T
  obtain ⟨fd_Sureness_by_cars, G_Sureness_by_cars, B_Sureness_by_cars, K_Sureness_by_cars⟩ := ok_Sureness_by_cars (P := P) (w := w) (base := base) T
  obtain ⟨fd, F⟩ := T.f_Sureness_sure
  refine ⟨fd, F.ok sc_Sureness_sure (fun vs H Q E h => ?_) (fun cdv A outer s H vs Q E hr h => ?_), F.bindsN fun _ _ _ _ _ _ us hl => match us, hl with | [_, _, _, _], _ => rfl, F.kp⟩
  · obtain ⟨z, G, eG, ⟨a, n, d, W, kk, t, p, rfl, hS, hk, hp, rfl⟩, k⟩ := h
    rfl
  · refine ⟨_, PSs.nox (pss_cons (ps_if (pt_cmpR op_eq (pv 3) (pe_fld (pv 0) rfl) (nomark _)) (pss_one (ps_ret (pv 2))) pss_nil) (pss_cons (ps_set (i := 4) sc_Sureness_sure.nd rfl (Or.inl rfl) (pe_call G_summed (hr.mono (by decide)) rfl T.g_summed K_summed B_summed .nil pass0 (pa_cons (pe_meth (pv 0) T.c_Sureness T.m_Sureness_by_cars G_Sureness_by_cars (hr.mono (by decide)) B_Sureness_by_cars .nil pass0 (pa_cons (pv 3) pa_nil)) (pa_cons (pv 2) pa_nil)))) (pss_cons (ps_for PassesOwn.never rfl (pi_zip rfl T.b_zip (pa_cons (pe_fld (pe_fld (pv 0) rfl) rfl) (pa_cons (pe_ix ix_list (pe_fld (pv 0) rfl) (pv 1) (fun _ _ => rfl)) pa_nil))) (pg_tup rfl (pgs_cons (pg_name (i := 5) sc_Sureness_sure.nd rfl (Or.inl rfl)) (pgs_cons (pg_name (i := 6) sc_Sureness_sure.nd rfl (Or.inl rfl)) pgs_nil))) (pss_one (ps_if (pt_val (pe_meth (pv 0) T.c_Sureness T.m_Sureness_is_in_time G_Sureness_is_in_time (hr.mono (by decide)) B_Sureness_is_in_time .nil pass0 (pa_cons (pv 2) (pa_cons (pv 3) (pa_cons (pv 5) pa_nil))))) (pss_one (ps_set (i := 4) sc_Sureness_sure.nd rfl (Or.inl rfl) (pe_call G_lesser (hr.mono (by decide)) rfl T.g_lesser K_lesser B_lesser .nil pass0 (pa_cons (pv 4) (pa_cons (pv 6) pa_nil))))) pss_nil))) (pss_one (ps_ret (pv 4)))))), ?_⟩
    obtain ⟨z, G, eG, ⟨a, n, d, W, kk, t, p, rfl, hS, hk, hp, rfl⟩, k⟩ := h
    obtain ⟨⟨na, cm, wm, rows, wrows, ⟨dx, ho⟩, hnet, hcome, hwor⟩, ok, hd, wok⟩ := id hS
    obtain ⟨pl, cl, gl, ⟨dn, hno⟩, -, -, ⟨gs, hg1, hg2⟩⟩ := hnet
    refine q_when (et_test (ev_eqI (ev_var rfl) (ev_fld (ev_var rfl) (eG _ _ ho) T.c_Sureness T.n_Sureness_goal lSureness_goal))) (fun hc H1 e1 => ?_) (fun hc H1 e1 => ?_)
    · refine s_ret (ev_var rfl) fun H2 e2 => int_eq (k _ (e1.trans e2)) ?_
      have e : p = d := by have := of_decide_eq_true hc; omega
      unfold sureI
      rw [if_pos e]
    · have ne : ¬ p = d := by have := of_decide_eq_false hc; omega
      have eH1 := eG.trans e1
      refine q_asg (ev_call (ea_cons (ev_meth (ev_var rfl) (eH1 _ _ ho) lSureness_by_cars (ea_cons (ev_var rfl) ea_nil) (spv_pure ⟨a, n, d, W, p, rfl, hS.ex eH1, hp, rfl⟩)) (ea_cons (ev_var rfl) ea_nil)) (spv_pure ⟨_, _, rfl, rfl⟩)) fun H2 e2 => ?_
      have eH2 := eH1.trans e2
      have wsq : W.length = 4 := wok.len
      obtain ⟨wr, hw1, hw2, hw3⟩ : ∃ r, (wrows.map V.ref)[kk]? = some (.ref r) ∧ wrows[kk]? = some r ∧ G r = some (.lst ((W.getD kk []).map V.int)) := by
        have hl := hwor.len
        rw [show (tabV W).length = 4 by unfold tabV; rw [List.length_map, wsq]] at hl
        have hr : wrows[kk]? = some wrows[kk] := List.getElem?_eq_getElem (by omega)
        refine ⟨wrows[kk], by rw [List.getElem?_map, hr]; rfl, hr, hwor.row kk _ _ hr ?_⟩
        unfold tabV
        rw [List.getElem?_map, List.getElem?_eq_getElem (by omega), List.getD_eq_getElem?_getD, List.getElem?_eq_getElem (by omega)]
        rfl
      have lg : gs.length = n.goes.length := paired_len hg2
      refine q_forZ (a := gl) (b := wr) (xs := gs.map V.ref) (ys := (W.getD kk []).map V.int) (ea_cons (ev_fld (ev_fld (ev_var rfl) (eH2 _ _ ho) T.c_Sureness T.n_Sureness_net lSureness_net) (eH2 _ _ hno) T.c_Net T.n_Net_goes lNet_goes)
        (ea_cons (ev_ixL (ev_fld (ev_var rfl) (eH2 _ _ ho) T.c_Sureness T.n_Sureness_worths lSureness_worths) (ev_var rfl) (eH2 _ _ hwor.top) hw1) ea_nil)) (eH2 _ _ hg1) (eH2 _ _ hw3) (by rw [List.length_map, List.length_map, lg, wok.row kk hk])
        (fun i σ => ∃ x1 x2, σ = [some (.ref a), some (.int (kk : Int)), some (.int (t : Int)), some (.int (p : Int)), some (.int (((n.goes.zip (W.getD kk [])).take i).foldl (fun f x => if inTime n p t x.1 = true then mLess f x.2 else f) (mSum (Vbtoad.orNone (fwD n p d)) t))), x1, x2]) ⟨_, _, rfl⟩ ?_ ?_
      · rintro i x y σ' H' e' hx hy ⟨x1, x2, rfl⟩
        have eH' := eH2.trans e'
        rw [List.getElem?_map] at hx hy
        obtain ⟨ga, hga, rfl⟩ := Option.map_eq_some_iff.mp hx
        obtain ⟨wi, hwi, rfl⟩ := Option.map_eq_some_iff.mp hy
        obtain ⟨g, hg⟩ : ∃ g, n.goes[i]? = some g := ⟨_, List.getElem?_eq_getElem (by rw [← lg]; exact (List.getElem?_eq_some_iff.mp hga).1)⟩
        obtain ⟨ga', h0, hgo⟩ := paired_at hg2 hg
        rw [hga] at h0
        cases h0
        have og := ok.g g (List.mem_of_getElem? hg)
        have more : ((n.goes.zip (W.getD kk [])).take (i + 1)).foldl (fun f x => if inTime n p t x.1 = true then mLess f x.2 else f) (mSum (Vbtoad.orNone (fwD n p d)) t) = (fun f (x : Vbtoad.Go × Int) => if inTime n p t x.1 = true then mLess f x.2 else f) (((n.goes.zip (W.getD kk [])).take i).foldl (fun f x => if inTime n p t x.1 = true then mLess f x.2 else f) (mSum (Vbtoad.orNone (fwD n p d)) t)) (g, wi) := by
          rw [List.take_add_one, (List.getElem?_zip_eq_some (z := (g, wi))).mpr ⟨hg, hwi⟩, List.foldl_append]
          rfl
        refine s_when (b := inTime n p t g) (et_B (ev_meth (ev_var rfl) (eH' _ _ ho) lSureness_is_in_time (ea_cons (ev_var rfl) (ea_cons (ev_var rfl) (ea_cons (ev_var rfl) ea_nil))) (spv_pure ⟨a, n, d, W, t, p, ga, g, rfl, hS.ex eH', hp, og.fr, hgo.ex eH', rfl⟩))) (fun hi H3 e3 => ?_) (fun hi H3 e3 => ?_)
        · refine s_asg (ev_call (ea_cons (ev_var rfl) (ea_cons (ev_var rfl) ea_nil)) (spv_pure ⟨_, _, rfl, rfl⟩)) fun H4 e4 => ?_
          refine ⟨(e'.trans e3).trans e4, ⟨some (.ref ga), some (.int wi), ?_⟩⟩
          rw [more]
          simp only [hi, if_true]
          rfl
        · refine ⟨e'.trans e3, ⟨some (.ref ga), some (.int wi), ?_⟩⟩
          rw [more]
          simp only [hi, Bool.false_eq_true, if_false]
          rfl
      · rintro σ' H' e' ⟨x1, x2, rfl⟩
        refine s_ret (ev_var rfl) fun H3 e3 => int_eq (k _ (((e1.trans e2).trans e').trans e3)) ?_
        unfold sureI
        rw [if_neg ne, List.take_of_length_le (by rw [List.length_zip, List.length_map, lg]; omega)]
end SJ
/-! Worths, what to do. -/
namespace SJ
open PySem PySem.Spec PyProof.Rows L2 Evl
def sp_Sureness_if_it_goes (K : PySem.W.Frag) : Sp := PureSp fun vs G z => ∃ (a : Addr) (n : Vbtoad.Net) (d : Nat) (W : Tab) (kk : Nat) (ga : Addr) (g : Vbtoad.Go), vs = [.ref a, .int (kk : Int), .ref ga] ∧ SurP K G a n d W ∧ kk < 4 ∧ g.to_ < n.places.length ∧ GoAt K G ga g ∧ z = .int (goneI n d (W.getD kk []) g)
theorem sc_Sureness_if_it_goes : FnScope ["self", "k", "go"] ["self", "k", "go"] (defScope s_Sureness_if_it_goes) := ⟨rfl, rfl, rfl, by decide +kernel, rfl, by decide +kernel, by decide +kernel⟩
theorem ok_Sureness_if_it_goes {P : Program} {w : World} {K : PySem.W.Frag} {mg : Str → Option Value} {base : Heap} (T : Txt w K mg) : OkD P w K mg base CX0 5 (He.ma K (He.ga K "Sureness") "if_it_goes") ["self", "k", "go"] (sp_Sureness_if_it_goes K) := by
  obtain ⟨fd_Sureness_sure, G_Sureness_sure, B_Sureness_sure, K_Sureness_sure⟩ := ok_Sureness_sure (P := P) (w := w) (base := base) T
  obtain ⟨fd, F⟩ := T.f_Sureness_if_it_goes
  refine ⟨fd, F.ok sc_Sureness_if_it_goes (fun vs H Q E h => ?_) (fun cdv A outer s H vs Q E hr h => ?_), F.bindsN fun _ _ _ _ _ _ us hl => match us, hl with | [_, _, _], _ => rfl, F.kp⟩
  · obtain ⟨z, G, eG, ⟨a, n, d, W, kk, ga, g, rfl, hS, hk, hto, hg, rfl⟩, k⟩ := h
    rfl
  · refine ⟨_, PSs.nox (pss_cons (ps_if (pt_cmpR op_eq (pe_fld (pv 2) rfl) (pe_fld (pv 0) rfl) (nomark _)) (pss_one (ps_ret (pe_fld (pv 2) rfl))) pss_nil) (pss_one (ps_ret (pe_meth (pv 0) T.c_Sureness T.m_Sureness_sure G_Sureness_sure (hr.mono (by decide)) B_Sureness_sure .nil pass0 (pa_cons (pv 1) (pa_cons (pe_op op_add (pe_fld (pv 2) rfl) (pe_fld (pe_ix ix_list (pe_fld (pe_fld (pv 0) rfl) rfl) (pe_fld (pv 2) rfl) (fun _ _ => rfl)) rfl)) (pa_cons (pe_fld (pv 2) rfl) pa_nil))))))), ?_⟩
    obtain ⟨z, G, eG, ⟨a, n, d, W, kk, ga, g, rfl, hS, hk, hto, hg, rfl⟩, k⟩ := h
    obtain ⟨⟨na, cm, wm, rows, wrows, ⟨dx, ho⟩, hnet, hcome, hwor⟩, ok, hd, wok⟩ := id hS
    obtain ⟨dg, nm, hg0, -⟩ := hg
    have gto : ∀ {H1 : Hp} {x}, Ex H H1 → Ev (tFld K (tVar 2) "end") [some (.ref a), x, some (.ref ga)] H1 (.int (g.to_ : Int)) := fun e1 => ev_fld (ev_var rfl) (e1 _ _ (eG _ _ hg0)) T.c_Departure T.n_Departure_end lDeparture_end
    have gco : ∀ {H1 : Hp} {x}, Ex H H1 → Ev (tFld K (tVar 2) "comes") [some (.ref a), x, some (.ref ga)] H1 (.int (g.arr : Int)) := fun e1 => ev_fld (ev_var rfl) (e1 _ _ (eG _ _ hg0)) T.c_Departure T.n_Departure_comes lDeparture_comes
    refine q_when (et_test (ev_eqI (gto (Ex.refl H)) (ev_fld (ev_var rfl) (eG _ _ ho) T.c_Sureness T.n_Sureness_goal lSureness_goal))) (fun hc H1 e1 => ?_) (fun hc H1 e1 => ?_)
    · refine s_ret (gco e1) fun H2 e2 => int_eq (k _ (e1.trans e2)) ?_
      have e : g.to_ = d := by have := of_decide_eq_true hc; omega
      unfold goneI
      rw [if_pos e]
    · have ne : ¬ g.to_ = d := by have := of_decide_eq_false hc; omega
      have eH1 := eG.trans e1
      refine s_ret (ev_meth (ev_var rfl) (eH1 _ _ ho) lSureness_sure (ea_cons (ev_var rfl) (ea_cons (ev_op (gco e1) (ev_hand T (ev_fld (ev_var rfl) (eH1 _ _ ho) T.c_Sureness T.n_Sureness_net lSureness_net) (hnet.ex eH1) (gto e1) hto) rv_I0) (ea_cons (gto e1) ea_nil)))
        (spv_pure ⟨a, n, d, W, kk, g.arr + Vbtoad.handlingAt n g.to_, g.to_, by rw [Int.natCast_add]; rfl, hS.ex eH1, hk, hto, rfl⟩)) fun H2 e2 => int_eq (k _ (e1.trans e2)) ?_
      unfold goneI
      rw [if_neg ne]
def sp_Sureness_if_cancelled (K : PySem.W.Frag) : Sp := PureSp fun vs G z => ∃ (a : Addr) (n : Vbtoad.Net) (d : Nat) (W : Tab) (kk : Nat) (ga : Addr) (g : Vbtoad.Go), vs = [.ref a, .int ((kk + 1 : Nat) : Int), .ref ga] ∧ SurP K G a n d W ∧ kk < 4 ∧ g.from_ < n.places.length ∧ GoAt K G ga g ∧ z = .int (sureI n d (W.getD kk []) g.from_ (g.dep + 1))
theorem sc_Sureness_if_cancelled : FnScope ["self", "k", "go"] ["self", "k", "go"] (defScope s_Sureness_if_cancelled) := ⟨rfl, rfl, rfl, by decide +kernel, rfl, by decide +kernel, by decide +kernel⟩
theorem ok_Sureness_if_cancelled {P : Program} {w : World} {K : PySem.W.Frag} {mg : Str → Option Value} {base : Heap} (T : Txt w K mg) : OkD P w K mg base CX0 5 (He.ma K (He.ga K "Sureness") "if_cancelled") ["self", "k", "go"] (sp_Sureness_if_cancelled K) := by
  obtain ⟨fd_Sureness_sure, G_Sureness_sure, B_Sureness_sure, K_Sureness_sure⟩ := ok_Sureness_sure (P := P) (w := w) (base := base) T
  obtain ⟨fd, F⟩ := T.f_Sureness_if_cancelled
  refine ⟨fd, F.ok sc_Sureness_if_cancelled (fun vs H Q E h => ?_) (fun cdv A outer s H vs Q E hr h => ?_), F.bindsN fun _ _ _ _ _ _ us hl => match us, hl with | [_, _, _], _ => rfl, F.kp⟩
  · obtain ⟨z, G, eG, ⟨a, n, d, W, kk, ga, g, rfl, hS, hk, hfr, hg, rfl⟩, k⟩ := h
    rfl
  · refine ⟨_, PSs.nox (pss_one (ps_ret (pe_meth (pv 0) T.c_Sureness T.m_Sureness_sure G_Sureness_sure (hr.mono (by decide)) B_Sureness_sure .nil pass0 (pa_cons (pe_op op_sub (pv 1) pe_int) (pa_cons (pe_op op_add (pe_fld (pv 2) rfl) pe_int) (pa_cons (pe_fld (pv 2) rfl) pa_nil)))))), ?_⟩
    obtain ⟨z, G, eG, ⟨a, n, d, W, kk, ga, g, rfl, hS, hk, hfr, hg, rfl⟩, k⟩ := h
    obtain ⟨⟨na, cm, wm, rows, wrows, ⟨dx, ho⟩, hnet, hcome, hwor⟩, ok, hd, wok⟩ := id hS
    obtain ⟨dg, nm, hg0, -⟩ := hg
    refine s_ret (ev_meth (ev_var rfl) (eG _ _ ho) lSureness_sure (ea_cons (ev_op (ev_var rfl) ev_c rv_I0) (ea_cons (ev_op (ev_fld (ev_var rfl) (eG _ _ hg0) T.c_Departure T.n_Departure_leaves lDeparture_leaves) ev_c rv_I0) (ea_cons (ev_fld (ev_var rfl) (eG _ _ hg0) T.c_Departure T.n_Departure_start lDeparture_start) ea_nil)))
      (spv_pure ⟨a, n, d, W, kk, g.dep + 1, g.from_, ?_, hS.ex eG, hk, hfr, rfl⟩)) fun H2 e2 => k _ e2
    have e1 : (((kk + 1 : Nat) : Int) - 1) = (kk : Int) := by omega
    rw [e1, Int.natCast_add]
    rfl
def sp_Sureness_worth_of (K : PySem.W.Frag) : Sp := PureSp fun vs G z => ∃ (a : Addr) (n : Vbtoad.Net) (d : Nat) (W : Tab) (kk : Nat) (ga : Addr) (g : Vbtoad.Go), vs = [.ref a, .int (kk : Int), .ref ga] ∧ SurP K G a n d W ∧ kk < 4 ∧ g.from_ < n.places.length ∧ g.to_ < n.places.length ∧ GoAt K G ga g ∧ z = .int (worthI n d kk (W.getD kk []) (W.getD (kk - 1) []) g)
theorem sc_Sureness_worth_of : FnScope ["self", "k", "go"] ["self", "k", "go"] (defScope s_Sureness_worth_of) := ⟨rfl, rfl, rfl, by decide +kernel, rfl, by decide +kernel, by decide +kernel⟩
theorem ok_Sureness_worth_of {P : Program} {w : World} {K : PySem.W.Frag} {mg : Str → Option Value} {base : Heap} (T : Txt w K mg) : OkD P w K mg base CX0 6 (He.ma K (He.ga K "Sureness") "worth_of") ["self", "k", "go"] (sp_Sureness_worth_of K) := by
  obtain ⟨fd_greater, G_greater, B_greater, K_greater⟩ := ok_greater (P := P) (w := w) (base := base) T
  obtain ⟨fd_Sureness_if_cancelled, G_Sureness_if_cancelled, B_Sureness_if_cancelled, K_Sureness_if_cancelled⟩ := ok_Sureness_if_cancelled (P := P) (w := w) (base := base) T
  obtain ⟨fd_Sureness_if_it_goes, G_Sureness_if_it_goes, B_Sureness_if_it_goes, K_Sureness_if_it_goes⟩ := ok_Sureness_if_it_goes (P := P) (w := w) (base := base) T
  obtain ⟨fd, F⟩ := T.f_Sureness_worth_of
  refine ⟨fd, F.ok sc_Sureness_worth_of (fun vs H Q E h => ?_) (fun cdv A outer s H vs Q E hr h => ?_), F.bindsN fun _ _ _ _ _ _ us hl => match us, hl with | [_, _, _], _ => rfl, F.kp⟩
  · obtain ⟨z, G, eG, ⟨a, n, d, W, kk, ga, g, rfl, hS, hk, hfr, hto, hg, rfl⟩, k⟩ := h
    rfl
  · refine ⟨_, PSs.nox (pss_cons (ps_if (pt_cmpR op_eq (pv 1) pe_int (nomark _)) (pss_one (ps_ret (pe_meth (pv 0) T.c_Sureness T.m_Sureness_if_it_goes G_Sureness_if_it_goes (hr.mono (by decide)) B_Sureness_if_it_goes .nil pass0 (pa_cons (pv 1) (pa_cons (pv 2) pa_nil))))) pss_nil) (pss_one (ps_ret (pe_call G_greater (hr.mono (by decide)) rfl T.g_greater K_greater B_greater .nil pass0 (pa_cons (pe_meth (pv 0) T.c_Sureness T.m_Sureness_if_it_goes G_Sureness_if_it_goes (hr.mono (by decide)) B_Sureness_if_it_goes .nil pass0 (pa_cons (pv 1) (pa_cons (pv 2) pa_nil))) (pa_cons (pe_meth (pv 0) T.c_Sureness T.m_Sureness_if_cancelled G_Sureness_if_cancelled (hr.mono (by decide)) B_Sureness_if_cancelled .nil pass0 (pa_cons (pv 1) (pa_cons (pv 2) pa_nil))) pa_nil)))))), ?_⟩
    obtain ⟨z, G, eG, ⟨a, n, d, W, kk, ga, g, rfl, hS, hk, hfr, hto, hg, rfl⟩, k⟩ := h
    obtain ⟨⟨na, cm, wm, rows, wrows, ⟨dx, ho⟩, hnet, hcome, hwor⟩, ok, hd, wok⟩ := id hS
    refine q_when (et_test (ev_eqI (ev_var rfl) ev_c)) (fun hc H1 e1 => ?_) (fun hc H1 e1 => ?_)
    · refine s_ret (ev_meth (ev_var rfl) (e1 _ _ (eG _ _ ho)) lSureness_if_it_goes (ea_cons (ev_var rfl) (ea_cons (ev_var rfl) ea_nil)) (spv_pure ⟨a, n, d, W, kk, ga, g, rfl, hS.ex (eG.trans e1), hk, hto, hg.ex (eG.trans e1), rfl⟩)) fun H2 e2 => int_eq (k _ (e1.trans e2)) ?_
      have e : kk = 0 := by have := of_decide_eq_true hc; omega
      unfold worthI
      rw [if_pos e]
    · have ne : ¬ kk = 0 := by have := of_decide_eq_false hc; omega
      have eH1 := eG.trans e1
      refine s_ret (ev_call (ea_cons (ev_meth (ev_var rfl) (eH1 _ _ ho) lSureness_if_it_goes (ea_cons (ev_var rfl) (ea_cons (ev_var rfl) ea_nil)) (spv_pure ⟨a, n, d, W, kk, ga, g, rfl, hS.ex eH1, hk, hto, hg.ex eH1, rfl⟩))
        (ea_cons (ev_meth (ev_var rfl) (eH1 _ _ ho) lSureness_if_cancelled (ea_cons (ev_var rfl) (ea_cons (ev_var rfl) ea_nil)) (spv_pure ⟨a, n, d, W, kk - 1, ga, g, by rw [show kk - 1 + 1 = kk by omega]; rfl, hS.ex eH1, by omega, hfr, hg.ex eH1, rfl⟩)) ea_nil)) (spv_pure ⟨_, _, rfl, rfl⟩)) fun H2 e2 => int_eq (k _ (e1.trans e2)) ?_
      unfold worthI
      rw [if_neg ne]
def sp_Sureness_car_to_goal (K : PySem.W.Frag) : Sp := PureSp fun vs G z => ∃ (a : Addr) (n : Vbtoad.Net) (d : Nat) (W : Tab) (p : Nat), vs = [.ref a, .int (p : Int)] ∧ SurP K G a n d W ∧ p < n.places.length ∧ z = .int (idxI (isGoalCar n d p) n.cars)
theorem nat_dec (x y : Nat) : decide ((x : Int) = (y : Int)) = (x == y) := by
  by_cases e : x = y
  · rw [e]
    simp
  · rw [decide_eq_false (show ¬ ((x : Int) = (y : Int)) by omega)]
    simp [e]
theorem sc_Sureness_car_to_goal : FnScope ["self", "place", "number", "car", "long"] ["self", "place"] (defScope s_Sureness_car_to_goal) := ⟨rfl, rfl, rfl, by decide +kernel, rfl, by decide +kernel, by decide +kernel⟩
theorem ok_Sureness_car_to_goal {P : Program} {w : World} {K : PySem.W.Frag} {mg : Str → Option Value} {base : Heap} (T : Txt w K mg) : OkD P w K mg base CX0 2 (He.ma K (He.ga K "Sureness") "car_to_goal") ["self", "place"] (sp_Sureness_car_to_goal K) := by
  obtain ⟨fd_Sureness_by_cars, G_Sureness_by_cars, B_Sureness_by_cars, K_Sureness_by_cars⟩ := ok_Sureness_by_cars (P := P) (w := w) (base := base) T
  obtain ⟨fd_summed, G_summed, B_summed, K_summed⟩ := ok_summed (P := P) (w := w) (base := base) T
  obtain ⟨fd, F⟩ := T.f_Sureness_car_to_goal
  refine ⟨fd, F.ok sc_Sureness_car_to_goal (fun vs H Q E h => ?_) (fun cdv A outer s H vs Q E hr h => ?_), F.bindsN fun _ _ _ _ _ _ us hl => match us, hl with | [_, _], _ => rfl, F.kp⟩
  · obtain ⟨z, G, eG, ⟨a, n, d, W, p, rfl, hS, hp, rfl⟩, k⟩ := h
    rfl
  · refine ⟨_, PSs.nox (pss_cons (ps_for PassesOwn.never rfl (pi_enum rfl T.b_enumerate (pa_cons (pe_fld (pe_fld (pv 0) rfl) rfl) pa_nil)) (pg_tup rfl (pgs_cons (pg_name (i := 2) sc_Sureness_car_to_goal.nd rfl (Or.inl rfl)) (pgs_cons (pg_name (i := 3) sc_Sureness_car_to_goal.nd rfl (Or.inl rfl)) pgs_nil))) (pss_cons (ps_set (i := 4) sc_Sureness_car_to_goal.nd rfl (Or.inl rfl) (pe_fld (pv 3) rfl)) (pss_cons (ps_if (pt_cmpR op_ne (pe_fld (pv 3) rfl) (pe_fld (pv 0) rfl) (nomark _)) (pss_one (ps_set (i := 4) sc_Sureness_car_to_goal.nd rfl (Or.inl rfl) (pe_call G_summed (hr.mono (by decide)) rfl T.g_summed K_summed B_summed .nil pass0 (pa_cons (pe_op op_add (pe_fld (pv 3) rfl) (pe_fld (pe_ix ix_list (pe_fld (pe_fld (pv 0) rfl) rfl) (pe_fld (pv 3) rfl) (fun _ _ => rfl)) rfl)) (pa_cons (pe_meth (pv 0) T.c_Sureness T.m_Sureness_by_cars G_Sureness_by_cars (hr.mono (by decide)) B_Sureness_by_cars .nil pass0 (pa_cons (pe_fld (pv 3) rfl) pa_nil)) pa_nil))))) pss_nil) (pss_one (ps_if (PW.pt (pw_and (pt_cmpR op_eq (pe_fld (pv 3) rfl) (pv 1) (nomark _)) (pw_and1 (pt_cmpR op_eq (pv 4) (pe_meth (pv 0) T.c_Sureness T.m_Sureness_by_cars G_Sureness_by_cars (hr.mono (by decide)) B_Sureness_by_cars .nil pass0 (pa_cons (pv 1) pa_nil)) (nomark _))))) (pss_one (ps_ret (pv 2))) pss_nil))))) (pss_one (ps_ret (pe_gint T.i_NONE)))), ?_⟩
    obtain ⟨z, G, eG, ⟨a, n, d, W, p, rfl, hS, hp, rfl⟩, k⟩ := h
    obtain ⟨⟨na, cm, wm, rows, wrows, ⟨dx, ho⟩, hnet, hcome, hwor⟩, ok, hd, wok⟩ := id hS
    obtain ⟨pl, cl, gl, ⟨dn, hno⟩, -, ⟨cs, hc1, hc2⟩, -⟩ := id hnet
    have lc : cs.length = n.cars.length := paired_len hc2
    refine q_forE (a := cl) (xs := cs.map V.ref) (ea_cons (ev_fld (ev_fld (ev_var rfl) (eG _ _ ho) T.c_Sureness T.n_Sureness_net lSureness_net) (eG _ _ hno) T.c_Net T.n_Net_cars lNet_cars) ea_nil) (eG _ _ hc1)
      (fun i σ => (∃ x1 x2 x3, σ = [some (.ref a), some (.int (p : Int)), x1, x2, x3]) ∧ ∀ (m : Nat) (y : Vbtoad.Car), m < i → n.cars[m]? = some y → isGoalCar n d p y = false) ⟨⟨_, _, _, rfl⟩, fun m y hm => absurd hm (by omega)⟩ ?_ ?_
    · rintro i x σ' H' e' hx ⟨⟨x1, x2, x3, rfl⟩, hW⟩
      have eH := eG.trans e'
      rw [List.getElem?_map] at hx
      obtain ⟨ca, hca, rfl⟩ := Option.map_eq_some_iff.mp hx
      obtain ⟨c, hc⟩ : ∃ c, n.cars[i]? = some c := ⟨_, List.getElem?_eq_getElem (by rw [← lc]; exact (List.getElem?_eq_some_iff.mp hca).1)⟩
      obtain ⟨ca', h0, dc, nm, h1, _⟩ := paired_at hc2 hc
      rw [hca] at h0
      cases h0
      have oc := ok.c c (List.mem_of_getElem? hc)
      have fin : ∀ {H3 : Hp} {y3}, Ex H' H3 → y3 = some (V.int (goalLong n d c)) → tIfS (tAnd (tTest (tOp rEq (tFld K (tVar 3) "start") (tVar 1))) (tTest (tOp rEq (tVar 4) (tMeth (cSur K) "by_cars" (sp_Sureness_by_cars K) [] E0 (tVar 0) (tCons (tVar 1) tNil))))) (tRet (tVar 2)) tNext
          { nx := fun σ2 H2 => Ex H H2 ∧ (∃ x1 x2 x3, σ2 = [some (.ref a), some (.int (p : Int)), x1, x2, x3]) ∧ ∀ (m : Nat) (y : Vbtoad.Car), m < i + 1 → n.cars[m]? = some y → isGoalCar n d p y = false, ct := fun σ2 H2 => Ex H H2 ∧ (∃ x1 x2 x3, σ2 = [some (.ref a), some (.int (p : Int)), x1, x2, x3]) ∧ ∀ (m : Nat) (y : Vbtoad.Car), m < i + 1 → n.cars[m]? = some y → isGoalCar n d p y = false, rt := Q, bk := fun σ H => tRet (tC (.int (-1))) { nx := fun _ H' => Q .non H', rt := Q } σ H }
          [some (.ref a), some (.int (p : Int)), some (.int (i : Int)), some (.ref ca), y3] H3 := fun {H3 y3} e3 hy => by
        subst hy
        have eH3 := eH.trans e3
        refine s_when (b := isGoalCar n d p c) (et_is (et_and (et_test (ev_eqI (ev_fld (ev_var rfl) (eH3 _ _ h1) T.c_Car T.n_Car_start lCar_start) (ev_var rfl))) fun _ => et_test (ev_eqI (ev_var rfl) (ev_meth (ev_var rfl) (eH3 _ _ ho) lSureness_by_cars (ea_cons (ev_var rfl) ea_nil) (spv_pure ⟨a, n, d, W, p, rfl, hS.ex eH3, hp, rfl⟩)))) ?_) (fun hb H4 e4 => ?_) (fun hb H4 e4 => ?_)
        · rw [nat_dec]
          rfl
        · exact s_ret (ev_var rfl) fun H5 e5 => int_eq (k _ ((e'.trans e3).trans (e4.trans e5))) (idxI_hit hc hb hW).symm
        · refine ⟨e'.trans (e3.trans e4), ⟨_, _, _, rfl⟩, fun m y hm hz => ?_⟩
          by_cases e : m = i
          · rw [e, hc] at hz
            cases hz
            exact hb
          · exact hW m y (by omega) hz
      refine q_asg (ev_fld (ev_var rfl) (eH _ _ h1) T.c_Car T.n_Car_long lCar_long) fun H1 e1 => ?_
      refine q_when (et_test (ev_neI (ev_fld (ev_var rfl) (e1 _ _ (eH _ _ h1)) T.c_Car T.n_Car_end lCar_end) (ev_fld (ev_var rfl) (e1 _ _ (eH _ _ ho)) T.c_Sureness T.n_Sureness_goal lSureness_goal))) (fun hb H2 e2 => ?_) (fun hb H2 e2 => ?_)
      · have ne : ¬ c.to_ = d := fun z => by
          rw [z, decide_eq_true rfl] at hb
          cases hb
        have eH2 := (eH.trans e1).trans e2
        refine s_asg (ev_call (ea_cons (ev_op (ev_fld (ev_var rfl) (eH2 _ _ h1) T.c_Car T.n_Car_long lCar_long) (ev_hand T (ev_fld (ev_var rfl) (eH2 _ _ ho) T.c_Sureness T.n_Sureness_net lSureness_net) (hnet.ex eH2) (ev_fld (ev_var rfl) (eH2 _ _ h1) T.c_Car T.n_Car_end lCar_end) oc.to) rv_I0)
          (ea_cons (ev_meth (ev_var rfl) (eH2 _ _ ho) lSureness_by_cars (ea_cons (ev_fld (ev_var rfl) (eH2 _ _ h1) T.c_Car T.n_Car_end lCar_end) ea_nil) (spv_pure ⟨a, n, d, W, c.to_, rfl, hS.ex eH2, oc.to, rfl⟩)) ea_nil)) (spv_pure ⟨_, _, rfl, rfl⟩)) fun H3 e3 => ?_
        refine fin ((e1.trans e2).trans e3) ?_
        unfold goalLong
        rw [if_neg ne, Int.natCast_add]
      · have e : c.to_ = d := by
          have z : decide ((c.to_ : Int) = (d : Int)) = true := by simpa using hb
          have := of_decide_eq_true z
          omega
        refine fin (e1.trans e2) ?_
        unfold goalLong
        rw [if_pos e]
    · rintro σ' H' e' ⟨_, hW⟩
      refine s_ret ev_c fun H2 e2 => int_eq (k _ (e'.trans e2)) (idxI_miss fun m y hy => hW m y ?_ hy).symm
      rw [List.length_map, lc]
      exact (List.getElem?_eq_some_iff.mp hy).1
end SJ
/-! What to do. -/
namespace SJ
open PySem PySem.Spec PyProof.Rows L2 Evl
def sp_Sureness_car_to_ready (K : PySem.W.Frag) : Sp := PureSp fun vs G z => ∃ (a : Addr) (n : Vbtoad.Net) (d : Nat) (W : Tab) (p u : Nat), vs = [.ref a, .int (p : Int), .int (u : Int)] ∧ SurP K G a n d W ∧ p < n.places.length ∧ u < n.places.length ∧ z = .int (idxI (isReadyCar n u p) n.cars)
theorem sc_Sureness_car_to_ready : FnScope ["self", "place", "other", "number", "car", "long"] ["self", "place", "other"] (defScope s_Sureness_car_to_ready) := ⟨rfl, rfl, rfl, by decide +kernel, rfl, by decide +kernel, by decide +kernel⟩
theorem ok_Sureness_car_to_ready {P : Program} {w : World} {K : PySem.W.Frag} {mg : Str → Option Value} {base : Heap} (T : Txt w K mg) : OkD P w K mg base CX0 3 (He.ma K (He.ga K "Sureness") "car_to_ready") ["self", "place", "other"] (sp_Sureness_car_to_ready K) := by
  obtain ⟨fd_Sureness_ready_in, G_Sureness_ready_in, B_Sureness_ready_in, K_Sureness_ready_in⟩ := ok_Sureness_ready_in (P := P) (w := w) (base := base) T
  obtain ⟨fd_summed, G_summed, B_summed, K_summed⟩ := ok_summed (P := P) (w := w) (base := base) T
  obtain ⟨fd, F⟩ := T.f_Sureness_car_to_ready
  refine ⟨fd, F.ok sc_Sureness_car_to_ready (fun vs H Q E h => ?_) (fun cdv A outer s H vs Q E hr h => ?_), F.bindsN fun _ _ _ _ _ _ us hl => match us, hl with | [_, _, _], _ => rfl, F.kp⟩
  · obtain ⟨z, G, eG, ⟨a, n, d, W, p, u, rfl, hS, hp, hu, rfl⟩, k⟩ := h
    rfl
  · refine ⟨_, PSs.nox (pss_cons (ps_for PassesOwn.never rfl (pi_enum rfl T.b_enumerate (pa_cons (pe_fld (pe_fld (pv 0) rfl) rfl) pa_nil)) (pg_tup rfl (pgs_cons (pg_name (i := 3) sc_Sureness_car_to_ready.nd rfl (Or.inl rfl)) (pgs_cons (pg_name (i := 4) sc_Sureness_car_to_ready.nd rfl (Or.inl rfl)) pgs_nil))) (pss_cons (ps_set (i := 5) sc_Sureness_car_to_ready.nd rfl (Or.inl rfl) (pe_call G_summed (hr.mono (by decide)) rfl T.g_summed K_summed B_summed .nil pass0 (pa_cons (pe_op op_add (pe_fld (pv 4) rfl) (pe_fld (pe_ix ix_list (pe_fld (pe_fld (pv 0) rfl) rfl) (pe_fld (pv 4) rfl) (fun _ _ => rfl)) rfl)) (pa_cons (pe_meth (pv 0) T.c_Sureness T.m_Sureness_ready_in G_Sureness_ready_in (hr.mono (by decide)) B_Sureness_ready_in .nil pass0 (pa_cons (pe_fld (pv 4) rfl) (pa_cons (pv 2) pa_nil))) pa_nil)))) (pss_one (ps_if (PW.pt (pw_and (pt_cmpR op_eq (pe_fld (pv 4) rfl) (pv 1) (nomark _)) (pw_and1 (pt_cmpR op_eq (pv 5) (pe_meth (pv 0) T.c_Sureness T.m_Sureness_ready_in G_Sureness_ready_in (hr.mono (by decide)) B_Sureness_ready_in .nil pass0 (pa_cons (pv 1) (pa_cons (pv 2) pa_nil))) (nomark _))))) (pss_one (ps_ret (pv 3))) pss_nil)))) (pss_one (ps_ret (pe_gint T.i_NONE)))), ?_⟩
    obtain ⟨z, G, eG, ⟨a, n, d, W, p, u, rfl, hS, hp, hu, rfl⟩, k⟩ := h
    obtain ⟨⟨na, cm, wm, rows, wrows, ⟨dx, ho⟩, hnet, hcome, hwor⟩, ok, hd, wok⟩ := id hS
    obtain ⟨pl, cl, gl, ⟨dn, hno⟩, -, ⟨cs, hc1, hc2⟩, -⟩ := id hnet
    have lc : cs.length = n.cars.length := paired_len hc2
    refine q_forE (a := cl) (xs := cs.map V.ref) (ea_cons (ev_fld (ev_fld (ev_var rfl) (eG _ _ ho) T.c_Sureness T.n_Sureness_net lSureness_net) (eG _ _ hno) T.c_Net T.n_Net_cars lNet_cars) ea_nil) (eG _ _ hc1)
      (fun i σ => (∃ x1 x2 x3, σ = [some (.ref a), some (.int (p : Int)), some (.int (u : Int)), x1, x2, x3]) ∧ ∀ (m : Nat) (y : Vbtoad.Car), m < i → n.cars[m]? = some y → isReadyCar n u p y = false) ⟨⟨_, _, _, rfl⟩, fun m y hm => absurd hm (by omega)⟩ ?_ ?_
    · rintro i x σ' H' e' hx ⟨⟨x1, x2, x3, rfl⟩, hW⟩
      have eH := eG.trans e'
      rw [List.getElem?_map] at hx
      obtain ⟨ca, hca, rfl⟩ := Option.map_eq_some_iff.mp hx
      obtain ⟨c, hc⟩ : ∃ c, n.cars[i]? = some c := ⟨_, List.getElem?_eq_getElem (by rw [← lc]; exact (List.getElem?_eq_some_iff.mp hca).1)⟩
      obtain ⟨ca', h0, dc, nm, h1, _⟩ := paired_at hc2 hc
      rw [hca] at h0
      cases h0
      have oc := ok.c c (List.mem_of_getElem? hc)
      have cend : Ev (tFld K (tVar 4) "end") [some (.ref a), some (.int (p : Int)), some (.int (u : Int)), some (.int (i : Int)), some (.ref ca), x3] H' (.int (c.to_ : Int)) := ev_fld (ev_var rfl) (eH _ _ h1) T.c_Car T.n_Car_end lCar_end
      refine q_asg (v := .int (readyLong n u c)) (ev_is (ev_call (ea_cons (ev_op (ev_fld (ev_var rfl) (eH _ _ h1) T.c_Car T.n_Car_long lCar_long) (ev_hand T (ev_fld (ev_var rfl) (eH _ _ ho) T.c_Sureness T.n_Sureness_net lSureness_net) (hnet.ex eH) cend oc.to) rv_I0)
          (ea_cons (ev_meth (ev_var rfl) (eH _ _ ho) lSureness_ready_in (ea_cons cend (ea_cons (ev_var rfl) ea_nil)) (spv_pure ⟨a, n, d, W, c.to_, u, rfl, hS.ex eH, oc.to, hu, rfl⟩)) ea_nil)) (spv_pure ⟨_, _, rfl, rfl⟩)) (by unfold readyLong; rw [Int.natCast_add])) fun H3 e3 => ?_
      have eH3 := eH.trans e3
      refine s_when (b := isReadyCar n u p c) (et_is (et_and (et_test (ev_eqI (ev_fld (ev_var rfl) (eH3 _ _ h1) T.c_Car T.n_Car_start lCar_start) (ev_var rfl))) fun _ => et_test (ev_eqI (ev_var rfl) (ev_meth (ev_var rfl) (eH3 _ _ ho) lSureness_ready_in (ea_cons (ev_var rfl) (ea_cons (ev_var rfl) ea_nil)) (spv_pure ⟨a, n, d, W, p, u, rfl, hS.ex eH3, hp, hu, rfl⟩)))) ?_) (fun hb H4 e4 => ?_) (fun hb H4 e4 => ?_)
      · rw [nat_dec]
        rfl
      · exact s_ret (ev_var rfl) fun H5 e5 => int_eq (k _ ((e'.trans e3).trans (e4.trans e5))) (idxI_hit hc hb hW).symm
      · refine ⟨e'.trans (e3.trans e4), ⟨_, _, _, rfl⟩, fun m y hm hz => ?_⟩
        by_cases e : m = i
        · rw [e, hc] at hz
          cases hz
          exact hb
        · exact hW m y (by omega) hz
    · rintro σ' H' e' ⟨_, hW⟩
      refine s_ret ev_c fun H2 e2 => int_eq (k _ (e'.trans e2)) (idxI_miss fun m y hy => hW m y ?_ hy).symm
      rw [List.length_map, lc]
      exact (List.getElem?_eq_some_iff.mp hy).1
/-- the k-th row of worths -/
theorem SurIs.wrow {K : PySem.W.Frag} {H : Hp} {a na cm wm : Addr} {rows wrows : List Addr} {n : Vbtoad.Net} {d : Nat} {W : Tab} (h : SurIs K H a na cm wm rows wrows n d W) (ok : WorOk n W) {kk : Nat} (hk : kk < 4) :
    ∃ r, (wrows.map V.ref)[kk]? = some (.ref r) ∧ wrows[kk]? = some r ∧ H r = some (.lst ((W.getD kk []).map V.int)) := by
  have wsq := ok.len
  have hl := h.wor.len
  rw [show (tabV W).length = 4 by unfold tabV; rw [List.length_map, wsq]] at hl
  have hr : wrows[kk]? = some wrows[kk] := List.getElem?_eq_getElem (by omega)
  refine ⟨wrows[kk], by rw [List.getElem?_map, hr]; rfl, hr, h.wor.row kk _ _ hr ?_⟩
  unfold tabV
  rw [List.getElem?_map, List.getElem?_eq_getElem (by omega), List.getD_eq_getElem?_getD, List.getElem?_eq_getElem (by omega)]
  rfl
section
variable {n : Vbtoad.Net} {ws : List Int} {p t i j : Nat} {sv : Int} {g : Vbtoad.Go} {b : Option Nat}
theorem firstStep_miss (hg : n.goes[i]? = some g) (h : (decide ((ws.getD i (-1)) = sv) && inTime n p t g) = false) : firstStep n ws p t sv b i = b := by
  unfold firstStep
  rw [hg]
  exact if_neg (by rw [Option.any_some, h]; decide)
theorem firstStep_none (hg : n.goes[i]? = some g) (h : (decide ((ws.getD i (-1)) = sv) && inTime n p t g) = true) : firstStep n ws p t sv none i = some i := by
  unfold firstStep
  rw [hg]
  exact if_pos h
theorem firstStep_lt (hg : n.goes[i]? = some g) (h : (decide ((ws.getD i (-1)) = sv) && inTime n p t g) = true) (l : depOf n i < depOf n j) : firstStep n ws p t sv (some j) i = some i := by
  unfold firstStep
  rw [hg]
  exact (if_pos h).trans (if_pos l)
theorem firstStep_ge (hg : n.goes[i]? = some g) (h : (decide ((ws.getD i (-1)) = sv) && inTime n p t g) = true) (l : ¬ depOf n i < depOf n j) : firstStep n ws p t sv (some j) i = some j := by
  unfold firstStep
  rw [hg]
  exact (if_pos h).trans (if_neg l)
end
def sp_Sureness_first_going (K : PySem.W.Frag) : Sp := PureSp fun vs G z => ∃ (a : Addr) (n : Vbtoad.Net) (d : Nat) (W : Tab) (kk t p : Nat) (s : Int), vs = [.ref a, .int (kk : Int), .int (t : Int), .int (p : Int), .int s] ∧ SurP K G a n d W ∧ kk < 4 ∧ p < n.places.length ∧ z = .int (Vbtoad.orNone (firstO n (W.getD kk []) p t s))
theorem sc_Sureness_first_going : FnScope ["self", "k", "minute", "place", "sure", "found", "number", "go"] ["self", "k", "minute", "place", "sure"] (defScope s_Sureness_first_going) := ⟨rfl, rfl, rfl, by decide +kernel, rfl, by decide +kernel, by decide +kernel⟩
theorem ok_Sureness_first_going {P : Program} {w : World} {K : PySem.W.Frag} {mg : Str → Option Value} {base : Heap} (T : Txt w K mg) : OkD P w K mg base CX0 4 (He.ma K (He.ga K "Sureness") "first_going") ["self", "k", "minute", "place", "sure"] (sp_Sureness_first_going K) := by
  obtain ⟨fd_Sureness_is_in_time, G_Sureness_is_in_time, B_Sureness_is_in_time, K_Sureness_is_in_time⟩ := ok_Sureness_is_in_time (P := P) (w := w) (base := base) T
  obtain ⟨fd, F⟩ := T.f_Sureness_first_going
  refine ⟨fd, F.ok sc_Sureness_first_going (fun vs H Q E h => ?_) (fun cdv A outer s H vs Q E hr h => ?_), F.bindsN fun _ _ _ _ _ _ us hl => match us, hl with | [_, _, _, _, _], _ => rfl, F.kp⟩
  · obtain ⟨z, G, eG, ⟨a, n, d, W, kk, t, p, sv, rfl, hS, hk, hp, rfl⟩, k⟩ := h
    rfl
  · refine ⟨_, PSs.nox (pss_cons (ps_set (i := 5) sc_Sureness_first_going.nd rfl (Or.inl rfl) (pe_gint T.i_NONE)) (pss_cons (ps_for PassesOwn.never rfl (pi_enum rfl T.b_enumerate (pa_cons (pe_fld (pe_fld (pv 0) rfl) rfl) pa_nil)) (pg_tup rfl (pgs_cons (pg_name (i := 6) sc_Sureness_first_going.nd rfl (Or.inl rfl)) (pgs_cons (pg_name (i := 7) sc_Sureness_first_going.nd rfl (Or.inl rfl)) pgs_nil))) (pss_one (ps_if (PW.pt (pw_and (pt_cmpR op_eq (pe_ix ix_list (pe_ix ix_list (pe_fld (pv 0) rfl) (pv 1) (fun _ _ => rfl)) (pv 6) (fun _ _ => rfl)) (pv 4) (nomark _)) (pw_and1 (pt_val (pe_meth (pv 0) T.c_Sureness T.m_Sureness_is_in_time G_Sureness_is_in_time (hr.mono (by decide)) B_Sureness_is_in_time .nil pass0 (pa_cons (pv 2) (pa_cons (pv 3) (pa_cons (pv 7) pa_nil)))))))) (pss_one (ps_if (PW.pt (pw_or (pt_cmpR op_eq (pv 5) (pe_gint T.i_NONE) (nomark _)) (pw_or1 (pt_cmpR op_lt (pe_fld (pv 7) rfl) (pe_fld (pe_ix ix_list (pe_fld (pe_fld (pv 0) rfl) rfl) (pv 5) (fun _ _ => rfl)) rfl) (nomark _))))) (pss_one (ps_set (i := 5) sc_Sureness_first_going.nd rfl (Or.inl rfl) (pv 6))) pss_nil)) pss_nil))) (pss_one (ps_ret (pv 5))))), ?_⟩
    obtain ⟨z, G, eG, ⟨a, n, d, W, kk, t, p, sv, rfl, hS, hk, hp, rfl⟩, k⟩ := h
    obtain ⟨⟨na, cm, wm, rows, wrows, hI⟩, ok, hd, wok⟩ := id hS
    obtain ⟨wr, hw1, hw2, hw3⟩ := hI.wrow wok hk
    obtain ⟨⟨dx, ho⟩, hnet, hcome, hwor⟩ := hI
    obtain ⟨pl, cl, gl, ⟨dn, hno⟩, -, -, ⟨gs, hg1, hg2⟩⟩ := id hnet
    have lg : gs.length = n.goes.length := paired_len hg2
    have goes : ∀ {H1 : Hp} {y : List (Option V)}, Ex G H1 → Ev (tFld K (tFld K (tVar 0) "net") "goes") (some (.ref a) :: y) H1 (.ref gl) := fun e1 => ev_fld (ev_fld (ev_var rfl) (e1 _ _ ho) T.c_Sureness T.n_Sureness_net lSureness_net) (e1 _ _ hno) T.c_Net T.n_Net_goes lNet_goes
    refine q_asg ev_c fun H1 e1 => ?_
    have eH1 := eG.trans e1
    refine q_forE (a := gl) (xs := gs.map V.ref) (ea_cons (goes eH1) ea_nil) (eH1 _ _ hg1)
      (fun i σ => (∃ x1 x2, σ = [some (.ref a), some (.int (kk : Int)), some (.int (t : Int)), some (.int (p : Int)), some (.int sv), some (.int (Vbtoad.orNone ((List.range i).foldl (firstStep n (W.getD kk []) p t sv) none))), x1, x2]) ∧ ∀ j, (List.range i).foldl (firstStep n (W.getD kk []) p t sv) none = some j → j < n.goes.length) ⟨⟨_, _, rfl⟩, fun j hj => by cases hj⟩ ?_ ?_
    · rintro i x σ' H' e' hx ⟨⟨x1, x2, rfl⟩, hW⟩
      have eH := eH1.trans e'
      rw [List.getElem?_map] at hx
      obtain ⟨ga, hga, rfl⟩ := Option.map_eq_some_iff.mp hx
      have hi : i < n.goes.length := by rw [← lg]; exact (List.getElem?_eq_some_iff.mp hga).1
      obtain ⟨g, hg⟩ : ∃ g, n.goes[i]? = some g := ⟨_, List.getElem?_eq_getElem hi⟩
      obtain ⟨ga', h0, hgo⟩ := paired_at hg2 hg
      rw [hga] at h0
      cases h0
      obtain ⟨dg, nm, hg0, _⟩ := id hgo
      have og := ok.g g (List.mem_of_getElem? hg)
      rw [fold_more]
      generalize (List.range i).foldl (firstStep n (W.getD kk []) p t sv) none = b at hW
      have wcell : ((W.getD kk []).map V.int)[i]? = some (.int ((W.getD kk []).getD i (-1))) := by
        rw [List.getElem?_map, List.getD_eq_getElem?_getD (l := W.getD kk []), List.getElem?_eq_getElem (by rw [wok.row kk hk]; exact hi)]
        rfl
      have di : depOf n i = g.dep := by
        unfold depOf
        rw [hg]
        rfl
      refine s_when (b := decide (((W.getD kk []).getD i (-1)) = sv) && inTime n p t g) (et_and (et_test (ev_eqI (ev_ixL (ev_ixL (ev_fld (ev_var rfl) (eH _ _ ho) T.c_Sureness T.n_Sureness_worths lSureness_worths) (ev_var rfl) (eH _ _ hwor.top) hw1) (ev_var rfl) (eH _ _ hw3) wcell) (ev_var rfl))) fun _ =>
        et_B (ev_meth (ev_var rfl) (eH _ _ ho) lSureness_is_in_time (ea_cons (ev_var rfl) (ea_cons (ev_var rfl) (ea_cons (ev_var rfl) ea_nil))) (spv_pure ⟨a, n, d, W, t, p, ga, g, rfl, hS.ex eH, hp, og.fr, hgo.ex eH, rfl⟩))) (fun hb H2 e2 => ?_) (fun hb H2 e2 => ?_)
      · have eH2 := eH.trans e2
        cases b with
        | none =>
          refine s_when (b := true) (et_is (et_or (et_test (ev_eqI (ev_var rfl) ev_c)) (b := false) fun h => by cases h) rfl) (fun _ H3 e3 => ?_) (fun h => by cases h)
          rw [firstStep_none hg hb]
          exact s_asg (ev_var rfl) fun H4 e4 => ⟨e'.trans (e2.trans (e3.trans e4)), ⟨⟨_, _, rfl⟩, fun j hj => by cases hj; exact hi⟩⟩
        | some j =>
          have hj := hW j rfl
          obtain ⟨gj, hgj⟩ : ∃ g, n.goes[j]? = some g := ⟨_, List.getElem?_eq_getElem hj⟩
          obtain ⟨aj, haj, djx, nmj, hgj0, _⟩ := paired_at hg2 hgj
          have dj : depOf n j = gj.dep := by
            unfold depOf
            rw [hgj]
            rfl
          refine s_when (b := decide (depOf n i < depOf n j)) (et_is (et_or (et_test (ev_eqI (ev_var rfl) ev_c)) fun _ => et_test (ev_op (ev_fld (ev_var rfl) (eH2 _ _ hg0) T.c_Departure T.n_Departure_leaves lDeparture_leaves) (ev_fld (ev_ixL (goes eH2) (ev_var rfl) (eH2 _ _ hg1) (by rw [List.getElem?_map, haj]; rfl)) (eH2 _ _ hgj0) T.c_Departure T.n_Departure_leaves lDeparture_leaves) rv_I0)) ?_) (fun hlt H3 e3 => ?_) (fun hlt H3 e3 => ?_)
          · rw [di, dj]
            show (decide ((j : Int) = -1) || decide ((g.dep : Int) < (gj.dep : Int))) = decide (g.dep < gj.dep)
            rw [decide_eq_false (show ¬ ((j : Int) = -1) by omega), Bool.false_or]
            exact decide_eq_decide.mpr (by omega)
          · rw [firstStep_lt hg hb (of_decide_eq_true hlt)]
            exact s_asg (ev_var rfl) fun H4 e4 => ⟨e'.trans (e2.trans (e3.trans e4)), ⟨⟨_, _, rfl⟩, fun j hj => by cases hj; exact hi⟩⟩
          · rw [firstStep_ge hg hb (of_decide_eq_false hlt)]
            exact ⟨e'.trans (e2.trans e3), ⟨⟨_, _, rfl⟩, hW⟩⟩
      · rw [firstStep_miss hg hb]
        exact ⟨e'.trans e2, ⟨_, _, rfl⟩, hW⟩
    · rintro σ' H' e' ⟨⟨x1, x2, rfl⟩, hW⟩
      refine s_ret (ev_var rfl) fun H2 e2 => int_eq (k _ ((e1.trans e').trans e2)) ?_
      unfold firstO
      rw [List.length_map, lg]
/-- whole tables -/
def tabK (n : Vbtoad.Net) (d : Nat) : Tab := (List.range 4).map (rowK n d)
theorem tabK_row {n : Vbtoad.Net} {d k : Nat} (h : k < 4) : (tabK n d).getD k [] = rowK n d k := by
  unfold tabK
  rw [List.getD_eq_getElem?_getD, List.getElem?_map, List.getElem?_range h]
  rfl
def actI : Option Vbtoad.Act → Int × Int
  | none => (-1, -1)
  | some .there => (0, 0)
  | some (.drive c) => (1, c)
  | some (.wait g) => (2, g)
abbrev SurK (K : PySem.W.Frag) (H : Hp) (a : Addr) (n : Vbtoad.Net) (d : Nat) : Prop := SurP K H a n d (tabK n d)
def sp_Sureness_to_do (K : PySem.W.Frag) : Sp := PureU fun vs G xs => ∃ (a : Addr) (n : Vbtoad.Net) (d kk t p : Nat), vs = [.ref a, .int (kk : Int), .int (t : Int), .int (p : Int)] ∧ SurK K G a n d ∧ kk < 4 ∧ p < n.places.length ∧
  xs = [.int (actI (Vbtoad.toDo n (Vbtoad.roadsOf n) d kk p t)).1, .int (actI (Vbtoad.toDo n (Vbtoad.roadsOf n) d kk p t)).2]
theorem sc_Sureness_to_do : FnScope ["self", "k", "minute", "place", "sure", "number", "start"] ["self", "k", "minute", "place"] (defScope s_Sureness_to_do) := ⟨rfl, rfl, rfl, by decide +kernel, rfl, by decide +kernel, by decide +kernel⟩
theorem ok_Sureness_to_do {P : Program} {w : World} {K : PySem.W.Frag} {mg : Str → Option Value} {base : Heap} (T : Txt w K mg) : OkD P w K mg base CX0 5 (He.ma K (He.ga K "Sureness") "to_do") ["self", "k", "minute", "place"] (sp_Sureness_to_do K) := by
  obtain ⟨fd_Sureness_car_to_ready, G_Sureness_car_to_ready, B_Sureness_car_to_ready, K_Sureness_car_to_ready⟩ := ok_Sureness_car_to_ready (P := P) (w := w) (base := base) T
  obtain ⟨fd_Sureness_first_going, G_Sureness_first_going, B_Sureness_first_going, K_Sureness_first_going⟩ := ok_Sureness_first_going (P := P) (w := w) (base := base) T
  obtain ⟨fd_summed, G_summed, B_summed, K_summed⟩ := ok_summed (P := P) (w := w) (base := base) T
  obtain ⟨fd_Sureness_by_cars, G_Sureness_by_cars, B_Sureness_by_cars, K_Sureness_by_cars⟩ := ok_Sureness_by_cars (P := P) (w := w) (base := base) T
  obtain ⟨fd_Sureness_car_to_goal, G_Sureness_car_to_goal, B_Sureness_car_to_goal, K_Sureness_car_to_goal⟩ := ok_Sureness_car_to_goal (P := P) (w := w) (base := base) T
  obtain ⟨fd_Sureness_sure, G_Sureness_sure, B_Sureness_sure, K_Sureness_sure⟩ := ok_Sureness_sure (P := P) (w := w) (base := base) T
  obtain ⟨fd, F⟩ := T.f_Sureness_to_do
  refine ⟨fd, F.ok sc_Sureness_to_do (fun vs H Q E h => ?_) (fun cdv A outer s H vs Q E hr h => ?_), F.bindsN fun _ _ _ _ _ _ us hl => match us, hl with | [_, _, _, _], _ => rfl, F.kp⟩
  · obtain ⟨xs, G, eG, ⟨a, n, d, kk, t, p, rfl, hS, hk, hp, rfl⟩, k⟩ := h
    rfl
  · refine ⟨_, PSs.nox (pss_cons (ps_if (pt_cmpR op_eq (pv 3) (pe_fld (pv 0) rfl) (nomark _)) (pss_one (ps_ret (pe_tup (pa_cons (pe_gint T.i_AT_GOAL) (pa_cons pe_int pa_nil))))) pss_nil) (pss_cons (ps_set (i := 4) sc_Sureness_to_do.nd rfl (Or.inl rfl) (pe_meth (pv 0) T.c_Sureness T.m_Sureness_sure G_Sureness_sure (hr.mono (by decide)) B_Sureness_sure .nil pass0 (pa_cons (pv 1) (pa_cons (pv 2) (pa_cons (pv 3) pa_nil))))) (pss_cons (ps_if (pt_cmpR op_eq (pv 4) (pe_gint T.i_NONE) (nomark _)) (pss_one (ps_ret (pe_tup (pa_cons (pe_gint T.i_NONE) (pa_cons (pe_gint T.i_NONE) pa_nil))))) pss_nil) (pss_cons (ps_if (pt_cmpR op_eq (pv 4) (pe_call G_summed (hr.mono (by decide)) rfl T.g_summed K_summed B_summed .nil pass0 (pa_cons (pe_meth (pv 0) T.c_Sureness T.m_Sureness_by_cars G_Sureness_by_cars (hr.mono (by decide)) B_Sureness_by_cars .nil pass0 (pa_cons (pv 3) pa_nil)) (pa_cons (pv 2) pa_nil))) (nomark _)) (pss_one (ps_ret (pe_tup (pa_cons (pe_gint T.i_BY_CAR) (pa_cons (pe_meth (pv 0) T.c_Sureness T.m_Sureness_car_to_goal G_Sureness_car_to_goal (hr.mono (by decide)) B_Sureness_car_to_goal .nil pass0 (pa_cons (pv 3) pa_nil)) pa_nil))))) pss_nil) (pss_cons (ps_set (i := 5) sc_Sureness_to_do.nd rfl (Or.inl rfl) (pe_meth (pv 0) T.c_Sureness T.m_Sureness_first_going G_Sureness_first_going (hr.mono (by decide)) B_Sureness_first_going .nil pass0 (pa_cons (pv 1) (pa_cons (pv 2) (pa_cons (pv 3) (pa_cons (pv 4) pa_nil)))))) (pss_cons (ps_set (i := 6) sc_Sureness_to_do.nd rfl (Or.inl rfl) (pe_fld (pe_ix ix_list (pe_fld (pe_fld (pv 0) rfl) rfl) (pv 5) (fun _ _ => rfl)) rfl)) (pss_cons (ps_if (pt_cmpR op_eq (pv 6) (pv 3) (nomark _)) (pss_one (ps_ret (pe_tup (pa_cons (pe_gint T.i_BY_GOING) (pa_cons (pv 5) pa_nil))))) pss_nil) (pss_one (ps_ret (pe_tup (pa_cons (pe_gint T.i_BY_CAR) (pa_cons (pe_meth (pv 0) T.c_Sureness T.m_Sureness_car_to_ready G_Sureness_car_to_ready (hr.mono (by decide)) B_Sureness_car_to_ready .nil pass0 (pa_cons (pv 3) (pa_cons (pv 6) pa_nil))) pa_nil)))))))))))), ?_⟩
    obtain ⟨xs, G, eG, ⟨a, n, d, kk, t, p, rfl, hS, hk, hp, rfl⟩, k⟩ := h
    obtain ⟨⟨na, cm, wm, rows, wrows, hI⟩, ok, hd, wok⟩ := id hS
    obtain ⟨⟨dx, ho⟩, hnet, hcome, hwor⟩ := hI
    obtain ⟨pl, cl, gl, ⟨dn, hno⟩, -, -, ⟨gs, hg1, hg2⟩⟩ := id hnet
    have fin : ∀ {te : TE} {σ : L2.St} {H1 : Hp} {x y : Int}, Ex H H1 → EvU te σ H1 [.int x, .int y] → actI (Vbtoad.toDo n (Vbtoad.roadsOf n) d kk p t) = (x, y) → tRet te { nx := fun _ H' => Q .non H', rt := Q } σ H1 := fun e1 hu he => by
      rw [he] at k
      exact s_retU hu fun p H2 hp e2 h2 => k p H2 (fresh_back e1 hp) (e1.trans e2) h2
    have td := todo (k := kk) (t := t) ok hp hd
    refine q_when (et_test (ev_eqI (ev_var rfl) (ev_fld (ev_var rfl) (eG _ _ ho) T.c_Sureness T.n_Sureness_goal lSureness_goal))) (fun hc H1 e1 => ?_) (fun hc H1 e1 => ?_)
    · have e : p = d := by have := of_decide_eq_true hc; omega
      refine fin e1 (eu_tup (ea_cons ev_c (ea_cons ev_c ea_nil)) (by show 2 ≤ 100000; decide)) ?_
      unfold Vbtoad.toDo
      rw [if_pos e]
      rfl
    · have ne : ¬ p = d := by have := of_decide_eq_false hc; omega
      have eH1 := eG.trans e1
      refine q_asg (v := .int (Vbtoad.orNone (sureK n d kk p t))) (ev_is (ev_meth (ev_var rfl) (eH1 _ _ ho) lSureness_sure (ea_cons (ev_var rfl) (ea_cons (ev_var rfl) (ea_cons (ev_var rfl) ea_nil))) (spv_pure ⟨a, n, d, _, kk, t, p, rfl, hS.ex eH1, hk, hp, rfl⟩)) (by rw [tabK_row hk, sureI_K])) fun H2 e2 => ?_
      have eH2 := eH1.trans e2
      have none_ : ∀ {m : Nat}, (decide ((m : Int) = -1)) = false := fun {m} => decide_eq_false (by omega)
      have byc : Ev (tCall (sp_summed K) [] E0 (tCons (tMeth (cSur K) "by_cars" (sp_Sureness_by_cars K) [] E0 (tVar 0) (tCons (tVar 3) tNil)) (tCons (tVar 2) tNil))) [some (.ref a), some (.int (kk : Int)), some (.int (t : Int)), some (.int (p : Int)), some (.int (Vbtoad.orNone (sureK n d kk p t))), none, none] H2 (.int (Vbtoad.orNone ((fwD n p d).map fun m => t + m))) := by
        rw [← mSum_nat]
        exact ev_call (ea_cons (ev_meth (ev_var rfl) (eH2 _ _ ho) lSureness_by_cars (ea_cons (ev_var rfl) ea_nil) (spv_pure ⟨a, n, d, _, p, rfl, hS.ex eH2, hp, rfl⟩)) (ea_cons (ev_var rfl) ea_nil)) (spv_pure ⟨_, _, rfl, rfl⟩)
      have e12 := e1.trans e2
      cases td with
      | there e _ => exact absurd e ne
      | none _ hs h =>
        rw [hs]
        refine q_when (b := true) (et_is (et_test (ev_eqI (ev_var rfl) ev_c)) rfl) (fun _ H3 e3 => ?_) (fun h => by cases h)
        exact fin (e12.trans e3) (eu_tup (ea_cons ev_c (ea_cons ev_c ea_nil)) (by show 2 ≤ 100000; decide)) (by rw [h]; rfl)
      | goal _ hs hm e hi hc hf nx h =>
        rename_i av m i c
        rw [hs] at byc ⊢
        rw [hm] at byc
        refine q_when (b := false) (et_is (et_test (ev_eqI (ev_var rfl) ev_c)) none_) (fun h => by cases h) (fun _ H3 e3 => ?_)
        refine q_when (b := true) (et_is (et_test (ev_eqI (ev_var rfl) (byc.mono e3))) (decide_eq_true (show (av : Int) = ((t + m : Nat) : Int) by omega))) (fun _ H4 e4 => ?_) (fun h => by cases h)
        have eH4 := eH2.trans (e3.trans e4)
        exact fin (e12.trans (e3.trans e4)) (eu_tup (ea_cons ev_c (ea_cons (ev_is (ev_meth (ev_var rfl) (eH4 _ _ ho) lSureness_car_to_goal (ea_cons (ev_var rfl) ea_nil) (spv_pure ⟨a, n, d, _, p, rfl, hS.ex eH4, hp, rfl⟩)) (congrArg V.int (idxI_some hi))) ea_nil)) (by show 2 ≤ 100000; decide)) (by rw [h]; rfl)
      | wait _ hs no hi f hg hf h =>
        rename_i av i g
        rw [hs] at byc ⊢
        refine q_when (b := false) (et_is (et_test (ev_eqI (ev_var rfl) ev_c)) none_) (fun h => by cases h) (fun _ H3 e3 => ?_)
        refine q_when (b := false) (et_is (et_test (ev_eqI (ev_var rfl) (byc.mono e3))) ?_) (fun h => by cases h) (fun _ H4 e4 => ?_)
        · refine decide_eq_false fun z => ?_
          cases e : fwD n p d with
          | none =>
            rw [e] at z
            have z2 : (av : Int) = -1 := z
            omega
          | some m =>
            rw [e] at z
            have z2 : (av : Int) = ((t + m : Nat) : Int) := z
            exact no m e (by omega)
        have eH4 := eH2.trans (e3.trans e4)
        refine q_asg (v := .int (i : Int)) (ev_is (ev_meth (ev_var rfl) (eH4 _ _ ho) lSureness_first_going (ea_cons (ev_var rfl) (ea_cons (ev_var rfl) (ea_cons (ev_var rfl) (ea_cons (ev_var rfl) ea_nil)))) (spv_pure ⟨a, n, d, _, kk, t, p, (av : Int), rfl, hS.ex eH4, hk, hp, rfl⟩)) (by rw [tabK_row hk, hi]; rfl)) fun H5 e5 => ?_
        have eH5 := eH4.trans e5
        obtain ⟨ga, hga, dg, nm, hg0, _⟩ := paired_at hg2 hg
        refine q_asg (ev_fld (ev_ixL (ev_fld (ev_fld (ev_var rfl) (eH5 _ _ ho) T.c_Sureness T.n_Sureness_net lSureness_net) (eH5 _ _ hno) T.c_Net T.n_Net_goes lNet_goes) (ev_var rfl) (eH5 _ _ hg1) (by rw [List.getElem?_map, hga]; rfl)) (eH5 _ _ hg0) T.c_Departure T.n_Departure_start lDeparture_start) fun H6 e6 => ?_
        refine q_when (b := true) (et_is (et_test (ev_eqI (ev_var rfl) (ev_var rfl))) (decide_eq_true (by rw [hf]))) (fun _ H7 e7 => ?_) (fun h => by cases h)
        exact fin (e12.trans (e3.trans (e4.trans (e5.trans (e6.trans e7))))) (eu_tup (ea_cons ev_c (ea_cons (ev_var rfl) ea_nil)) (by show 2 ≤ 100000; decide)) (by rw [h]; rfl)
      | ready _ hs no hi f hg hf hb hj hc hfr nx h =>
        rename_i av i b j g c
        rw [hs] at byc ⊢
        refine q_when (b := false) (et_is (et_test (ev_eqI (ev_var rfl) ev_c)) none_) (fun h => by cases h) (fun _ H3 e3 => ?_)
        refine q_when (b := false) (et_is (et_test (ev_eqI (ev_var rfl) (byc.mono e3))) ?_) (fun h => by cases h) (fun _ H4 e4 => ?_)
        · refine decide_eq_false fun z => ?_
          cases e : fwD n p d with
          | none =>
            rw [e] at z
            have z2 : (av : Int) = -1 := z
            omega
          | some m =>
            rw [e] at z
            have z2 : (av : Int) = ((t + m : Nat) : Int) := z
            exact no m e (by omega)
        have eH4 := eH2.trans (e3.trans e4)
        refine q_asg (v := .int (i : Int)) (ev_is (ev_meth (ev_var rfl) (eH4 _ _ ho) lSureness_first_going (ea_cons (ev_var rfl) (ea_cons (ev_var rfl) (ea_cons (ev_var rfl) (ea_cons (ev_var rfl) ea_nil)))) (spv_pure ⟨a, n, d, _, kk, t, p, (av : Int), rfl, hS.ex eH4, hk, hp, rfl⟩)) (by rw [tabK_row hk, hi]; rfl)) fun H5 e5 => ?_
        have eH5 := eH4.trans e5
        obtain ⟨ga, hga, dg, nm, hg0, _⟩ := paired_at hg2 hg
        refine q_asg (ev_fld (ev_ixL (ev_fld (ev_fld (ev_var rfl) (eH5 _ _ ho) T.c_Sureness T.n_Sureness_net lSureness_net) (eH5 _ _ hno) T.c_Net T.n_Net_goes lNet_goes) (ev_var rfl) (eH5 _ _ hg1) (by rw [List.getElem?_map, hga]; rfl)) (eH5 _ _ hg0) T.c_Departure T.n_Departure_start lDeparture_start) fun H6 e6 => ?_
        refine q_when (b := false) (et_is (et_test (ev_eqI (ev_var rfl) (ev_var rfl))) (decide_eq_false (by omega))) (fun h => by cases h) (fun _ H7 e7 => ?_)
        have eH7 := eH5.trans (e6.trans e7)
        exact fin (e12.trans (e3.trans (e4.trans (e5.trans (e6.trans e7))))) (eu_tup (ea_cons ev_c (ea_cons (ev_is (ev_meth (ev_var rfl) (eH7 _ _ ho) lSureness_car_to_ready (ea_cons (ev_var rfl) (ea_cons (ev_var rfl) ea_nil)) (spv_pure ⟨a, n, d, _, p, g.from_, rfl, hS.ex eH7, hp, (go_ok ok hg).fr, rfl⟩)) (congrArg V.int (idxI_some hj))) ea_nil)) (by show 2 ≤ 100000; decide)) (by rw [h]; rfl)
end SJ
/-! What's sure, reckoned: Sureness.__init__. -/
namespace SJ
open PySem PySem.Spec PyProof.Rows L2 Evl LamX
/-- the code object of Sureness.__init__, its table -/
abbrev cS (K : PySem.W.Frag) : Addr := (He.cT K ("Sureness", some "__init__")).1
abbrev pS (K : PySem.W.Frag) : Addr := (He.cT K ("Sureness", some "__init__")).2
abbrev tS (K : PySem.W.Frag) : List (Addr × Str) := [(pS K, "Sureness.__init__.<locals>.<lambda>")]
/-- no tables of code objects among what is told -/
def NoT (G : Hp) : Prop := ∀ b ps, G b ≠ some (.tbl ps)
theorem NoT.ex {G H H' : Hp} (n : NoT G) (e : Ex G H) (x : ExtN H H') : Ex G H' := fun b o h => x b o (e b o h) fun ps z => n b ps (by rw [h, z])
theorem okC {CX : CXT} {P : Program} {w : World} {K : PySem.W.Frag} {mg : Str → Option Value} {base : Heap} {x qual : Str} {params : Arguments} {body : List Stmt} {scope : Scope} {dvs : List V} {kws : List (Str × V)} {f : Addr} {fd : FuncData} {N ps : List Str} {k : Nat} {sp : Sp} {p : He.Defn}
    (F : FunD K x qual params body scope dvs kws f fd) (ef : He.fAd K p = f) (S : FnScope N ps scope) (len : ∀ vs H Q E, sp vs H Q E → vs.length = ps.length)
    (hbody : ∀ (A : Around) (outer : List Env) (s : Shared) (H : Hp) (vs : List V) (Q : VK) (E : XK), Room k (A.deeper (envOfC qual scope s.heap.objs.size f (.ref (He.codeOf K p)))) → sp vs H Q E →
      ∃ t, PSs (cxOf CX P w K mg base N qual scope f (.ref (He.codeOf K p)) A outer s H E) body t ∧ t { nx := fun _ H' => Q .non H', rt := Q } (L2.start N vs) H) : FnOk P w K mg base CX (k + 1) f fd ps sp := by
  obtain ⟨oc, od, dV, kV, doc, pm, an, cdv, ct, osl, rfl, lk, hcd, _, _⟩ := F.ex
  obtain ⟨c, rfl⟩ := He.codeIn_ref hcd
  subst ef
  have e : He.codeOf K p = c := He.codeOf_eq lk rfl
  rw [e] at hbody
  exact fn_of lk hcd S len fun A outer s H vs Q E hr hsp => hbody A outer s H vs Q E hr hsp
section
variable {K : PySem.W.Frag} {H H' : Hp} {p C dx f : Addr} {fs : List (Str × V)} {o : HO} {T : List (Addr × Str)} {rows : List Addr} {ls : List (List V)}
theorem tabs_but (t : Tabs T H) (hp : H p = some (.ins C dx fs)) (e : ExBut p H H') : Tabs T H' := fun q hq => by
  obtain ⟨ps, h1, h2, h3⟩ := t q hq
  refine ⟨ps, e _ _ h1 fun z => ?_, h2, fun pos cv hc => ?_⟩
  · rw [z, hp] at h1
    cases h1
  · obtain ⟨c, e1, e2⟩ := h3 pos cv hc
    refine ⟨c, e1, e _ _ e2 fun z => ?_⟩
    rw [z, hp] at e2
    unfold CodeO at e2
    cases e2
theorem rows_but (h : RowsAt H f rows ls) (hp : H p = some (.ins C dx fs)) (e : ExBut p H H') : RowsAt H' f rows ls := by
  refine ⟨e _ _ h.top fun z => ?_, h.nd, h.len, fun i r l h1 h2 => e _ _ (h.row i r l h1 h2) fun z => ?_⟩
  · have t := h.top
    rw [z, hp] at t
    cases t
  · have t := h.row i r l h1 h2
    rw [z, hp] at t
    cases t
theorem rows_extN (h : RowsAt H f rows ls) (e : ExtN H H') : RowsAt H' f rows ls := ⟨e _ _ h.top (fun _ z => by cases z), h.nd, h.len, fun i r l h1 h2 => e _ _ (h.row i r l h1 h2) fun _ z => by cases z⟩
/-- all but the rows -/
def noRows (rows : List Addr) (H : Hp) : Hp := fun b => if b ∈ rows then none else H b
theorem noRows_ex : Ex (noRows rows H) H := fun b o h => by
  unfold noRows at h
  split at h
  · cases h
  · exact h
theorem noRows_at {b : Addr} (h : H b = some o) (n : b ∉ rows) : noRows rows H b = some o := by
  unfold noRows
  rw [if_neg n]
  exact h
theorem noRows_none {b : Addr} (n : b ∈ rows) : noRows rows H b = none := by
  unfold noRows
  rw [if_pos n]
theorem noRows_tabs (t : Tabs T H) (h : ∀ r ∈ rows, ∃ l, H r = some (.lst l)) : Tabs T (noRows rows H) := fun q hq => by
  obtain ⟨ps, h1, h2, h3⟩ := t q hq
  refine ⟨ps, noRows_at h1 fun z => ?_, h2, fun pos cv hc => ?_⟩
  · obtain ⟨l, e⟩ := h _ z
    rw [h1] at e
    cases e
  · obtain ⟨c, e1, e2⟩ := h3 pos cv hc
    refine ⟨c, e1, noRows_at e2 fun z => ?_⟩
    obtain ⟨l, e⟩ := h _ z
    rw [e2] at e
    unfold CodeO at e
    cases e
theorem exbut_upd : ExBut p H (upd H p o) := fun b u hb ne => by
  rw [upd_ne ne]
  exact hb
theorem RowsAt.put {r : Addr} {i : Nat} {l : List V} (h : RowsAt H f rows ls) (hr : rows[i]? = some r) (nf : r ≠ f) : RowsAt (upd H r (.lst l)) f rows (ls.set i l) := by
  refine ⟨(upd_ne (Ne.symm nf)).trans h.top, h.nd, by rw [List.length_set]; exact h.len, fun k a m hk hm => ?_⟩
  rw [List.getElem?_set] at hm
  by_cases e : i = k
  · subst e
    rw [hr] at hk
    cases hk
    rw [if_pos rfl] at hm
    split at hm
    · rw [upd_same, Option.some.inj hm]
    · cases hm
  · rw [if_neg e] at hm
    have na : a ≠ r := fun z => by
      rw [z] at hk
      exact e (nodup_inj h.nd hr (by rw [hk]))
    rw [upd_ne na]
    exact h.row k a m hk hm
end
section
variable {K : PySem.W.Frag} {σ : L2.St} {H : Hp} {ta tv : TE} {f : Str} {v : V} {a C dx : Addr} {fs fs' : List (Str × V)} {D : Ends} {tz : TS}
/-- a.f = v -/
theorem q_fldV (hv : Ev tv σ H v) (ha : Ev ta σ H (.ref a)) (ho : H a = some (.ins C dx fs)) (hc : Cls K C) (hn : NoAttr K C f) (hl : fs.length < 1000) (hp : putF f v fs = fs') (k : ∀ H1, Ex H H1 → tz D σ (upd H1 a (.ins C dx fs'))) : tSeq (sFld K ta tv f) tz D σ H :=
  hv H (Ex.refl H) _ fun H1 e1 => ha H1 e1 _ fun H2 e2 => ⟨a, C, dx, fs, rfl, (e1.trans e2) _ _ ho, hc, hn, hl, by
    rw [hp]
    exact k H2 (e1.trans e2)⟩
theorem s_fldV (hv : Ev tv σ H v) (ha : Ev ta σ H (.ref a)) (ho : H a = some (.ins C dx fs)) (hc : Cls K C) (hn : NoAttr K C f) (hl : fs.length < 1000) (hp : putF f v fs = fs') (k : ∀ H1, Ex H H1 → D.nx σ (upd H1 a (.ins C dx fs'))) : sFld K ta tv f D σ H :=
  hv H (Ex.refl H) _ fun H1 e1 => ha H1 e1 _ fun H2 e2 => ⟨a, C, dx, fs, rfl, (e1.trans e2) _ _ ho, hc, hn, hl, by
    rw [hp]
    exact k H2 (e1.trans e2)⟩
theorem q_fldRows {ls : List (List V)} (hv : EvRows tv σ H ls) (ha : ∀ H1, Ev ta σ H1 (.ref a)) (ho : H a = some (.ins C dx fs)) (hc : Cls K C) (hn : NoAttr K C f) (hl : fs.length < 1000)
    (k : ∀ m rows H1, Ex H H1 → RowsAt H1 m rows ls → RowsNew H m rows → tz D σ (upd H1 a (.ins C dx (putF f (.ref m) fs)))) : tSeq (sFld K ta tv f) tz D σ H :=
  hv H (Ex.refl H) _ fun m rows H1 e1 hr hN => ha H1 H1 (Ex.refl H1) _ fun H2 e2 => ⟨a, C, dx, fs, rfl, (e1.trans e2) _ _ ho, hc, hn, hl, k m rows H2 (e1.trans e2) (hr.ex e2) hN⟩
theorem q_late {T : List (Addr × Str)} {jn i n : Nat} {na : Addr} {dep : Nat → Nat} (h : Ev ta σ H (.int (n : Int))) (hn : n ≤ 40000) (hs : σ[jn]? = some (some (.ref na))) (hk : ∀ i, i < n → KeyAt K H na i (dep i)) (hT : Tabs T H)
    (k : ∀ H3 p, ExtN H H3 → (∀ b o, H b = some o → (∀ ps, o ≠ .tbl ps) → b ≠ p) → Tabs T H3 → H3 p = some (.lst ((byLate n dep).map nV)) → tz D (σ.set i (some (.ref p))) H3) : tSeq (tAsg (tLate K T ta jn) (gName i)) tz D σ H :=
  h H (Ex.refl H) _ fun H1 e => ⟨n, na, dep, rfl, hn, hs, fun i hi => (hk i hi).extN (ExtN.of e), hT.ext e, fun H2 p x t hp => k _ p (fun b o hb nb => by
    have h2 := ((ExtN.of e).trans x) b o hb nb
    rw [upd_ne (ne_of_none h2 hp)]
    exact h2) (fun b o hb nb => ne_of_none (((ExtN.of e).trans x) b o hb nb) hp) (t.ext fun b o hb => by
    rw [upd_ne (ne_of_none hb hp)]
    exact hb) upd_same⟩
end
def sp_Sureness_init (K : PySem.W.Frag) : Sp := fun vs H Q _ => ∃ (G : Hp) (p dp na : Addr) (n : Vbtoad.Net) (d : Nat), vs = [.ref p, .ref na, .int (d : Int)] ∧ Ex G H ∧ NoT G ∧ G p = none ∧ H p = some (.ins (cSur K) dp []) ∧ NetAt K G na n ∧ NetOk n ∧ d < n.places.length ∧ Tabs (tS K) H ∧
  ∀ H', Ex G H' → Tabs (tS K) H' → SurK K H' p n d → Q .non H'
theorem sc_Sureness_init : FnScope ["self", "net", "goal", "k", "turns", "number", "go"] ["self", "net", "goal"] (defScope s_Sureness_init) := ⟨rfl, rfl, rfl, by decide +kernel, rfl, by decide +kernel, by decide +kernel⟩
theorem ok_Sureness_init {P : Program} {w : World} {K : PySem.W.Frag} {mg : Str → Option Value} {base : Heap} (T : Txt w K mg) (TB : TabB base mg (cS K) (pS K)) : OkD P w K mg base CX0 7 (He.ma K (He.ga K "Sureness") "__init__") ["self", "net", "goal"] (sp_Sureness_init K) := by
  obtain ⟨fd_Sureness_worth_of, G_Sureness_worth_of, B_Sureness_worth_of, K_Sureness_worth_of⟩ := ok_Sureness_worth_of (P := P) (w := w) (base := base) T
  obtain ⟨fd_come_tables, G_come_tables, B_come_tables, K_come_tables⟩ := ok_come_tables (P := P) (w := w) (base := base) T
  obtain ⟨fd, F⟩ := T.f_Sureness_init
  refine ⟨fd, okC (p := ("Sureness", some "__init__")) F rfl sc_Sureness_init (fun vs H Q E h => ?_) (fun A outer s H vs Q E hr h => ?_), F.bindsN fun _ _ _ _ _ _ us hl => match us, hl with | [_, _, _], _ => rfl, F.kp⟩
  · obtain ⟨G, p, dp, na, n, d, rfl, eG, nT, gp, hp, hn, ok, hd, hT, k⟩ := h
    rfl
  · refine ⟨_, PSs.nox (pss_cons (ps_fld (pv 0) (pv 1) rfl) (pss_cons (ps_fld (pv 0) (pv 2) rfl) (pss_cons (ps_fld (pv 0) (pe_call G_come_tables (hr.mono (by decide)) rfl T.g_come_tables K_come_tables B_come_tables .nil pass0 (pa_cons (pv 1) pa_nil)) rfl) (pss_cons (ps_fld (pv 0) (pe_lc (own := [("k", 3)]) (g := gName 3) rfl sc_Sureness_init.nd (pi_range1 rfl T.b_range (pa_cons (pe_op op_add (pe_gint T.i_MOST_CANCELLED) pe_int) pa_nil)) (blkOk_by (own := [("k", 3)]) (N := ["self", "net", "goal", "k", "turns", "number", "go"]) (sc := defScope s_Sureness_init) (by decide +kernel)) (fun _ _ _ _ _ => pg_name (i := 3) sc_Sureness_init.nd rfl (Or.inl rfl)) (fun _ _ _ _ _ => pts_nil) (fun _ _ _ _ _ => pe_lc (own := [("go", 6)]) (g := gName 6) rfl sc_Sureness_init.nd (show PI _ _ _ (iList K (tFld K (tVar 1) "goes")) from pi_list (pe_fld (pv 1) rfl)) (blkOk_by (own := [("go", 6)]) (N := ["self", "net", "goal", "k", "turns", "number", "go"]) (sc := ({ kind := .function, names := [(".0", .local), ("k", .local), ("net", .cell)], isGenerator := false, isCoroutine := false } : Scope)) (by decide +kernel)) (fun _ _ _ _ _ => pg_name (i := 6) sc_Sureness_init.nd rfl (Or.inl rfl)) (fun _ _ _ _ _ => pts_nil) (fun _ _ _ _ _ => pe_gint T.i_NONE))) rfl) (pss_cons (ps_set (i := 4) sc_Sureness_init.nd rfl (Or.inl rfl) (pe_late (T := tS K) (jn := 1) rfl T.b_sorted rfl T.b_range (pe_callB call_len_seq (by rfl) T.b_len PySem.boot_len (pa_cons (pe_fld (pv 1) rfl) pa_nil)) TB rfl (List.mem_singleton.mpr rfl) (fun q hq _ => by cases List.mem_singleton.mp hq; rfl) hr rfl rfl T)) (pss_one (ps_for PassesOwn.never rfl (pi_range1 rfl T.b_range (pa_cons (pe_op op_add (pe_gint T.i_MOST_CANCELLED) pe_int) pa_nil)) (pg_name (i := 3) sc_Sureness_init.nd rfl (Or.inl rfl)) (pss_one (ps_for PassesOwn.never rfl (pi_list (pv 4)) (pg_name (i := 5) sc_Sureness_init.nd rfl (Or.inl rfl)) (pss_one (ps_asg (pe_meth (pv 0) T.c_Sureness T.m_Sureness_worth_of G_Sureness_worth_of (hr.mono (by decide)) B_Sureness_worth_of .nil pass0 (pa_cons (pv 3) (pa_cons (pe_ix ix_list (pe_fld (pv 1) rfl) (pv 5) (fun _ _ => rfl)) pa_nil))) (pg_sub (pe_ix ix_list (pe_fld (pv 0) rfl) (pv 3) (fun _ _ => rfl)) (pv 5) set_list)))))))))))), ?_⟩
    obtain ⟨G, p, dp, na, n, d, rfl, eG, nT, gp, hp, hn, ok, hd, hT, k⟩ := h
    have fresh : ∀ {H1 : Hp} {o : HO}, Ex G H1 → Ex G (upd H1 p o) := fun e => Ex.mut e gp
    -- self.net, self.goal
    refine q_fldV (ev_var rfl) (ev_var rfl) hp T.c_Sureness T.n_Sureness_net (by show 0 < 1000; decide) pSureness_net fun H1 e1 => ?_
    have g1 := fresh (o := .ins (cSur K) dp [("net", V.ref na)]) (eG.trans e1)
    have t1 : Tabs (tS K) (upd H1 p (.ins (cSur K) dp [("net", V.ref na)])) := tabs_but (hT.ext e1) (e1 _ _ hp) exbut_upd
    refine q_fldV (ev_var rfl) (ev_var rfl) upd_same T.c_Sureness T.n_Sureness_goal (by show 1 < 1000; decide) pSureness_goal fun H2 e2 => ?_
    have g2 := fresh (o := .ins (cSur K) dp [("net", V.ref na), ("goal", nV d)]) (g1.trans e2)
    have t2 : Tabs (tS K) (upd H2 p (.ins (cSur K) dp [("net", V.ref na), ("goal", nV d)])) := tabs_but (t1.ext e2) (e2 _ _ upd_same) exbut_upd
    -- self.come
    refine x_call (ea_cons (ev_var rfl) ea_nil) fun H3 e3 => ⟨G, na, n, rfl, g2.trans e3, hn, ok, fun H4 cm crows e4 hcm => ?_⟩
    have p4 := e4 _ _ (e3 _ _ (upd_same (H := H2) (a := p) (o := .ins (cSur K) dp [("net", V.ref na), ("goal", nV d)])))
    refine ⟨_, rfl, p, _, dp, _, rfl, p4, T.c_Sureness, T.n_Sureness_come, (by show 2 < 1000; decide), ?_⟩
    rw [pSureness_come]
    have g4 := fresh (o := .ins (cSur K) dp [("net", V.ref na), ("goal", nV d), ("come", V.ref cm)]) ((g2.trans e3).trans e4)
    have t4 : Tabs (tS K) (upd H4 p (.ins (cSur K) dp [("net", V.ref na), ("goal", nV d), ("come", V.ref cm)])) := tabs_but (t2.ext (e3.trans e4)) p4 exbut_upd
    have c4 : TabAt (upd H4 p (.ins (cSur K) dp [("net", V.ref na), ("goal", nV d), ("come", V.ref cm)])) cm crows (comeT n) := rows_but hcm p4 exbut_upd
    generalize hH5 : upd H4 p (.ins (cSur K) dp [("net", V.ref na), ("goal", nV d), ("come", V.ref cm)]) = H5 at g4 t4 c4 ⊢
    have p5 : H5 p = some (.ins (cSur K) dp [("net", V.ref na), ("goal", nV d), ("come", V.ref cm)]) := by rw [← hH5]; exact upd_same
    obtain ⟨pl, cl, gl, ⟨dn, hno⟩, hpl, hcl, ⟨gs, hg1, hg2⟩⟩ := id hn
    have lg : gs.length = n.goes.length := paired_len hg2
    have lgo := ok.gl
    -- self.worths
    have er : EvRows (tLc (iRng1 (tCons (tOp (rI0 fun i j => .int (i + j)) (tC (.int 3)) (tC (.int 1))) tNil)) (gName 3) tYes (tLc (iList K (tFld K (tVar 1) "goes")) (gName 6) tYes (tC (.int (-1))) [6]) [3]) [some (.ref p), some (.ref na), some (.int (d : Int)), none, none, none, none] H5
        ((List.range 4).map fun _ => (List.replicate n.goes.length (-1 : Int)).map V.int) := by
      refine er_lcR1 (n := 4) (fun _ => (List.replicate n.goes.length (-1 : Int)).map V.int) (ea_cons (ev_op ev_c ev_c rv_I0) ea_nil) (by omega) (fun x => rfl) fun i H6 e6 hi => ?_
      refine el_is (el_lcL (a := gl) (xs := gs.map V.ref) (fun _ => true) (fun _ => V.int (-1)) (ev_fld (ev_var rfl) (e6 _ _ (g4 _ _ hno)) T.c_Net T.n_Net_goes lNet_goes) (sq_of (e6 _ _ (g4 _ _ hg1))) (by rw [List.length_map]; omega) (fun x => rfl) (fun j x H7 _ _ => fun H8 e8 Q q => q H8 (Ex.refl H8)) fun j x H7 _ _ _ => ev_c) ?_
      rw [List.length_map, given_all, lg, List.map_replicate]
      apply List.ext_getElem?
      intro j
      rw [List.getElem?_map, List.getElem?_replicate]
      by_cases hj : j < n.goes.length
      · rw [List.getElem?_range hj, if_pos hj]
        rfl
      · rw [List.getElem?_eq_none (by simpa using hj), if_neg hj]
        rfl
    refine q_fldRows er (fun _ => ev_var rfl) p5 T.c_Sureness T.n_Sureness_worths (by show 3 < 1000; decide) fun wm wrows H6 e6 hw nw => ?_
    rw [pSureness_worths]
    have p6 := e6 _ _ p5
    have g7 := fresh (o := .ins (cSur K) dp (FSureness (V.ref na) (nV d) (V.ref cm) (V.ref wm))) (g4.trans e6)
    have t7 : Tabs (tS K) (upd H6 p (.ins (cSur K) dp (FSureness (V.ref na) (nV d) (V.ref cm) (V.ref wm)))) := tabs_but (t4.ext e6) p6 exbut_upd
    have c7 : TabAt (upd H6 p (.ins (cSur K) dp (FSureness (V.ref na) (nV d) (V.ref cm) (V.ref wm)))) cm crows (comeT n) := rows_but (c4.ex e6) p6 exbut_upd
    have w7 : RowsAt (upd H6 p (.ins (cSur K) dp (FSureness (V.ref na) (nV d) (V.ref cm) (V.ref wm)))) wm wrows (tabV (tabI n d 0 [])) := by
      rw [tabI_start]
      unfold tabV
      rw [List.map_map]
      exact rows_but hw p6 exbut_upd
    generalize hH7 : upd H6 p (.ins (cSur K) dp (FSureness (V.ref na) (nV d) (V.ref cm) (V.ref wm))) = H7 at g7 t7 c7 w7 ⊢
    have p7 : H7 p = some (.ins (cSur K) dp (FSureness (V.ref na) (nV d) (V.ref cm) (V.ref wm))) := by rw [← hH7]; exact upd_same
    -- the rows are no objects that stood before
    have wne : ∀ r ∈ wrows, ∀ b o, H5 b = some o → b ≠ r := fun r hr b o hb z => by
      have q := (nw.row r hr).1
      rw [← z, hb] at q
      cases q
    -- turns
    refine q_late (n := n.goes.length) (dep := depOf n) (ev_is (ev_len (ev_fld (ev_var rfl) (g7 _ _ hno) T.c_Net T.n_Net_goes lNet_goes) (sq_of (g7 _ _ hg1))) (by rw [List.length_map, lg])) (by omega) rfl (fun i hi => ?_) t7 fun H8 tq x8 n8 t8 hq => ?_
    · obtain ⟨g, hg⟩ : ∃ g, n.goes[i]? = some g := ⟨_, List.getElem?_eq_getElem hi⟩
      obtain ⟨ga, hga, dg, nm, hgo, _⟩ := paired_at hg2 hg
      have e : depOf n i = g.dep := by
        unfold depOf
        rw [hg]
        rfl
      rw [e]
      exact ⟨dn, _, _, gl, ga, dg, gs, _, _, _, _, g7 _ _ hno, g7 _ _ hg1, by omega, hga, g7 _ _ hgo⟩
    have eql : byLate n.goes.length (depOf n) = Vbtoad.lastFirst n := lastFirst_sort n
    rw [eql] at hq
    have p8 := x8 _ _ p7 fun _ z => by cases z
    have w8 := rows_extN w7 x8
    have c8 : TabAt H8 cm crows (comeT n) := rows_extN c7 x8
    have isl : ∀ r ∈ wrows, ∃ l, H7 r = some (.lst l) := fun r hr => by
      obtain ⟨i, hi⟩ := List.mem_iff_getElem?.mp hr
      have hlt := (List.getElem?_eq_some_iff.mp hi).1
      rw [w7.len] at hlt
      exact ⟨_, w7.row i r _ hi (List.getElem?_eq_getElem hlt)⟩
    have isl8 : ∀ r ∈ wrows, ∃ l, H8 r = some (.lst l) := fun r hr => by
      obtain ⟨l, hl⟩ := isl r hr
      exact ⟨l, x8 _ _ hl fun _ z => by cases z⟩
    -- the anchor of the loops
    have out : ∀ {b : Addr} {o : HO}, H5 b = some o → b ∉ wrows := fun hb z => wne _ z _ _ hb rfl
    have gA : Ex G (noRows wrows H8) := fun b o hb => noRows_at ((nT.ex g7 x8) _ _ hb) (out (g4 _ _ hb))
    have pA : noRows wrows H8 p = some (.ins (cSur K) dp (FSureness (V.ref na) (nV d) (V.ref cm) (V.ref wm))) := noRows_at p8 (out p5)
    have cA : TabAt (noRows wrows H8) cm crows (comeT n) := ⟨noRows_at c8.top (out c4.top), c8.nd, c8.len, fun i r l h1 h2 => noRows_at (c8.row i r l h1 h2) (out (c4.row i r l h1 h2))⟩
    have qA : noRows wrows H8 tq = some (.lst ((Vbtoad.lastFirst n).map nV)) := noRows_at hq fun z => by
      obtain ⟨l, hl⟩ := isl _ z
      exact n8 _ _ hl (fun _ z => by cases z) rfl
    have tA : Tabs (tS K) (noRows wrows H8) := noRows_tabs t8 isl8
    obtain ⟨lnd, llen, lmem⟩ := lastFirst_ok n
    have sur : ∀ {H' : Hp} {W : Tab}, Ex (noRows wrows H8) H' → RowsAt H' wm wrows (tabV W) → SurIs K H' p na cm wm crows wrows n d W := fun e w => ⟨⟨dp, e _ _ pA⟩, hn.ex (gA.trans e), cA.ex e, w⟩
    refine s_forR1 (n := 4) (ea_cons (ev_is (ev_op ev_c ev_c rv_I0) rfl) ea_nil) (by omega) (fun kk σ' H' => (∃ x3 x5 x6, σ' = [some (.ref p), some (.ref na), some (.int (d : Int)), x3, some (.ref tq), x5, x6]) ∧ Ex (noRows wrows H8) H' ∧ RowsAt H' wm wrows (tabV (tabI n d kk [])))
      (fun H9 e9 => ⟨⟨_, _, _, rfl⟩, noRows_ex.trans e9, w8.ex e9⟩) ?_ ?_
    · rintro kk σ' H' hkk ⟨⟨x3, x5, x6, rfl⟩, eA, hw'⟩
      have hk4 : kk < 4 := by omega
      refine s_forLn (a := tq) (xs := (Vbtoad.lastFirst n).map nV) (ev_var rfl) (sq_of (eA _ _ qA)) (fun i σ' H' => (∃ x5 x6, σ' = [some (.ref p), some (.ref na), some (.int (d : Int)), some (.int (kk : Int)), some (.ref tq), x5, x6]) ∧ Ex (noRows wrows H8) H' ∧ RowsAt H' wm wrows (tabV (tabI n d kk ((Vbtoad.lastFirst n).take i))))
        (fun H9 e9 => ⟨⟨_, _, rfl⟩, eA.trans e9, by rw [List.take_zero]; exact hw'.ex e9⟩) (fun i σ' H' _ q => sq_of (q.2.1 _ _ qA)) ?_ ?_
      · rintro i x σ' H' hx ⟨⟨x5, x6, rfl⟩, eA', hW⟩
        rw [List.getElem?_map] at hx
        obtain ⟨j, hj, rfl⟩ := Option.map_eq_some_iff.mp hx
        have hjn : j < n.goes.length := (lmem j).mp (List.mem_of_getElem? hj)
        obtain ⟨g, hg⟩ : ∃ g, n.goes[j]? = some g := ⟨_, List.getElem?_eq_getElem hjn⟩
        obtain ⟨ga, hga, hgo⟩ := paired_at hg2 hg
        have og := go_ok ok hg
        have wok : WorOk n (tabI n d kk ((Vbtoad.lastFirst n).take i)) := ⟨tabI_len n d kk _, fun k hk => tabI_row hk⟩
        have hS := sur eA' hW
        obtain ⟨r, r1, r2, r3⟩ := hS.wrow wok hk4
        have hr : r ∈ wrows := List.mem_of_getElem? r2
        have eGH := gA.trans eA'
        have notin : j ∉ (Vbtoad.lastFirst n).take i := fun z => by
          obtain ⟨m, hm⟩ := List.mem_iff_getElem?.mp z
          rw [List.getElem?_take] at hm
          split at hm
          · rename_i hmi
            have := nodup_inj lnd hm hj
            omega
          · cases hm
        have take1 : (Vbtoad.lastFirst n).take (i + 1) = (Vbtoad.lastFirst n).take i ++ [j] := by
          rw [List.take_add_one, hj]
          rfl
        refine s_setL (j := j) r3 (ev_meth (ev_var rfl) (eA' _ _ pA) lSureness_worth_of (ea_cons (ev_var rfl) (ea_cons (ev_ixL (ev_fld (ev_var rfl) (eGH _ _ hno) T.c_Net T.n_Net_goes lNet_goes) (ev_var rfl) (eGH _ _ hg1) (by rw [List.getElem?_map, hga]; rfl)) ea_nil))
          (spv_pure ⟨p, n, d, _, kk, ga, g, rfl, ⟨⟨na, cm, wm, crows, wrows, hS⟩, ok, hd, wok⟩, hk4, og.fr, og.to, hgo.ex eGH, rfl⟩)) (ev_ixL (ev_fld (ev_var rfl) (eA' _ _ pA) T.c_Sureness T.n_Sureness_worths lSureness_worths) (ev_var rfl) hW.top r1) (ev_var rfl) (by rw [List.length_map, wok.row kk hk4]; exact hjn) fun H9 e9 => ?_
        refine ⟨⟨_, _, rfl⟩, Ex.mut (eA'.trans e9) (noRows_none hr), ?_⟩
        rw [tabI_worth ok hd hk4 (lnd.sublist (List.take_sublist ..)) hg, take1, tabI_more hk4 notin]
        have z := (hW.ex e9).put (l := (((tabI n d kk ((Vbtoad.lastFirst n).take i)).getD kk []).map V.int).set j (.int (Vbtoad.orNone (Vbtoad.worth n (Vbtoad.roadsOf n) d (fewerOf n d kk) (tableUp n d (fewerOf n d kk) ((Vbtoad.lastFirst n).take i)) j)))) r2 (nw.row r hr).2
        have e : tabV ((tabI n d kk ((Vbtoad.lastFirst n).take i)).set kk (((tabI n d kk ((Vbtoad.lastFirst n).take i)).getD kk []).set j (Vbtoad.orNone (Vbtoad.worth n (Vbtoad.roadsOf n) d (fewerOf n d kk) (tableUp n d (fewerOf n d kk) ((Vbtoad.lastFirst n).take i)) j)))) =
            (tabV (tabI n d kk ((Vbtoad.lastFirst n).take i))).set kk ((((tabI n d kk ((Vbtoad.lastFirst n).take i)).getD kk []).map V.int).set j (.int (Vbtoad.orNone (Vbtoad.worth n (Vbtoad.roadsOf n) d (fewerOf n d kk) (tableUp n d (fewerOf n d kk) ((Vbtoad.lastFirst n).take i)) j)))) := by
          unfold tabV
          rw [List.map_set, List.map_set]
        rw [e]
        exact z
      · rintro σ' H' ⟨⟨x5, x6, rfl⟩, eA', hW⟩
        rw [List.length_map, List.take_length, tabI_next] at hW
        exact ⟨⟨_, _, _, rfl⟩, eA', hW⟩
    · rintro σ' H' ⟨⟨x3, x5, x6, rfl⟩, eA', hW⟩
      have e4 : ((4 : Int)).toNat = 4 := rfl
      rw [e4, tabI_end] at hW
      refine k H' (gA.trans eA') (tA.ext eA') ⟨⟨na, cm, wm, crows, wrows, sur eA' hW⟩, ok, hd, by show ((List.range 4).map (rowK n d)).length = 4; rw [List.length_map, List.length_range], fun k hk => ?_⟩
      show ((tabK n d).getD k []).length = _
      rw [tabK_row hk]
      exact rowOf_len n _
end SJ
/-! Journeys: steps, last minutes. -/
namespace SJ
open PySem PySem.Spec PyProof.Rows L2 Evl LamX
/-- what is read of an object that knows what's sure -/
structure SurView (K : PySem.W.Frag) (H : Hp) (a : Addr) (n : Vbtoad.Net) (d : Nat) (na pl cl gl cm wm : Addr) (rows wrows cs gs : List Addr) : Prop where
  obj : ∃ dx, H a = some (.ins (cSur K) dx (FSureness (.ref na) (nV d) (.ref cm) (.ref wm)))
  net : ∃ dn, H na = some (.ins (cNet K) dn (FNet (.ref pl) (.ref cl) (.ref gl)))
  cl : H cl = some (.lst (cs.map V.ref))
  gl : H gl = some (.lst (gs.map V.ref))
  cs : Paired (CarAt K H) cs n.cars
  gs : Paired (GoAt K H) gs n.goes
  nat : NetAt K H na n
  wor : TabAt H wm wrows (tabK n d)
theorem SurP.view {K : PySem.W.Frag} {H : Hp} {a : Addr} {n : Vbtoad.Net} {d : Nat} (h : SurK K H a n d) : ∃ na pl cl gl cm wm rows wrows cs gs, SurView K H a n d na pl cl gl cm wm rows wrows cs gs := by
  obtain ⟨⟨na, cm, wm, rows, wrows, ⟨obj, net, come, wor⟩⟩, -⟩ := h
  obtain ⟨pl, cl, gl, dn, hpl, ⟨cs, c1, c2⟩, ⟨gs, g1, g2⟩⟩ := id net
  exact ⟨na, pl, cl, gl, cm, wm, rows, wrows, cs, gs, obj, dn, c1, g1, c2, g2, net, wor⟩
def sp_behind_car (K : PySem.W.Frag) : Sp := PureU fun vs G xs => ∃ (a : Addr) (n : Vbtoad.Net) (d t i : Nat) (c : Vbtoad.Car), vs = [.ref a, .int (t : Int), .int (i : Int)] ∧ SurK K G a n d ∧ n.cars[i]? = some c ∧ xs = [nV (t + c.long + stay n d c.to_), nV c.to_]
theorem sc_behind_car : FnScope ["sureness", "minute", "number", "car"] ["sureness", "minute", "number"] (defScope s_behind_car) := ⟨rfl, rfl, rfl, by decide +kernel, rfl, by decide +kernel, by decide +kernel⟩
theorem ok_behind_car {P : Program} {w : World} {K : PySem.W.Frag} {mg : Str → Option Value} {base : Heap} (T : Txt w K mg) : OkD P w K mg base CX0 1 (He.ga K "behind_car") ["sureness", "minute", "number"] (sp_behind_car K) := by
  obtain ⟨fd, F⟩ := T.f_behind_car
  refine ⟨fd, F.ok sc_behind_car (fun vs H Q E h => ?_) (fun cdv A outer s H vs Q E hr h => ?_), F.bindsN fun _ _ _ _ _ _ us hl => match us, hl with | [_, _, _], _ => rfl, F.kp⟩
  · obtain ⟨xs, G, eG, ⟨a, n, d, t, i, c, rfl, hS, hc, rfl⟩, k⟩ := h
    rfl
  · refine ⟨_, PSs.nox (pss_cons (ps_set (i := 3) sc_behind_car.nd rfl (Or.inl rfl) (pe_ix ix_list (pe_fld (pe_fld (pv 0) rfl) rfl) (pv 2) (fun _ _ => rfl))) (pss_cons (ps_if (pt_cmpR op_eq (pe_fld (pv 3) rfl) (pe_fld (pv 0) rfl) (nomark _)) (pss_one (ps_ret (pe_tup (pa_cons (pe_op op_add (pv 1) (pe_fld (pv 3) rfl)) (pa_cons (pe_fld (pv 3) rfl) pa_nil))))) pss_nil) (pss_one (ps_ret (pe_tup (pa_cons (pe_op op_add (pe_op op_add (pv 1) (pe_fld (pv 3) rfl)) (pe_fld (pe_ix ix_list (pe_fld (pe_fld (pv 0) rfl) rfl) (pe_fld (pv 3) rfl) (fun _ _ => rfl)) rfl)) (pa_cons (pe_fld (pv 3) rfl) pa_nil))))))), ?_⟩
    obtain ⟨xs, G, eG, ⟨a, n, d, t, i, c, rfl, hS, hc, rfl⟩, k⟩ := h
    obtain ⟨na, pl, cl, gl, cm, wm, rows, wrows, cs, gs, ⟨⟨dx, ho⟩, ⟨dn, hno⟩, hcl, hgl, hcs, hgs, hnet, -⟩⟩ := hS.view
    have ok := hS.2.1
    obtain ⟨ca, hca, dc, nm, hc0, _⟩ := paired_at hcs hc
    have oc := ok.c c (List.mem_of_getElem? hc)
    refine q_asg (ev_ixL (ev_fld (ev_fld (ev_var rfl) (eG _ _ ho) T.c_Sureness T.n_Sureness_net lSureness_net) (eG _ _ hno) T.c_Net T.n_Net_cars lNet_cars) (ev_var rfl) (eG _ _ hcl) (by rw [List.getElem?_map, hca]; rfl)) fun H1 e1 => ?_
    have eH1 := eG.trans e1
    have to : ∀ {x : L2.St} {H2 : Hp}, Ex H1 H2 → x[3]? = some (some (.ref ca)) → Ev (tFld K (tVar 3) "end") x H2 (nV c.to_) := fun e2 h => ev_fld (ev_var h) (e2 _ _ (eH1 _ _ hc0)) T.c_Car T.n_Car_end lCar_end
    have lg : ∀ {x : L2.St} {H2 : Hp}, Ex H1 H2 → x[3]? = some (some (.ref ca)) → Ev (tFld K (tVar 3) "long") x H2 (nV c.long) := fun e2 h => ev_fld (ev_var h) (e2 _ _ (eH1 _ _ hc0)) T.c_Car T.n_Car_long lCar_long
    refine q_when (et_test (ev_eqI (to (Ex.refl _) rfl) (ev_fld (ev_var rfl) (eH1 _ _ ho) T.c_Sureness T.n_Sureness_goal lSureness_goal))) (fun hb H2 e2 => ?_) (fun hb H2 e2 => ?_)
    · have e : c.to_ = d := by have := of_decide_eq_true hb; omega
      refine s_retU (eu_tup (ea_cons (ev_is (ev_op (ev_var rfl) (lg e2 rfl) rv_I0) (congrArg V.int ?_)) (ea_cons (to e2 rfl) ea_nil)) (by show 2 ≤ 100000; decide)) fun p H3 hp e3 h3 => k p H3 (fresh_back (e1.trans e2) hp) ((e1.trans e2).trans e3) h3
      unfold stay
      rw [if_pos e]
      show (t : Int) + (c.long : Int) = ((t + c.long + 0 : Nat) : Int)
      omega
    · have e : ¬ c.to_ = d := by have := of_decide_eq_false hb; omega
      refine s_retU (eu_tup (ea_cons (ev_is (ev_op (ev_op (ev_var rfl) (lg e2 rfl) rv_I0) (ev_hand T (ev_fld (ev_var rfl) (e2 _ _ (eH1 _ _ ho)) T.c_Sureness T.n_Sureness_net lSureness_net) (hnet.ex (eH1.trans e2)) (to e2 rfl) oc.to) rv_I0) (congrArg V.int ?_)) (ea_cons (to e2 rfl) ea_nil)) (by show 2 ≤ 100000; decide)) fun p H3 hp e3 h3 => k p H3 (fresh_back (e1.trans e2) hp) ((e1.trans e2).trans e3) h3
      unfold stay
      rw [if_neg e]
      show (t : Int) + (c.long : Int) + (Vbtoad.handlingAt n c.to_ : Int) = ((t + c.long + Vbtoad.handlingAt n c.to_ : Nat) : Int)
      omega
def sp_behind_going (K : PySem.W.Frag) : Sp := PureU fun vs G xs => ∃ (a : Addr) (n : Vbtoad.Net) (d : Nat) (ga : Addr) (g : Vbtoad.Go), vs = [.ref a, .ref ga] ∧ SurK K G a n d ∧ GoAt K G ga g ∧ g.to_ < n.places.length ∧ xs = [nV (g.arr + stay n d g.to_), nV g.to_]
theorem sc_behind_going : FnScope ["sureness", "go"] ["sureness", "go"] (defScope s_behind_going) := ⟨rfl, rfl, rfl, by decide +kernel, rfl, by decide +kernel, by decide +kernel⟩
theorem ok_behind_going {P : Program} {w : World} {K : PySem.W.Frag} {mg : Str → Option Value} {base : Heap} (T : Txt w K mg) : OkD P w K mg base CX0 1 (He.ga K "behind_going") ["sureness", "go"] (sp_behind_going K) := by
  obtain ⟨fd, F⟩ := T.f_behind_going
  refine ⟨fd, F.ok sc_behind_going (fun vs H Q E h => ?_) (fun cdv A outer s H vs Q E hr h => ?_), F.bindsN fun _ _ _ _ _ _ us hl => match us, hl with | [_, _], _ => rfl, F.kp⟩
  · obtain ⟨xs, G, eG, ⟨a, n, d, ga, g, rfl, hS, hg, hto, rfl⟩, k⟩ := h
    rfl
  · refine ⟨_, PSs.nox (pss_cons (ps_if (pt_cmpR op_eq (pe_fld (pv 1) rfl) (pe_fld (pv 0) rfl) (nomark _)) (pss_one (ps_ret (pe_tup (pa_cons (pe_fld (pv 1) rfl) (pa_cons (pe_fld (pv 1) rfl) pa_nil))))) pss_nil) (pss_one (ps_ret (pe_tup (pa_cons (pe_op op_add (pe_fld (pv 1) rfl) (pe_fld (pe_ix ix_list (pe_fld (pe_fld (pv 0) rfl) rfl) (pe_fld (pv 1) rfl) (fun _ _ => rfl)) rfl)) (pa_cons (pe_fld (pv 1) rfl) pa_nil)))))), ?_⟩
    obtain ⟨xs, G, eG, ⟨a, n, d, ga, g, rfl, hS, hg, hto, rfl⟩, k⟩ := h
    obtain ⟨na, pl, cl, gl, cm, wm, rows, wrows, cs, gs, ⟨⟨dx, ho⟩, ⟨dn, hno⟩, hcl, hgl, hcs, hgs, hnet, -⟩⟩ := hS.view
    obtain ⟨dg, nm, hg0, _⟩ := hg
    have to : ∀ {x : L2.St} {H2 : Hp}, Ex H H2 → x[1]? = some (some (.ref ga)) → Ev (tFld K (tVar 1) "end") x H2 (nV g.to_) := fun e2 h => ev_fld (ev_var h) (e2 _ _ (eG _ _ hg0)) T.c_Departure T.n_Departure_end lDeparture_end
    have cm : ∀ {x : L2.St} {H2 : Hp}, Ex H H2 → x[1]? = some (some (.ref ga)) → Ev (tFld K (tVar 1) "comes") x H2 (nV g.arr) := fun e2 h => ev_fld (ev_var h) (e2 _ _ (eG _ _ hg0)) T.c_Departure T.n_Departure_comes lDeparture_comes
    refine q_when (et_test (ev_eqI (to (Ex.refl _) rfl) (ev_fld (ev_var rfl) (eG _ _ ho) T.c_Sureness T.n_Sureness_goal lSureness_goal))) (fun hb H2 e2 => ?_) (fun hb H2 e2 => ?_)
    · have e : g.to_ = d := by have := of_decide_eq_true hb; omega
      refine s_retU (eu_tup (ea_cons (ev_is (cm e2 rfl) (congrArg V.int ?_)) (ea_cons (to e2 rfl) ea_nil)) (by show 2 ≤ 100000; decide)) fun p H3 hp e3 h3 => k p H3 (fresh_back e2 hp) (e2.trans e3) h3
      unfold stay
      rw [if_pos e]
      omega
    · have e : ¬ g.to_ = d := by have := of_decide_eq_false hb; omega
      refine s_retU (eu_tup (ea_cons (ev_is (ev_op (cm e2 rfl) (ev_hand T (ev_fld (ev_var rfl) (e2 _ _ (eG _ _ ho)) T.c_Sureness T.n_Sureness_net lSureness_net) (hnet.ex (eG.trans e2)) (to e2 rfl) hto) rv_I0) (congrArg V.int ?_)) (ea_cons (to e2 rfl) ea_nil)) (by show 2 ≤ 100000; decide)) fun p H3 hp e3 h3 => k p H3 (fresh_back e2 hp) (e2.trans e3) h3
      unfold stay
      rw [if_neg e]
      show (g.arr : Int) + (Vbtoad.handlingAt n g.to_ : Int) = ((g.arr + Vbtoad.handlingAt n g.to_ : Nat) : Int)
      omega
def sp_is_step (K : PySem.W.Frag) : Sp := PureSp fun vs G z => ∃ (a : Addr) (n : Vbtoad.Net) (d kk t p : Nat), vs = [.ref a, .int (kk : Int), .int (t : Int), .int (p : Int)] ∧ SurK K G a n d ∧ kk < 4 ∧ p < n.places.length ∧ z = .bl (stepB n d kk p t)
theorem ev_sure {K : PySem.W.Frag} {σ : L2.St} {H G : Hp} {ts tk tt tp : TE} {a : Addr} {n : Vbtoad.Net} {d kk t p : Nat} (hS : SurK K G a n d) (e : Ex G H) (h0 : Ev ts σ H (.ref a)) (h1 : Ev tk σ H (.int (kk : Int))) (h2 : Ev tt σ H (.int (t : Int))) (h3 : Ev tp σ H (.int (p : Int))) (hk : kk < 4) (hp : p < n.places.length) :
    Ev (tMeth (cSur K) "sure" (sp_Sureness_sure K) [] E0 ts (tCons tk (tCons tt (tCons tp tNil)))) σ H (.int (Vbtoad.orNone (sureK n d kk p t))) := by
  obtain ⟨⟨na, cm, wm, rows, wrows, ⟨⟨dx, ho⟩, -, -, -⟩⟩, -⟩ := id hS
  exact ev_is (ev_meth h0 (e _ _ ho) lSureness_sure (ea_cons h1 (ea_cons h2 (ea_cons h3 ea_nil))) (spv_pure ⟨a, n, d, _, kk, t, p, rfl, hS.ex e, hk, hp, rfl⟩)) (by rw [tabK_row hk, sureI_K])
theorem ev_byc {K : PySem.W.Frag} {σ : L2.St} {H G : Hp} {ts tp : TE} {a : Addr} {n : Vbtoad.Net} {d p : Nat} (hS : SurK K G a n d) (e : Ex G H) (h0 : Ev ts σ H (.ref a)) (h1 : Ev tp σ H (.int (p : Int))) (hp : p < n.places.length) :
    Ev (tMeth (cSur K) "by_cars" (sp_Sureness_by_cars K) [] E0 ts (tCons tp tNil)) σ H (.int (Vbtoad.orNone (fwD n p d))) := by
  obtain ⟨⟨na, cm, wm, rows, wrows, ⟨⟨dx, ho⟩, -, -, -⟩⟩, -⟩ := id hS
  exact ev_meth h0 (e _ _ ho) lSureness_by_cars (ea_cons h1 ea_nil) (spv_pure ⟨a, n, d, _, p, rfl, hS.ex e, hp, rfl⟩)
theorem ev_rdy {K : PySem.W.Frag} {σ : L2.St} {H G : Hp} {ts tp tu : TE} {a : Addr} {n : Vbtoad.Net} {d p u : Nat} (hS : SurK K G a n d) (e : Ex G H) (h0 : Ev ts σ H (.ref a)) (h1 : Ev tp σ H (.int (p : Int))) (h2 : Ev tu σ H (.int (u : Int))) (hp : p < n.places.length) (hu : u < n.places.length) :
    Ev (tMeth (cSur K) "ready_in" (sp_Sureness_ready_in K) [] E0 ts (tCons tp (tCons tu tNil))) σ H (.int (Vbtoad.orNone (rdy n p u))) := by
  obtain ⟨⟨na, cm, wm, rows, wrows, ⟨⟨dx, ho⟩, -, -, -⟩⟩, -⟩ := id hS
  exact ev_meth h0 (e _ _ ho) lSureness_ready_in (ea_cons h1 (ea_cons h2 ea_nil)) (spv_pure ⟨a, n, d, _, p, u, rfl, hS.ex e, hp, hu, rfl⟩)
theorem sc_is_step : FnScope ["sureness", "k", "minute", "place", "here", "by_cars", "behind"] ["sureness", "k", "minute", "place"] (defScope s_is_step) := ⟨rfl, rfl, rfl, by decide +kernel, rfl, by decide +kernel, by decide +kernel⟩
theorem ok_is_step {P : Program} {w : World} {K : PySem.W.Frag} {mg : Str → Option Value} {base : Heap} (T : Txt w K mg) : OkD P w K mg base CX0 5 (He.ga K "is_step") ["sureness", "k", "minute", "place"] (sp_is_step K) := by
  obtain ⟨fd_Sureness_sure, G_Sureness_sure, B_Sureness_sure, K_Sureness_sure⟩ := ok_Sureness_sure (P := P) (w := w) (base := base) T
  obtain ⟨fd_Sureness_by_cars, G_Sureness_by_cars, B_Sureness_by_cars, K_Sureness_by_cars⟩ := ok_Sureness_by_cars (P := P) (w := w) (base := base) T
  obtain ⟨fd, F⟩ := T.f_is_step
  refine ⟨fd, F.ok sc_is_step (fun vs H Q E h => ?_) (fun cdv A outer s H vs Q E hr h => ?_), F.bindsN fun _ _ _ _ _ _ us hl => match us, hl with | [_, _, _, _], _ => rfl, F.kp⟩
  · obtain ⟨z, G, eG, ⟨a, n, d, kk, t, p, rfl, hS, hk, hp, rfl⟩, k⟩ := h
    rfl
  · refine ⟨_, PSs.nox (pss_cons (ps_set (i := 4) sc_is_step.nd rfl (Or.inl rfl) (pe_meth (pv 0) T.c_Sureness T.m_Sureness_sure G_Sureness_sure (hr.mono (by decide)) B_Sureness_sure .nil pass0 (pa_cons (pv 1) (pa_cons (pv 2) (pa_cons (pv 3) pa_nil))))) (pss_cons (ps_set (i := 5) sc_is_step.nd rfl (Or.inl rfl) (pe_meth (pv 0) T.c_Sureness T.m_Sureness_by_cars G_Sureness_by_cars (hr.mono (by decide)) B_Sureness_by_cars .nil pass0 (pa_cons (pv 3) pa_nil))) (pss_cons (ps_if (PW.pt (pw_or (pt_cmpR op_eq (pv 4) (pe_gint T.i_NONE) (nomark _)) (pw_or1 (PW.pt (pw_and (pt_cmpR op_ne (pv 5) (pe_gint T.i_NONE) (nomark _)) (pw_and1 (pt_cmpR op_ge (pv 4) (pe_op op_add (pv 2) (pv 5)) (nomark _)))))))) (pss_one (ps_ret pe_bl)) pss_nil) (pss_cons (ps_set (i := 6) sc_is_step.nd rfl (Or.inl rfl) (pe_meth (pv 0) T.c_Sureness T.m_Sureness_sure G_Sureness_sure (hr.mono (by decide)) B_Sureness_sure .nil pass0 (pa_cons (pv 1) (pa_cons (pe_op op_add (pv 2) pe_int) (pa_cons (pv 3) pa_nil))))) (pss_one (ps_ret (pe_or (pe_cmpR op_eq (pv 6) (pe_gint T.i_NONE) (nomark _)) (pe_one (pe_cmpR op_gt (pv 6) (pv 4) (nomark _)))))))))), ?_⟩
    obtain ⟨z, G, eG, ⟨a, n, d, kk, t, p, rfl, hS, hk, hp, rfl⟩, k⟩ := h
    refine q_asg (ev_sure hS eG (ev_var rfl) (ev_var rfl) (ev_var rfl) (ev_var rfl) hk hp) fun H1 e1 => ?_
    refine q_asg (ev_byc hS (eG.trans e1) (ev_var rfl) (ev_var rfl) hp) fun H2 e2 => ?_
    have eH2 := eG.trans (e1.trans e2)
    refine q_when (et_or (et_test (ev_eqI (ev_var rfl) ev_c)) fun _ => et_and (et_test (ev_neI (ev_var rfl) ev_c)) fun _ => et_test (ev_op (ev_var rfl) (ev_op (ev_var rfl) (ev_var rfl) rv_I0) rv_I0)) (fun hb H3 e3 => ?_) (fun hb H3 e3 => ?_)
    · refine s_ret ev_c fun H4 e4 => bl_eq (k _ ((e1.trans e2).trans (e3.trans e4))) ?_
      unfold stepB
      exact (if_pos hb).symm
    · refine q_asg (ev_sure (t := t + 1) hS (eH2.trans e3) (ev_var rfl) (ev_var rfl) (ev_is (ev_op (ev_var rfl) ev_c rv_I0) (congrArg V.int (by show (t : Int) + 1 = ((t + 1 : Nat) : Int); omega))) (ev_var rfl) hk hp) fun H4 e4 => ?_
      refine s_ret (ev_orV (ev_eqI (ev_var rfl) ev_c) fun _ => ev_op (ev_var rfl) (ev_var rfl) rv_I0) fun H5 e5 => bl_eq (k _ (((e1.trans e2).trans e3).trans (e4.trans e5))) ?_
      unfold stepB
      exact (if_neg (by rw [hb]; decide)).symm
def sp_last_minute (K : PySem.W.Frag) : Sp := PureSp fun vs G z => ∃ (a : Addr) (n : Vbtoad.Net) (d kk l p : Nat), vs = [.ref a, .int (kk : Int), .int (l : Int), .int (p : Int)] ∧ SurK K G a n d ∧ kk < 4 ∧ p < n.places.length ∧ z = .int (lastI n d kk p l)
theorem max_if {i j : Int} : (if j > i then j else i) = max i j := by
  by_cases h : j > i
  · rw [if_pos h, Int.max_eq_right (by omega)]
  · rw [if_neg h, Int.max_eq_left (by omega)]
theorem sc_last_minute : FnScope ["sureness", "k", "limit", "place", "found", "go", "worth", "long"] ["sureness", "k", "limit", "place"] (defScope s_last_minute) := ⟨rfl, rfl, rfl, by decide +kernel, rfl, by decide +kernel, by decide +kernel⟩
theorem ok_last_minute {P : Program} {w : World} {K : PySem.W.Frag} {mg : Str → Option Value} {base : Heap} (T : Txt w K mg) : OkD P w K mg base CX0 3 (He.ga K "last_minute") ["sureness", "k", "limit", "place"] (sp_last_minute K) := by
  obtain ⟨fd_Sureness_ready_in, G_Sureness_ready_in, B_Sureness_ready_in, K_Sureness_ready_in⟩ := ok_Sureness_ready_in (P := P) (w := w) (base := base) T
  obtain ⟨fd_Sureness_by_cars, G_Sureness_by_cars, B_Sureness_by_cars, K_Sureness_by_cars⟩ := ok_Sureness_by_cars (P := P) (w := w) (base := base) T
  obtain ⟨fd, F⟩ := T.f_last_minute
  refine ⟨fd, F.ok sc_last_minute (fun vs H Q E h => ?_) (fun cdv A outer s H vs Q E hr h => ?_), F.bindsN fun _ _ _ _ _ _ us hl => match us, hl with | [_, _, _, _], _ => rfl, F.kp⟩
  · obtain ⟨z, G, eG, ⟨a, n, d, kk, l, p, rfl, hS, hk, hp, rfl⟩, k⟩ := h
    rfl
  · refine ⟨_, PSs.nox (pss_cons (ps_if (pt_cmpR op_eq (pv 3) (pe_fld (pv 0) rfl) (nomark _)) (pss_one (ps_ret (pv 2))) pss_nil) (pss_cons (ps_set (i := 4) sc_last_minute.nd rfl (Or.inl rfl) (pe_gint T.i_NONE)) (pss_cons (ps_if (pt_cmpR op_ne (pe_meth (pv 0) T.c_Sureness T.m_Sureness_by_cars G_Sureness_by_cars (hr.mono (by decide)) B_Sureness_by_cars .nil pass0 (pa_cons (pv 3) pa_nil)) (pe_gint T.i_NONE) (nomark _)) (pss_one (ps_set (i := 4) sc_last_minute.nd rfl (Or.inl rfl) (pe_callB (call_max2 rfl) (by rfl) T.b_max (by decide +kernel) (pa_cons (pv 4) (pa_cons (pe_op op_sub (pv 2) (pe_meth (pv 0) T.c_Sureness T.m_Sureness_by_cars G_Sureness_by_cars (hr.mono (by decide)) B_Sureness_by_cars .nil pass0 (pa_cons (pv 3) pa_nil))) pa_nil))))) pss_nil) (pss_cons (ps_for PassesOwn.never rfl (pi_zip rfl T.b_zip (pa_cons (pe_fld (pe_fld (pv 0) rfl) rfl) (pa_cons (pe_ix ix_list (pe_fld (pv 0) rfl) (pv 1) (fun _ _ => rfl)) pa_nil))) (pg_tup rfl (pgs_cons (pg_name (i := 5) sc_last_minute.nd rfl (Or.inl rfl)) (pgs_cons (pg_name (i := 6) sc_last_minute.nd rfl (Or.inl rfl)) pgs_nil))) (pss_cons (ps_set (i := 7) sc_last_minute.nd rfl (Or.inl rfl) (pe_meth (pv 0) T.c_Sureness T.m_Sureness_ready_in G_Sureness_ready_in (hr.mono (by decide)) B_Sureness_ready_in .nil pass0 (pa_cons (pv 3) (pa_cons (pe_fld (pv 5) rfl) pa_nil)))) (pss_one (ps_if (PW.pt (pw_and (pt_cmpR op_ne (pv 6) (pe_gint T.i_NONE) (nomark _)) (pw_and (pt_cmpR op_le (pv 6) (pv 2) (nomark _)) (pw_and1 (pt_cmpR op_ne (pv 7) (pe_gint T.i_NONE) (nomark _)))))) (pss_one (ps_set (i := 4) sc_last_minute.nd rfl (Or.inl rfl) (pe_callB (call_max2 rfl) (by rfl) T.b_max (by decide +kernel) (pa_cons (pv 4) (pa_cons (pe_op op_sub (pe_fld (pv 5) rfl) (pv 7)) pa_nil))))) pss_nil)))) (pss_one (ps_ret (pv 4))))))), ?_⟩
    obtain ⟨z, G, eG, ⟨a, n, d, kk, l, p, rfl, hS, hk, hp, rfl⟩, k⟩ := h
    obtain ⟨⟨na, cm, wm, rows, wrows, hI⟩, ok, hd, wok⟩ := id hS
    obtain ⟨wr, hw1, hw2, hw3⟩ := hI.wrow wok hk
    rw [tabK_row hk] at hw3
    obtain ⟨⟨dx, ho⟩, hnet, hcome, hwor⟩ := hI
    obtain ⟨pl, cl, gl, ⟨dn, hno⟩, -, -, ⟨gs, hg1, hg2⟩⟩ := id hnet
    have lg : gs.length = n.goes.length := paired_len hg2
    have lr : (rowK n d kk).length = n.goes.length := rowOf_len n _
    refine q_when (et_test (ev_eqI (ev_var rfl) (ev_fld (ev_var rfl) (eG _ _ ho) T.c_Sureness T.n_Sureness_goal lSureness_goal))) (fun hc H1 e1 => ?_) (fun hc H1 e1 => ?_)
    · refine s_ret (ev_var rfl) fun H2 e2 => int_eq (k _ (e1.trans e2)) ?_
      unfold lastI
      rw [if_pos (by have := of_decide_eq_true hc; omega)]
    · have ne : ¬ p = d := by have := of_decide_eq_false hc; omega
      refine q_asg ev_c fun H2 e2 => ?_
      have e12 := e1.trans e2
      refine q_ifAsg (b := !decide (Vbtoad.orNone (fwD n p d) = -1)) (v := .int (if Vbtoad.orNone (fwD n p d) = -1 then -1 else max (-1) ((l : Int) - Vbtoad.orNone (fwD n p d)))) (et_test (ev_neI (ev_byc hS (eG.trans e12) (ev_var rfl) (ev_var rfl) hp) ev_c)) ?_ ?_ fun H3 e3 => ?_
      · intro hb
        have h : ¬ Vbtoad.orNone (fwD n p d) = -1 := fun z => by
          rw [decide_eq_true z] at hb
          cases hb
        rw [if_neg h]
        exact ev_is (ev_max2 (ev_var rfl) (ev_op (ev_var rfl) (ev_byc hS (eG.trans e12) (ev_var rfl) (ev_var rfl) hp) rv_I0)) (congrArg V.int max_if)
      · intro hb
        have h : Vbtoad.orNone (fwD n p d) = -1 := by
          by_cases z : Vbtoad.orNone (fwD n p d) = -1
          · exact z
          · rw [decide_eq_false z] at hb
            cases hb
        rw [if_pos h]
        rfl
      have eH3 := eG.trans (e12.trans e3)
      refine q_forZ (a := gl) (b := wr) (xs := gs.map V.ref) (ys := (rowK n d kk).map V.int) (ea_cons (ev_fld (ev_fld (ev_var rfl) (eH3 _ _ ho) T.c_Sureness T.n_Sureness_net lSureness_net) (eH3 _ _ hno) T.c_Net T.n_Net_goes lNet_goes)
        (ea_cons (ev_ixL (ev_fld (ev_var rfl) (eH3 _ _ ho) T.c_Sureness T.n_Sureness_worths lSureness_worths) (ev_var rfl) (eH3 _ _ hwor.top) hw1) ea_nil)) (eH3 _ _ hg1) (eH3 _ _ hw3) (by rw [List.length_map, List.length_map, lg, lr])
        (fun i σ => ∃ x1 x2 x3, σ = [some (.ref a), some (.int (kk : Int)), some (.int (l : Int)), some (.int (p : Int)), some (.int (((n.goes.zip (rowK n d kk)).take i).foldl (lastStep n p l) (if Vbtoad.orNone (fwD n p d) = -1 then -1 else max (-1) ((l : Int) - Vbtoad.orNone (fwD n p d))))), x1, x2, x3]) ⟨_, _, _, rfl⟩ ?_ ?_
      · rintro i x y σ' H' e' hx hy ⟨x1, x2, x3, rfl⟩
        have eH' := eH3.trans e'
        rw [List.getElem?_map] at hx hy
        obtain ⟨ga, hga, rfl⟩ := Option.map_eq_some_iff.mp hx
        obtain ⟨wi, hwi, rfl⟩ := Option.map_eq_some_iff.mp hy
        obtain ⟨g, hg⟩ : ∃ g, n.goes[i]? = some g := ⟨_, List.getElem?_eq_getElem (by rw [← lg]; exact (List.getElem?_eq_some_iff.mp hga).1)⟩
        obtain ⟨ga', h0, hgo⟩ := paired_at hg2 hg
        rw [hga] at h0
        cases h0
        obtain ⟨dg, nm, hg0, _⟩ := hgo
        have og := ok.g g (List.mem_of_getElem? hg)
        have more : ((n.goes.zip (rowK n d kk)).take (i + 1)).foldl (lastStep n p l) (if Vbtoad.orNone (fwD n p d) = -1 then -1 else max (-1) ((l : Int) - Vbtoad.orNone (fwD n p d))) = lastStep n p l (((n.goes.zip (rowK n d kk)).take i).foldl (lastStep n p l) (if Vbtoad.orNone (fwD n p d) = -1 then -1 else max (-1) ((l : Int) - Vbtoad.orNone (fwD n p d)))) (g, wi) := by
          rw [List.take_add_one, (List.getElem?_zip_eq_some (z := (g, wi))).mpr ⟨hg, hwi⟩, List.foldl_append]
          rfl
        generalize ((n.goes.zip (rowK n d kk)).take i).foldl (lastStep n p l) (if Vbtoad.orNone (fwD n p d) = -1 then -1 else max (-1) ((l : Int) - Vbtoad.orNone (fwD n p d))) = f at more
        refine q_asg (ev_rdy hS eH' (ev_var rfl) (ev_var rfl) (ev_fld (ev_var rfl) (eH' _ _ hg0) T.c_Departure T.n_Departure_start lDeparture_start) hp og.fr) fun H4 e4 => ?_
        have eH4 := eH'.trans e4
        refine s_when (b := lastC n p l (g, wi)) (et_is (et_and (et_test (ev_neI (ev_var rfl) ev_c)) fun _ => et_and (et_test (ev_op (ev_var rfl) (ev_var rfl) rv_I0)) fun _ => et_test (ev_neI (ev_var rfl) ev_c)) rfl) (fun hb H5 e5 => ?_) (fun hb H5 e5 => ?_)
        · refine s_asg (ev_max2 (ev_var rfl) (ev_op (ev_fld (ev_var rfl) (e5 _ _ (eH4 _ _ hg0)) T.c_Departure T.n_Departure_leaves lDeparture_leaves) (ev_var rfl) rv_I0)) fun H6 e6 => ⟨e'.trans ((e4.trans e5).trans e6), some (.ref ga), some (.int wi), some (.int (Vbtoad.orNone (rdy n p g.from_))), ?_⟩
          rw [more]
          unfold lastStep
          rw [if_pos hb]
          rw [max_if]
          rfl
        · refine ⟨e'.trans (e4.trans e5), some (.ref ga), some (.int wi), some (.int (Vbtoad.orNone (rdy n p g.from_))), ?_⟩
          rw [more]
          unfold lastStep
          rw [hb, if_neg (by decide)]
          rfl
      · rintro σ' H' e' ⟨x1, x2, x3, rfl⟩
        refine s_ret (ev_var rfl) fun H4 e4 => int_eq (k _ ((e12.trans e3).trans (e'.trans e4))) ?_
        unfold lastI
        rw [if_neg ne, List.take_of_length_le (by rw [List.length_zip, List.length_map, lg]; omega)]
end SJ
/-! Journeys played, worst cases. -/
namespace SJ
open PySem PySem.Spec PyProof.Rows L2 Evl LamX
section
variable {K : PySem.W.Frag} {σ : L2.St} {H G : Hp} {ts tk tt tp te tl : TE} {a : Addr} {n : Vbtoad.Net} {d kk t p i : Nat} {D : Ends} {tz : TS}
/-- sureness.to_do(k, minute, place) -/
theorem eu_todo (hS : SurK K G a n d) (e : Ex G H) (h0 : Ev ts σ H (.ref a)) (h1 : Ev tk σ H (.int (kk : Int))) (h2 : Ev tt σ H (.int (t : Int))) (h3 : Ev tp σ H (.int (p : Int))) (hk : kk < 4) (hp : p < n.places.length) :
    EvU (tMeth (cSur K) "to_do" (sp_Sureness_to_do K) [] E0 ts (tCons tk (tCons tt (tCons tp tNil)))) σ H [.int (actI (Vbtoad.toDo n (Vbtoad.roadsOf n) d kk p t)).1, .int (actI (Vbtoad.toDo n (Vbtoad.roadsOf n) d kk p t)).2] := by
  obtain ⟨⟨na, cm, wm, rows, wrows, ⟨⟨dx, ho⟩, -, -, -⟩⟩, -⟩ := id hS
  exact eu_meth h0 (e _ _ ho) lSureness_to_do (ea_cons h1 (ea_cons h2 (ea_cons h3 ea_nil))) (spu_pure ⟨a, n, d, kk, t, p, rfl, hS.ex e, hk, hp, rfl⟩)
theorem ev_canc {tg : TE} {ga : Addr} {g : Vbtoad.Go} {x : Nat} (hS : SurK K G a n d) (e : Ex G H) (h0 : Ev ts σ H (.ref a)) (h1 : Ev tk σ H (.int ((x + 1 : Nat) : Int))) (h2 : Ev tg σ H (.ref ga)) (hk : x < 4) (hf : g.from_ < n.places.length) (hg : GoAt K G ga g) :
    Ev (tMeth (cSur K) "if_cancelled" (sp_Sureness_if_cancelled K) [] E0 ts (tCons tk (tCons tg tNil))) σ H (.int (sureI n d (rowK n d x) g.from_ (g.dep + 1))) := by
  obtain ⟨⟨na, cm, wm, rows, wrows, ⟨⟨dx, ho⟩, -, -, -⟩⟩, -⟩ := id hS
  exact ev_is (ev_meth h0 (e _ _ ho) lSureness_if_cancelled (ea_cons h1 (ea_cons h2 ea_nil)) (spv_pure ⟨a, n, d, _, x, ga, g, rfl, hS.ex e, hk, hf, hg.ex e, rfl⟩)) (by rw [tabK_row hk])
theorem ev_goes {tg : TE} {ga : Addr} {g : Vbtoad.Go} (hS : SurK K G a n d) (e : Ex G H) (h0 : Ev ts σ H (.ref a)) (h1 : Ev tk σ H (.int (kk : Int))) (h2 : Ev tg σ H (.ref ga)) (hk : kk < 4) (hf : g.to_ < n.places.length) (hg : GoAt K G ga g) :
    Ev (tMeth (cSur K) "if_it_goes" (sp_Sureness_if_it_goes K) [] E0 ts (tCons tk (tCons tg tNil))) σ H (.int (goneI n d (rowK n d kk) g)) := by
  obtain ⟨⟨na, cm, wm, rows, wrows, ⟨⟨dx, ho⟩, -, -, -⟩⟩, -⟩ := id hS
  exact ev_is (ev_meth h0 (e _ _ ho) lSureness_if_it_goes (ea_cons h1 (ea_cons h2 ea_nil)) (spv_pure ⟨a, n, d, _, kk, ga, g, rfl, hS.ex e, hk, hf, hg.ex e, rfl⟩)) (by rw [tabK_row hk])
/-- l.extend(new list) -/
theorem s_ext {l : Addr} {xs ys : List V} (hl : H l = some (.lst xs)) (ha : Ev te σ H (.ref l)) (h : EvL tl σ H ys) (hz : xs.length + ys.length ≤ 100000) (k : ∀ H1, Ex H H1 → D.nx σ (upd H1 l (.lst (xs ++ ys)))) : tDrop (tBM K "list" rExtend te (tCons tl tNil)) D σ H :=
  ha H (Ex.refl H) _ fun H1 e1 => ⟨Or.inl ⟨rfl, xs, sq_of (e1 l _ hl)⟩, h H1 e1 _ fun q H2 hq e2 h2 => ⟨l, q, xs, ys, rfl, rfl, e2 _ _ (e1 _ _ hl), h2, sz_of hz, k H2 (e1.trans e2)⟩⟩
theorem q_ext {l : Addr} {xs ys : List V} (hl : H l = some (.lst xs)) (ha : Ev te σ H (.ref l)) (h : EvL tl σ H ys) (hz : xs.length + ys.length ≤ 100000) (k : ∀ H1, Ex H H1 → tz D σ (upd H1 l (.lst (xs ++ ys)))) : tSeq (tDrop (tBM K "list" rExtend te (tCons tl tNil))) tz D σ H := s_ext (D := { D with nx := tz D }) hl ha h hz k
end
theorem upd_ex {G H : Hp} {l : Addr} {o : HO} (e : Ex G H) (g : G l = none) : Ex G (upd H l o) := Ex.mut e g
def goTest (w : Int) : Bool := decide (w = 1) || decide (w = 2)
def sp_worst_case (K : PySem.W.Frag) : Sp := PureL fun vs G xs => ∃ (a : Addr) (n : Vbtoad.Net) (d kk t p : Nat), vs = [.ref a, .int (kk : Int), .int (t : Int), .int (p : Int)] ∧ SurK K G a n d ∧ kk < 4 ∧ p < n.places.length ∧
  xs = (Vbtoad.worst n (Vbtoad.roadsOf n) d Vbtoad.FUEL kk p t).map nV
theorem sc_worst_case : FnScope ["sureness", "k", "minute", "place", "found", "what", "number", "go"] ["sureness", "k", "minute", "place"] (defScope s_worst_case) := ⟨rfl, rfl, rfl, by decide +kernel, rfl, by decide +kernel, by decide +kernel⟩
theorem ok_worst_case {P : Program} {w : World} {K : PySem.W.Frag} {mg : Str → Option Value} {base : Heap} (T : Txt w K mg) : OkD P w K mg base CX0 6 (He.ga K "worst_case") ["sureness", "k", "minute", "place"] (sp_worst_case K) := by
  obtain ⟨fd_Sureness_to_do, G_Sureness_to_do, B_Sureness_to_do, K_Sureness_to_do⟩ := ok_Sureness_to_do (P := P) (w := w) (base := base) T
  obtain ⟨fd_behind_car, G_behind_car, B_behind_car, K_behind_car⟩ := ok_behind_car (P := P) (w := w) (base := base) T
  obtain ⟨fd_Sureness_if_cancelled, G_Sureness_if_cancelled, B_Sureness_if_cancelled, K_Sureness_if_cancelled⟩ := ok_Sureness_if_cancelled (P := P) (w := w) (base := base) T
  obtain ⟨fd_Sureness_if_it_goes, G_Sureness_if_it_goes, B_Sureness_if_it_goes, K_Sureness_if_it_goes⟩ := ok_Sureness_if_it_goes (P := P) (w := w) (base := base) T
  obtain ⟨fd_behind_going, G_behind_going, B_behind_going, K_behind_going⟩ := ok_behind_going (P := P) (w := w) (base := base) T
  obtain ⟨fd, F⟩ := T.f_worst_case
  refine ⟨fd, F.ok sc_worst_case (fun vs H Q E h => ?_) (fun cdv A outer s H vs Q E hr h => ?_), F.bindsN fun _ _ _ _ _ _ us hl => match us, hl with | [_, _, _, _], _ => rfl, F.kp⟩
  · obtain ⟨xs, G, eG, ⟨a, n, d, kk0, t0, p0, rfl, hS, hk0, hp0, rfl⟩, k⟩ := h
    rfl
  · refine ⟨_, PSs.nox (pss_cons (ps_set (i := 4) sc_worst_case.nd rfl (Or.inl rfl) (pe_lst pa_nil)) (pss_cons (ps_asg (pe_meth (pv 0) T.c_Sureness T.m_Sureness_to_do G_Sureness_to_do (hr.mono (by decide)) B_Sureness_to_do .nil pass0 (pa_cons (pv 1) (pa_cons (pv 2) (pa_cons (pv 3) pa_nil)))) (pg_tup rfl (pgs_cons (pg_name (i := 5) sc_worst_case.nd rfl (Or.inl rfl)) (pgs_cons (pg_name (i := 6) sc_worst_case.nd rfl (Or.inl rfl)) pgs_nil)))) (pss_cons (ps_while PassesOwn.never (PW.pt (pw_or (pt_cmpR op_eq (pv 5) (pe_gint T.i_BY_CAR) (nomark _)) (pw_or1 (pt_cmpR op_eq (pv 5) (pe_gint T.i_BY_GOING) (nomark _))))) (pss_cons (ps_if (pt_cmpR op_eq (pv 5) (pe_gint T.i_BY_CAR) (nomark _)) (pss_one (ps_asg (pe_call G_behind_car (hr.mono (by decide)) rfl T.g_behind_car K_behind_car B_behind_car .nil pass0 (pa_cons (pv 0) (pa_cons (pv 2) (pa_cons (pv 6) pa_nil)))) (pg_tup rfl (pgs_cons (pg_name (i := 2) sc_worst_case.nd rfl (Or.inl rfl)) (pgs_cons (pg_name (i := 3) sc_worst_case.nd rfl (Or.inl rfl)) pgs_nil))))) (pss_cons (ps_set (i := 7) sc_worst_case.nd rfl (Or.inl rfl) (pe_ix ix_list (pe_fld (pe_fld (pv 0) rfl) rfl) (pv 6) (fun _ _ => rfl))) (pss_one (ps_if (PW.pt (pw_and (pt_cmpR op_gt (pv 1) pe_int (nomark _)) (pw_and1 (pt_cmpR op_gt (pe_meth (pv 0) T.c_Sureness T.m_Sureness_if_cancelled G_Sureness_if_cancelled (hr.mono (by decide)) B_Sureness_if_cancelled .nil pass0 (pa_cons (pv 1) (pa_cons (pv 7) pa_nil))) (pe_meth (pv 0) T.c_Sureness T.m_Sureness_if_it_goes G_Sureness_if_it_goes (hr.mono (by decide)) B_Sureness_if_it_goes .nil pass0 (pa_cons (pv 1) (pa_cons (pv 7) pa_nil))) (nomark _))))) (pss_cons (ps_expr (pe_bm PySem.F.plainAttrs_list PySem.F.slot_list_append PySem.F.type_list_append mt_append (pv 4) (pa_cons (pv 6) pa_nil))) (pss_cons (ps_set (i := 2) sc_worst_case.nd rfl (Or.inl rfl) (pe_op op_add (pe_fld (pv 7) rfl) pe_int)) (pss_one (ps_set (i := 1) sc_worst_case.nd rfl (Or.inl rfl) (pe_op op_sub (pv 1) pe_int))))) (pss_one (ps_asg (pe_call G_behind_going (hr.mono (by decide)) rfl T.g_behind_going K_behind_going B_behind_going .nil pass0 (pa_cons (pv 0) (pa_cons (pv 7) pa_nil))) (pg_tup rfl (pgs_cons (pg_name (i := 2) sc_worst_case.nd rfl (Or.inl rfl)) (pgs_cons (pg_name (i := 3) sc_worst_case.nd rfl (Or.inl rfl)) pgs_nil))))))))) (pss_one (ps_asg (pe_meth (pv 0) T.c_Sureness T.m_Sureness_to_do G_Sureness_to_do (hr.mono (by decide)) B_Sureness_to_do .nil pass0 (pa_cons (pv 1) (pa_cons (pv 2) (pa_cons (pv 3) pa_nil)))) (pg_tup rfl (pgs_cons (pg_name (i := 5) sc_worst_case.nd rfl (Or.inl rfl)) (pgs_cons (pg_name (i := 6) sc_worst_case.nd rfl (Or.inl rfl)) pgs_nil))))))) (pss_one (ps_ret (pv 4)))))), ?_⟩
    obtain ⟨xs, G, eG, ⟨a, n, d, kk0, t0, p0, rfl, hS, hk0, hp0, rfl⟩, k⟩ := h
    obtain ⟨na, pl, cl, gl, cm, wm, rows, wrows, cs, gs, ⟨⟨dx, ho⟩, ⟨dn, hno⟩, hcl, hgl, hcs, hgs, hnet, -⟩⟩ := hS.view
    have ok := hS.2.1
    have hd := hS.2.2.1
    have lgo := ok.gl
    refine q_asgL (el_lst ea_nil (by show 0 ≤ 100000; omega)) fun fl H1 hfl e1 h1 => ?_
    refine q_pair (eu_todo hS (eG.trans e1) (ev_var rfl) (ev_var rfl) (ev_var rfl) (ev_var rfl) hk0 hp0) fun H2 e2 => ?_
    generalize htot : Vbtoad.worst n (Vbtoad.roadsOf n) d Vbtoad.FUEL kk0 p0 t0 = tot at k ⊢
    refine q_while (fun m σ' H' => ∃ (kk t p f : Nat) (done : List Nat) (x7 : Option V), σ' = [some (.ref a), some (nV kk), some (nV t), some (nV p), some (.ref fl), some (.int (actI (Vbtoad.toDo n (Vbtoad.roadsOf n) d kk p t)).1), some (.int (actI (Vbtoad.toDo n (Vbtoad.roadsOf n) d kk p t)).2), x7] ∧
      Ex H H' ∧ H' fl = some (.lst (done.map nV)) ∧ kk < 4 ∧ p < n.places.length ∧ Halts n d kk p t m ∧ m ≤ f ∧ tot = done ++ Vbtoad.worst n (Vbtoad.roadsOf n) d f kk p t ∧ done.length + m ≤ 248) 248
      ⟨kk0, t0, p0, Vbtoad.FUEL, [], _, rfl, e1.trans e2, e2 _ _ h1, hk0, hp0, ends ok hd hp0, by decide, htot.symm, Nat.le_refl _⟩ ?_
    rintro m σ' H' ⟨kk, t, p, f, done, x7, rfl, eH, hH, hk, hp, hE, hf, hT, hL⟩
    have eG' := eG.trans eH
    have test : ∀ {y : V} {z : Option V} {w : Int}, EvT (tOr (tTest (tOp rEq (tVar 5) (tC (.int 1)))) (tTest (tOp rEq (tVar 5) (tC (.int 2))))) [some (.ref a), some (nV kk), some (nV t), some (nV p), some (.ref fl), some (.int w), some y, z] H' (goTest w) := fun {y z w} => et_or (et_test (ev_eqI (ev_var rfl) ev_c)) fun _ => et_test (ev_eqI (ev_var rfl) ev_c)
    cases hE with
    | stop h =>
      refine ⟨false, et_is test ?_, fun z => (by cases z), fun _ H3 e3 => ?_⟩
      · rcases h with h | h
        · rw [h]
          rfl
        · rw [h, toDo_there]
          rfl
      · refine s_ret (ev_var rfl) fun H4 e4 => ?_
        have e : tot = done := by
          rcases h with h | h
          · rw [hT, worst_none h, List.append_nil]
          · rw [hT, worst_stop h, List.append_nil]
        rw [e] at k
        exact k fl H4 hfl (eH.trans (e3.trans e4)) (e4 _ _ (e3 _ _ hH))
    | drive ne h hc hE' =>
      rename_i m i c
      have oc := ok.c c (List.mem_of_getElem? hc)
      obtain ⟨f, rfl⟩ : ∃ x, f = x + 1 := ⟨f - 1, by omega⟩
      rw [worst_drive h hc] at hT
      rw [h]
      refine ⟨true, et_is test rfl, fun _ H3 e3 => ⟨_, fun σ2 H2 z => ⟨m, by omega, z⟩, ?_⟩, fun z => (by cases z)⟩
      refine q_if (b := true) (et_is (et_test (ev_eqI (ev_var rfl) ev_c)) rfl) (fun _ H4 e4 => ?_) (fun z => (by cases z))
      have e34 := e3.trans e4
      refine s_pair (eu_call (ea_cons (ev_var rfl) (ea_cons (ev_var rfl) (ea_cons (ev_var rfl) ea_nil))) (spu_pure ⟨a, n, d, t, i, c, rfl, hS.ex (eG'.trans e34), hc, rfl⟩)) fun H5 e5 => ?_
      have e35 := e34.trans e5
      refine s_pair (eu_todo (t := t + c.long + stay n d c.to_) (p := c.to_) hS (eG'.trans e35) (ev_var rfl) (ev_var rfl) (ev_var rfl) (ev_var rfl) hk oc.to) fun H6 e6 => ?_
      have e36 := e35.trans e6
      exact ⟨kk, _, c.to_, f, done, x7, rfl, eH.trans e36, e36 _ _ hH, hk, oc.to, hE', by omega, hT, by omega⟩
    | wait ne h hg hfr hs hE1 hE2 =>
      rename_i m i b g
      have og := go_ok ok hg
      obtain ⟨ga, hga, hgo⟩ := paired_at hgs hg
      obtain ⟨f, rfl⟩ : ∃ x, f = x + 1 := ⟨f - 1, by omega⟩
      rw [worst_wait ok hd hp h hg hfr hs] at hT
      rw [h]
      refine ⟨true, et_is test rfl, fun _ H3 e3 => ⟨_, fun σ2 H2 z => ⟨m, by omega, z⟩, ?_⟩, fun z => (by cases z)⟩
      refine q_if (b := false) (et_is (et_test (ev_eqI (ev_var rfl) ev_c)) rfl) (fun z => (by cases z)) (fun _ H4 e4 => ?_)
      have e34 := e3.trans e4
      have g4 := eG'.trans e34
      refine q_asg (v := .ref ga) (ev_ixL (i := i) (ev_fld (ev_fld (ev_var rfl) (g4 _ _ ho) T.c_Sureness T.n_Sureness_net lSureness_net) (g4 _ _ hno) T.c_Net T.n_Net_goes lNet_goes) (ev_var rfl) (g4 _ _ hgl) (by rw [List.getElem?_map, hga]; rfl)) fun H5 e5 => ?_
      have e35 := e34.trans e5
      have g5 := eG'.trans e35
      refine s_if (b := bad n d kk g) (et_is (b := bad n d kk g) (a := decide ((kk : Int) > 0) && decide (sureI n d (rowK n d (kk - 1)) g.from_ (g.dep + 1) > goneI n d (rowK n d kk) g)) (et_and (et_test (ev_op (ev_var rfl) ev_c rv_I0)) fun hk0' => ?_) ?_) (fun hb H6 e6 => ?_) (fun hb H6 e6 => ?_)
      · obtain ⟨x, rfl⟩ : ∃ x, kk = x + 1 := ⟨kk - 1, by have := of_decide_eq_true hk0'; omega⟩
        exact et_test (ev_op (ev_canc (x := x) hS g5 (ev_var rfl) (ev_var rfl) (ev_var rfl) (by omega) og.fr hgo) (ev_goes (kk := x + 1) hS g5 (ev_var rfl) (ev_var rfl) (ev_var rfl) hk og.to hgo) rv_I0)
      · unfold bad
        congr 1
        exact decide_eq_decide.mpr (by omega)
      · rw [if_pos hb] at hT
        have e36 := e35.trans e6
        obtain ⟨x, rfl⟩ : ∃ x, kk = x + 1 := ⟨kk - 1, by
          unfold bad at hb
          rw [Bool.and_eq_true] at hb
          have := of_decide_eq_true hb.1
          omega⟩
        obtain ⟨dg, nm, hg0, _⟩ := id hgo
        refine q_app (e36 _ _ hH) (ev_var rfl) (ev_var rfl) (by rw [List.length_map]; omega) fun H7 e7 => ?_
        have e37 : Ex H (upd H7 fl (.lst (done.map nV ++ [nV i]))) := Ex.mut ((eH.trans e36).trans e7) hfl
        refine q_asg (v := nV (g.dep + 1)) (ev_is (ev_op (ev_fld (ev_var rfl) ((eG.trans e37) _ _ hg0) T.c_Departure T.n_Departure_leaves lDeparture_leaves) ev_c rv_I0) (congrArg V.int (by omega))) fun H8 e8 => ?_
        refine s_asg (v := nV x) (ev_is (ev_op (ev_var rfl) ev_c rv_I0) (congrArg V.int (by omega))) fun H9 e9 => ?_
        have e39 := e37.trans (e8.trans e9)
        refine s_pair (eu_todo (kk := x) (t := g.dep + 1) (p := p) hS (eG.trans e39) (ev_var rfl) (ev_var rfl) (ev_var rfl) (ev_var rfl) (by omega) hp) fun H10 e10 => ?_
        refine ⟨x, _, p, f, done ++ [i], _, rfl, e39.trans e10, ?_, by omega, hp, hE1, by omega, ?_, ?_⟩
        · rw [List.map_append]
          exact (e8.trans (e9.trans e10)) _ _ upd_same
        · rw [hT, List.append_assoc]
          rfl
        · rw [List.length_append]
          show done.length + 1 + m ≤ 248
          omega
      · rw [if_neg (by rw [hb]; decide)] at hT
        have e36 := e35.trans e6
        refine s_pair (eu_call (ea_cons (ev_var rfl) (ea_cons (ev_var rfl) ea_nil)) (spu_pure ⟨a, n, d, ga, g, rfl, hS.ex (eG'.trans e36), hgo.ex (eG'.trans e36), og.to, rfl⟩)) fun H7 e7 => ?_
        have e37 := e36.trans e7
        refine s_pair (eu_todo (kk := kk) (t := g.arr + stay n d g.to_) (p := g.to_) hS (eG'.trans e37) (ev_var rfl) (ev_var rfl) (ev_var rfl) (ev_var rfl) hk og.to) fun H8 e8 => ?_
        exact ⟨kk, _, g.to_, f, done, _, rfl, eH.trans (e37.trans e8), (e37.trans e8) _ _ hH, hk, og.to, hE2, by omega, hT, by omega⟩
def stepsV (l : List Vbtoad.Step) : List V := l.flatMap fun s => [nV s.kind, nV s.which, nV s.at_]
theorem stepsV_len (l : List Vbtoad.Step) : (stepsV l).length = 3 * l.length := by
  unfold stepsV
  induction l with
  | nil => rfl
  | cons x l ih =>
    rw [List.flatMap_cons, List.length_append, ih]
    show 3 + 3 * l.length = 3 * (l.length + 1)
    omega
theorem stepsV_app (l : List Vbtoad.Step) (s : Vbtoad.Step) : stepsV (l ++ [s]) = stepsV l ++ [nV s.kind, nV s.which, nV s.at_] := by
  unfold stepsV
  rw [List.flatMap_append]
  rfl
theorem inV_nats (i : Nat) (l : List Nat) : inV (nV i) (l.map nV) = l.contains i := by
  unfold inV
  rw [List.any_map]
  induction l with
  | nil => rfl
  | cons x l ih =>
    rw [List.any_cons, List.contains_cons, ih]
    congr 1
    show ((x : Int) == (i : Int)) = (i == x)
    rw [Bool.eq_iff_iff, beq_iff_eq, beq_iff_eq]
    omega
theorem flat_nats (l : List Nat) : (l.map nV).all flatV = true := by
  rw [List.all_map]
  exact List.all_eq_true.mpr fun _ _ => rfl
def sp_played (K : PySem.W.Frag) : Sp := fun vs H Q _ => ∃ (G : Hp) (a : Addr) (n : Vbtoad.Net) (d kk t p : Nat) (ca : Addr) (out : List Nat), vs = [.ref a, .int (kk : Int), .int (t : Int), .int (p : Int), .ref ca] ∧ Ex G H ∧ SurK K G a n d ∧ kk < 4 ∧ p < n.places.length ∧ G ca = some (.lst (out.map nV)) ∧
  ∀ q l H', H q = none → H l = none → Ex H H' → H' q = some (.tup [.int (Vbtoad.orNone (Vbtoad.play n (Vbtoad.roadsOf n) d out Vbtoad.FUEL kk p t).2), .ref l]) → H' l = some (.lst (stepsV (Vbtoad.play n (Vbtoad.roadsOf n) d out Vbtoad.FUEL kk p t).1)) → Q (.ref q) H'
theorem sc_played : FnScope ["sureness", "k", "minute", "place", "cancelled", "steps", "what", "number", "go"] ["sureness", "k", "minute", "place", "cancelled"] (defScope s_played) := ⟨rfl, rfl, rfl, by decide +kernel, rfl, by decide +kernel, by decide +kernel⟩
theorem ok_played {P : Program} {w : World} {K : PySem.W.Frag} {mg : Str → Option Value} {base : Heap} (T : Txt w K mg) : OkD P w K mg base CX0 6 (He.ga K "played") ["sureness", "k", "minute", "place", "cancelled"] (sp_played K) := by
  obtain ⟨fd_Sureness_to_do, G_Sureness_to_do, B_Sureness_to_do, K_Sureness_to_do⟩ := ok_Sureness_to_do (P := P) (w := w) (base := base) T
  obtain ⟨fd_behind_car, G_behind_car, B_behind_car, K_behind_car⟩ := ok_behind_car (P := P) (w := w) (base := base) T
  obtain ⟨fd_behind_going, G_behind_going, B_behind_going, K_behind_going⟩ := ok_behind_going (P := P) (w := w) (base := base) T
  obtain ⟨fd, F⟩ := T.f_played
  refine ⟨fd, F.ok sc_played (fun vs H Q E h => ?_) (fun cdv A outer s H vs Q E hr h => ?_), F.bindsN fun _ _ _ _ _ _ us hl => match us, hl with | [_, _, _, _, _], _ => rfl, F.kp⟩
  · obtain ⟨G, a, n, d, kk0, t0, p0, ca, out, rfl, eG, hS, hk0, hp0, hca, k⟩ := h
    rfl
  · refine ⟨_, PSs.nox (pss_cons (ps_set (i := 5) sc_played.nd rfl (Or.inl rfl) (pe_lst pa_nil)) (pss_cons (ps_asg (pe_meth (pv 0) T.c_Sureness T.m_Sureness_to_do G_Sureness_to_do (hr.mono (by decide)) B_Sureness_to_do .nil pass0 (pa_cons (pv 1) (pa_cons (pv 2) (pa_cons (pv 3) pa_nil)))) (pg_tup rfl (pgs_cons (pg_name (i := 6) sc_played.nd rfl (Or.inl rfl)) (pgs_cons (pg_name (i := 7) sc_played.nd rfl (Or.inl rfl)) pgs_nil)))) (pss_cons (ps_while PassesOwn.never (PW.pt (pw_or (pt_cmpR op_eq (pv 6) (pe_gint T.i_BY_CAR) (nomark _)) (pw_or1 (pt_cmpR op_eq (pv 6) (pe_gint T.i_BY_GOING) (nomark _))))) (pss_cons (ps_if (pt_cmpR op_eq (pv 6) (pe_gint T.i_BY_CAR) (nomark _)) (pss_cons (ps_expr (pe_bm PySem.F.plainAttrs_list PySem.F.slot_list_extend PySem.F.type_list_extend mt_extend (pv 5) (pa_cons (pe_lst (pa_cons (pe_gint T.i_BY_CAR) (pa_cons (pv 7) (pa_cons (pv 2) pa_nil)))) pa_nil))) (pss_one (ps_asg (pe_call G_behind_car (hr.mono (by decide)) rfl T.g_behind_car K_behind_car B_behind_car .nil pass0 (pa_cons (pv 0) (pa_cons (pv 2) (pa_cons (pv 7) pa_nil)))) (pg_tup rfl (pgs_cons (pg_name (i := 2) sc_played.nd rfl (Or.inl rfl)) (pgs_cons (pg_name (i := 3) sc_played.nd rfl (Or.inl rfl)) pgs_nil)))))) (pss_cons (ps_set (i := 8) sc_played.nd rfl (Or.inl rfl) (pe_ix ix_list (pe_fld (pe_fld (pv 0) rfl) rfl) (pv 7) (fun _ _ => rfl))) (pss_one (ps_if (pt_cmpR op_in_seq (pv 7) (pv 4) (by rfl)) (pss_cons (ps_expr (pe_bm PySem.F.plainAttrs_list PySem.F.slot_list_extend PySem.F.type_list_extend mt_extend (pv 5) (pa_cons (pe_lst (pa_cons (pe_gint T.i_CANCELLED) (pa_cons (pv 7) (pa_cons (pe_fld (pv 8) rfl) pa_nil)))) pa_nil))) (pss_cons (ps_set (i := 2) sc_played.nd rfl (Or.inl rfl) (pe_op op_add (pe_fld (pv 8) rfl) pe_int)) (pss_one (ps_set (i := 1) sc_played.nd rfl (Or.inl rfl) (pe_callB (call_max2 rfl) (by rfl) T.b_max (by decide +kernel) (pa_cons pe_int (pa_cons (pe_op op_sub (pv 1) pe_int) pa_nil))))))) (pss_cons (ps_expr (pe_bm PySem.F.plainAttrs_list PySem.F.slot_list_extend PySem.F.type_list_extend mt_extend (pv 5) (pa_cons (pe_lst (pa_cons (pe_gint T.i_BY_GOING) (pa_cons (pv 7) (pa_cons (pe_fld (pv 8) rfl) pa_nil)))) pa_nil))) (pss_one (ps_asg (pe_call G_behind_going (hr.mono (by decide)) rfl T.g_behind_going K_behind_going B_behind_going .nil pass0 (pa_cons (pv 0) (pa_cons (pv 8) pa_nil))) (pg_tup rfl (pgs_cons (pg_name (i := 2) sc_played.nd rfl (Or.inl rfl)) (pgs_cons (pg_name (i := 3) sc_played.nd rfl (Or.inl rfl)) pgs_nil)))))))))) (pss_one (ps_asg (pe_meth (pv 0) T.c_Sureness T.m_Sureness_to_do G_Sureness_to_do (hr.mono (by decide)) B_Sureness_to_do .nil pass0 (pa_cons (pv 1) (pa_cons (pv 2) (pa_cons (pv 3) pa_nil)))) (pg_tup rfl (pgs_cons (pg_name (i := 6) sc_played.nd rfl (Or.inl rfl)) (pgs_cons (pg_name (i := 7) sc_played.nd rfl (Or.inl rfl)) pgs_nil))))))) (pss_cons (ps_if (pt_cmpR op_eq (pv 6) (pe_gint T.i_NONE) (nomark _)) (pss_one (ps_ret (pe_tup (pa_cons (pe_gint T.i_NONE) (pa_cons (pv 5) pa_nil))))) pss_nil) (pss_one (ps_ret (pe_tup (pa_cons (pv 2) (pa_cons (pv 5) pa_nil))))))))), ?_⟩
    obtain ⟨G, a, n, d, kk0, t0, p0, ca, out, rfl, eG, hS, hk0, hp0, hca, k⟩ := h
    obtain ⟨na, pl, cl, gl, cm, wm, rows, wrows, cs, gs, ⟨⟨dx, ho⟩, ⟨dn, hno⟩, hcl, hgl, hcs, hgs, hnet, -⟩⟩ := hS.view
    have ok := hS.2.1
    have hd := hS.2.2.1
    have lgo := ok.gl
    refine q_asgL (el_lst ea_nil (by show 0 ≤ 100000; omega)) fun fl H1 hfl e1 h1 => ?_
    refine q_pair (eu_todo hS (eG.trans e1) (ev_var rfl) (ev_var rfl) (ev_var rfl) (ev_var rfl) hk0 hp0) fun H2 e2 => ?_
    generalize htot : Vbtoad.play n (Vbtoad.roadsOf n) d out Vbtoad.FUEL kk0 p0 t0 = tot at k ⊢
    refine q_while (fun m σ' H' => ∃ (kk t p f : Nat) (done : List Vbtoad.Step) (x8 : Option V), σ' = [some (.ref a), some (nV kk), some (nV t), some (nV p), some (.ref ca), some (.ref fl), some (.int (actI (Vbtoad.toDo n (Vbtoad.roadsOf n) d kk p t)).1), some (.int (actI (Vbtoad.toDo n (Vbtoad.roadsOf n) d kk p t)).2), x8] ∧
      Ex H H' ∧ H' fl = some (.lst (stepsV done)) ∧ kk < 4 ∧ p < n.places.length ∧ Halts n d kk p t m ∧ m < f ∧ tot.1 = done ++ (Vbtoad.play n (Vbtoad.roadsOf n) d out f kk p t).1 ∧ tot.2 = (Vbtoad.play n (Vbtoad.roadsOf n) d out f kk p t).2 ∧ done.length + m ≤ 248) 248
      ⟨kk0, t0, p0, Vbtoad.FUEL, [], _, rfl, e1.trans e2, e2 _ _ h1, hk0, hp0, ends ok hd hp0, by decide, by rw [← htot]; rfl, by rw [← htot], Nat.le_refl _⟩ ?_
    rintro m σ' H' ⟨kk, t, p, f, done, x8, rfl, eH, hH, hk, hp, hE, hf, hT, hT2, hL⟩
    have eG' := eG.trans eH
    have test : ∀ {y : V} {z : Option V} {w : Int}, EvT (tOr (tTest (tOp rEq (tVar 6) (tC (.int 1)))) (tTest (tOp rEq (tVar 6) (tC (.int 2))))) [some (.ref a), some (nV kk), some (nV t), some (nV p), some (.ref ca), some (.ref fl), some (.int w), some y, z] H' (goTest w) := fun {y z w} => et_or (et_test (ev_eqI (ev_var rfl) ev_c)) fun _ => et_test (ev_eqI (ev_var rfl) ev_c)
    have lsz : (stepsV done).length ≤ 1000 := by rw [stepsV_len]; omega
    have last : ∀ {te : TE} {σ : L2.St} {H3 : Hp} {r : Option Nat}, Ex H' H3 → EvU te σ H3 [.int (Vbtoad.orNone r), .ref fl] → tot.1 = done → tot.2 = r → tRet te { nx := fun _ H' => Q .non H', rt := Q } σ H3 := fun {te σ H3 r} e3 hu h1 h2 => by
      rw [h1, h2] at k
      exact s_retU hu fun q H4 hq e4 h4 => k q fl H4 (fresh_back (eH.trans e3) hq) hfl (eH.trans (e3.trans e4)) h4 ((e3.trans e4) _ _ hH)
    cases hE with
    | stop h =>
      obtain ⟨f, rfl⟩ : ∃ x, f = x + 1 := ⟨f - 1, by omega⟩
      by_cases e : p = d
      · rw [play_stop e] at hT hT2
        have ht : Vbtoad.toDo n (Vbtoad.roadsOf n) d kk p t = some .there := by
          rw [e]
          exact toDo_there
        rw [ht]
        refine ⟨false, et_is test rfl, fun z => (by cases z), fun _ H3 e3 => ?_⟩
        refine q_when (b := false) (et_is (et_test (ev_eqI (ev_var rfl) ev_c)) rfl) (fun z => (by cases z)) (fun _ H4 e4 => ?_)
        exact last (r := some t) (e3.trans e4) (eu_tup (ea_cons (ev_var rfl) (ea_cons (ev_var rfl) ea_nil)) (by show 2 ≤ 100000; decide)) (by rw [hT, List.append_nil]) hT2
      · have hn := h.resolve_right e
        rw [play_none hn] at hT hT2
        rw [hn]
        refine ⟨false, et_is test rfl, fun z => (by cases z), fun _ H3 e3 => ?_⟩
        refine q_when (b := true) (et_is (et_test (ev_eqI (ev_var rfl) ev_c)) rfl) (fun _ H4 e4 => ?_) (fun z => (by cases z))
        exact last (r := none) (e3.trans e4) (eu_tup (ea_cons ev_c (ea_cons (ev_var rfl) ea_nil)) (by show 2 ≤ 100000; decide)) (by rw [hT, List.append_nil]) hT2
    | drive ne h hc hE' =>
      rename_i m i c
      have oc := ok.c c (List.mem_of_getElem? hc)
      obtain ⟨f, rfl⟩ : ∃ x, f = x + 1 := ⟨f - 1, by omega⟩
      rw [play_drive h hc (by omega)] at hT hT2
      rw [h]
      refine ⟨true, et_is test rfl, fun _ H3 e3 => ⟨_, fun σ2 H2 z => ⟨m, by omega, z⟩, ?_⟩, fun z => (by cases z)⟩
      refine q_if (b := true) (et_is (et_test (ev_eqI (ev_var rfl) ev_c)) rfl) (fun _ H4 e4 => ?_) (fun z => (by cases z))
      have e34 := e3.trans e4
      refine q_ext (e34 _ _ hH) (ev_var rfl) (el_lst (ea_cons ev_c (ea_cons (ev_var rfl) (ea_cons (ev_var rfl) ea_nil))) (by show 3 ≤ 100000; decide)) (by show _ + 3 ≤ 100000; omega) fun H5 e5 => ?_
      have e35 : Ex H (upd H5 fl (.lst (stepsV done ++ [V.int 1, nV i, nV t]))) := Ex.mut ((eH.trans e34).trans e5) hfl
      refine s_pair (eu_call (ea_cons (ev_var rfl) (ea_cons (ev_var rfl) (ea_cons (ev_var rfl) ea_nil))) (spu_pure ⟨a, n, d, t, i, c, rfl, hS.ex (eG.trans e35), hc, rfl⟩)) fun H6 e6 => ?_
      have e36 := e35.trans e6
      refine s_pair (eu_todo (t := t + c.long + stay n d c.to_) (p := c.to_) hS (eG.trans e36) (ev_var rfl) (ev_var rfl) (ev_var rfl) (ev_var rfl) hk oc.to) fun H7 e7 => ?_
      refine ⟨kk, _, c.to_, f, done ++ [⟨1, i, t⟩], x8, rfl, e36.trans e7, ?_, hk, oc.to, hE', by omega, ?_, hT2, ?_⟩
      · rw [stepsV_app]
        exact (e6.trans e7) _ _ upd_same
      · rw [hT, List.append_assoc]
        rfl
      · rw [List.length_append]
        show done.length + 1 + m ≤ 248
        omega
    | wait ne h hg hfr hs hE1 hE2 =>
      rename_i m i b g
      have og := go_ok ok hg
      obtain ⟨ga, hga, hgo⟩ := paired_at hgs hg
      obtain ⟨dg, nm, hg0, _⟩ := id hgo
      obtain ⟨f, rfl⟩ : ∃ x, f = x + 1 := ⟨f - 1, by omega⟩
      rw [play_wait h hg (by omega)] at hT hT2
      rw [h]
      refine ⟨true, et_is test rfl, fun _ H3 e3 => ⟨_, fun σ2 H2 z => ⟨m, by omega, z⟩, ?_⟩, fun z => (by cases z)⟩
      refine q_if (b := false) (et_is (et_test (ev_eqI (ev_var rfl) ev_c)) rfl) (fun z => (by cases z)) (fun _ H4 e4 => ?_)
      have e34 := e3.trans e4
      have g4 := eG'.trans e34
      refine q_asg (v := .ref ga) (ev_ixL (i := i) (ev_fld (ev_fld (ev_var rfl) (g4 _ _ ho) T.c_Sureness T.n_Sureness_net lSureness_net) (g4 _ _ hno) T.c_Net T.n_Net_goes lNet_goes) (ev_var rfl) (g4 _ _ hgl) (by rw [List.getElem?_map, hga]; rfl)) fun H5 e5 => ?_
      have e35 := e34.trans e5
      have g5 := eG'.trans e35
      refine s_if (b := out.contains i) (et_test (ev_is (ev_op (ev_var rfl) (ev_var rfl) (rv_inL (neg := false) (sq_of (g5 _ _ hca)) rfl (flat_nats out))) (congrArg V.bl (inV_nats i out)))) (fun hb H6 e6 => ?_) (fun hb H6 e6 => ?_)
      · rw [if_pos hb] at hT hT2
        have e36 := e35.trans e6
        have g6 := eG'.trans e36
        refine q_ext (e36 _ _ hH) (ev_var rfl) (el_lst (ea_cons ev_c (ea_cons (ev_var rfl) (ea_cons (ev_fld (ev_var rfl) (g6 _ _ hg0) T.c_Departure T.n_Departure_leaves lDeparture_leaves) ea_nil))) (by show 3 ≤ 100000; decide)) (by show _ + 3 ≤ 100000; omega) fun H7 e7 => ?_
        have e37 : Ex H (upd H7 fl (.lst (stepsV done ++ [V.int 3, nV i, nV g.dep]))) := Ex.mut ((eH.trans e36).trans e7) hfl
        refine q_asg (v := nV (g.dep + 1)) (ev_is (ev_op (ev_fld (ev_var rfl) ((eG.trans e37) _ _ hg0) T.c_Departure T.n_Departure_leaves lDeparture_leaves) ev_c rv_I0) (congrArg V.int (by omega))) fun H8 e8 => ?_
        refine s_asg (v := nV (kk - 1)) (ev_is (ev_max2 ev_c (ev_op (ev_var rfl) ev_c rv_I0)) (congrArg V.int (by
          rw [max_if]
          omega))) fun H9 e9 => ?_
        have e39 := e37.trans (e8.trans e9)
        refine s_pair (eu_todo (kk := kk - 1) (t := g.dep + 1) (p := p) hS (eG.trans e39) (ev_var rfl) (ev_var rfl) (ev_var rfl) (ev_var rfl) (by omega) hp) fun H10 e10 => ?_
        refine ⟨kk - 1, _, p, f, done ++ [⟨3, i, g.dep⟩], _, rfl, e39.trans e10, ?_, by omega, hp, hE1, by omega, ?_, hT2, ?_⟩
        · rw [stepsV_app]
          exact (e8.trans (e9.trans e10)) _ _ upd_same
        · rw [hT, List.append_assoc]
          rfl
        · rw [List.length_append]
          show done.length + 1 + m ≤ 248
          omega
      · rw [if_neg (by rw [hb]; decide)] at hT hT2
        have e36 := e35.trans e6
        have g6 := eG'.trans e36
        refine q_ext (e36 _ _ hH) (ev_var rfl) (el_lst (ea_cons ev_c (ea_cons (ev_var rfl) (ea_cons (ev_fld (ev_var rfl) (g6 _ _ hg0) T.c_Departure T.n_Departure_leaves lDeparture_leaves) ea_nil))) (by show 3 ≤ 100000; decide)) (by show _ + 3 ≤ 100000; omega) fun H7 e7 => ?_
        have e37 : Ex H (upd H7 fl (.lst (stepsV done ++ [V.int 2, nV i, nV g.dep]))) := Ex.mut ((eH.trans e36).trans e7) hfl
        refine s_pair (eu_call (ea_cons (ev_var rfl) (ea_cons (ev_var rfl) ea_nil)) (spu_pure ⟨a, n, d, ga, g, rfl, hS.ex (eG.trans e37), hgo.ex (eG.trans e37), og.to, rfl⟩)) fun H8 e8 => ?_
        have e38 := e37.trans e8
        refine s_pair (eu_todo (kk := kk) (t := g.arr + stay n d g.to_) (p := g.to_) hS (eG.trans e38) (ev_var rfl) (ev_var rfl) (ev_var rfl) (ev_var rfl) hk og.to) fun H9 e9 => ?_
        refine ⟨kk, _, g.to_, f, done ++ [⟨2, i, g.dep⟩], _, rfl, e38.trans e9, ?_, hk, og.to, hE2, by omega, ?_, hT2, ?_⟩
        · rw [stepsV_app]
          exact (e8.trans e9) _ _ upd_same
        · rw [hT, List.append_assoc]
          rfl
        · rw [List.length_append]
          show done.length + 1 + m ≤ 248
          omega
end SJ
/-! Profiles. -/
namespace SJ
open PySem PySem.Spec PyProof.Rows L2 Evl LamX
theorem putK_keys {kvs : List (Key × V)} {ks : List Int} {z : Int} {v : V} (h : kvs.map (·.1) = ks.map Sum.inl) : (putK kvs (Sum.inl z) v).map (·.1) = (if z ∈ ks then ks else ks ++ [z]).map Sum.inl := by
  have hc : (kvs.any fun kv => decide (kv.1 = Sum.inl z)) = decide (z ∈ ks) := by
    rw [Bool.eq_iff_iff, decide_eq_true_iff, List.any_eq_true]
    constructor
    · rintro ⟨kv, hk, e⟩
      have m : kv.1 ∈ kvs.map (·.1) := List.mem_map.mpr ⟨kv, hk, rfl⟩
      rw [h, of_decide_eq_true e] at m
      obtain ⟨y, hy, ey⟩ := List.mem_map.mp m
      cases ey
      exact hy
    · intro hz
      have m : (Sum.inl z : Key) ∈ kvs.map (·.1) := by
        rw [h]
        exact List.mem_map.mpr ⟨z, hz, rfl⟩
      obtain ⟨kv, hk, e⟩ := List.mem_map.mp m
      exact ⟨kv, hk, decide_eq_true e⟩
  unfold putK
  rw [hc]
  by_cases e : z ∈ ks
  · rw [decide_eq_true e, if_pos rfl, if_pos e, ← h, List.map_map]
    refine List.map_congr_left fun kv _ => ?_
    show (if kv.1 = Sum.inl z then (kv.1, v) else kv).1 = kv.1
    split <;> rfl
  · rw [decide_eq_false e, if_neg (by decide), if_neg e, List.map_append, h, List.map_append]
    rfl
def jr (n : Vbtoad.Net) (p : Nat) (g : Vbtoad.Go) : Option Nat := (rdy n p g.from_).bind fun m => if m ≤ g.dep then some (g.dep - m) else none
theorem jr_all (n : Vbtoad.Net) (p : Nat) : justReady n p = n.goes.filterMap (jr n p) := rfl
theorem s_dput {σ : L2.St} {H : Hp} {td ty tv : TE} {D : Ends} {a : Addr} {kvs : List (Key × V)} {z : Int} {v : V} (hl : H a = some (.dK kvs)) (hv : Ev tv σ H v) (ho : Ev td σ H (.ref a)) (hi : Ev ty σ H (.int z)) (hz : kvs.length < 1000)
    (k : ∀ H1, Ex H H1 → D.nx σ (upd H1 a (.dK (putK kvs (Sum.inl z) v)))) : sDPut td ty tv D σ H :=
  hv H (Ex.refl H) _ fun H1 e1 => ho H1 e1 _ fun H2 e2 => hi H2 (e1.trans e2) _ fun H3 e3 => ⟨a, _, rfl, DPut.k (k := Sum.inl z) (((e1.trans e2).trans e3) _ _ hl) (sz_lt (by omega)), k H3 ((e1.trans e2).trans e3)⟩
def sp_just_ready_minutes (K : PySem.W.Frag) : Sp := PureL fun vs G xs => ∃ (a : Addr) (n : Vbtoad.Net) (d p : Nat), vs = [.ref a, .int (p : Int)] ∧ SurK K G a n d ∧ p < n.places.length ∧ xs = (putAll (justReady n p)).map nV
theorem sc_just_ready_minutes : FnScope ["sureness", "place", "found", "go", "long"] ["sureness", "place"] (defScope s_just_ready_minutes) := ⟨rfl, rfl, rfl, by decide +kernel, rfl, by decide +kernel, by decide +kernel⟩
theorem ok_just_ready_minutes {P : Program} {w : World} {K : PySem.W.Frag} {mg : Str → Option Value} {base : Heap} (T : Txt w K mg) : OkD P w K mg base CX0 3 (He.ga K "just_ready_minutes") ["sureness", "place"] (sp_just_ready_minutes K) := by
  obtain ⟨fd_Sureness_ready_in, G_Sureness_ready_in, B_Sureness_ready_in, K_Sureness_ready_in⟩ := ok_Sureness_ready_in (P := P) (w := w) (base := base) T
  obtain ⟨fd, F⟩ := T.f_just_ready_minutes
  refine ⟨fd, F.ok sc_just_ready_minutes (fun vs H Q E h => ?_) (fun cdv A outer s H vs Q E hr h => ?_), F.bindsN fun _ _ _ _ _ _ us hl => match us, hl with | [_, _], _ => rfl, F.kp⟩
  · obtain ⟨xs, G, eG, ⟨a, n, d, p, rfl, hS, hp, rfl⟩, k⟩ := h
    rfl
  · refine ⟨_, PSs.nox (pss_cons (ps_set (i := 2) sc_just_ready_minutes.nd rfl (Or.inl rfl) pe_dnewK) (pss_cons (ps_for PassesOwn.never rfl (pi_list (pe_fld (pe_fld (pv 0) rfl) rfl)) (pg_name (i := 3) sc_just_ready_minutes.nd rfl (Or.inl rfl)) (pss_cons (ps_set (i := 4) sc_just_ready_minutes.nd rfl (Or.inl rfl) (pe_meth (pv 0) T.c_Sureness T.m_Sureness_ready_in G_Sureness_ready_in (hr.mono (by decide)) B_Sureness_ready_in .nil pass0 (pa_cons (pv 1) (pa_cons (pe_fld (pv 3) rfl) pa_nil)))) (pss_one (ps_if (PW.pt (pw_and (pt_cmpR op_ne (pv 4) (pe_gint T.i_NONE) (nomark _)) (pw_and1 (pt_cmpR op_ge (pe_fld (pv 3) rfl) (pv 4) (nomark _))))) (pss_one (ps_dput (hu_of hr) (pv 2) (pe_op op_sub (pe_fld (pv 3) rfl) (pv 4)) pe_bl rfl)) pss_nil)))) (pss_one (ps_ret (pe_callB (call_sortedDI rfl) (by rfl) T.b_sorted (by decide +kernel) (pa_cons (pv 2) pa_nil)))))), ?_⟩
    obtain ⟨xs, G, eG, ⟨a, n, d, p, rfl, hS, hp, rfl⟩, k⟩ := h
    obtain ⟨na, pl, cl, gl, cm, wm, rows, wrows, cs, gs, ⟨⟨dx, ho⟩, ⟨dn, hno⟩, hcl, hgl, hcs, hgs, hnet, -⟩⟩ := hS.view
    have ok := hS.2.1
    have lgo := ok.gl
    have lg : gs.length = n.goes.length := paired_len hgs
    refine fun fl hfl => ?_
    have e1 : Ex H (upd H fl (.dK [])) := Ex.new hfl
    refine q_forLn (a := gl) (xs := gs.map V.ref) (ev_fld (ev_fld (ev_var rfl) ((eG.trans e1) _ _ ho) T.c_Sureness T.n_Sureness_net lSureness_net) ((eG.trans e1) _ _ hno) T.c_Net T.n_Net_goes lNet_goes) (sq_of ((eG.trans e1) _ _ hgl))
      (fun i σ' H' => (∃ x3 x4, σ' = [some (.ref a), some (nV p), some (.ref fl), x3, x4]) ∧ Ex H H' ∧ ∃ (kvs : List (Key × V)) (ks : List Int), H' fl = some (.dK kvs) ∧ kvs.map (·.1) = ks.map Sum.inl ∧ ks.Nodup ∧ ks.length ≤ i ∧ ∀ x : Int, x ∈ ks ↔ ∃ m ∈ (n.goes.take i).filterMap (jr n p), x = (m : Int))
      (fun H2 e2 => ⟨⟨_, _, rfl⟩, e1.trans e2, [], [], e2 _ _ upd_same, rfl, List.nodup_nil, Nat.le_refl _, fun x => ?_⟩) (fun i σ' H' _ q => sq_of (q.2.1 _ _ (eG _ _ hgl))) ?_ ?_
    · rw [List.take_zero]
      exact ⟨fun z => (by cases z), fun ⟨m, z, _⟩ => (by cases z)⟩
    · rintro i x σ' H' hx ⟨⟨x3, x4, rfl⟩, eH, kvs, ks, h1, h2, h3, h4, h5⟩
      have eG' := eG.trans eH
      rw [List.getElem?_map] at hx
      obtain ⟨ga, hga, rfl⟩ := Option.map_eq_some_iff.mp hx
      obtain ⟨g, hg⟩ : ∃ g, n.goes[i]? = some g := ⟨_, List.getElem?_eq_getElem (by rw [← lg]; exact (List.getElem?_eq_some_iff.mp hga).1)⟩
      have hin := (List.getElem?_eq_some_iff.mp hg).1
      obtain ⟨ga', h0, dg, nm, hg0, _⟩ := paired_at hgs hg
      rw [hga] at h0
      cases h0
      have og := go_ok ok hg
      have lk : kvs.length = ks.length := by
        have := congrArg List.length h2
        rw [List.length_map, List.length_map] at this
        exact this
      have more : (n.goes.take (i + 1)).filterMap (jr n p) = (n.goes.take i).filterMap (jr n p) ++ [g].filterMap (jr n p) := by
        rw [List.take_add_one, hg, List.filterMap_append]
        rfl
      refine q_asg (ev_rdy hS eG' (ev_var rfl) (ev_var rfl) (ev_fld (ev_var rfl) (eG' _ _ hg0) T.c_Departure T.n_Departure_start lDeparture_start) hp og.fr) fun H2 e2 => ?_
      have eG2 := eG'.trans e2
      have lv : ∀ {x : L2.St} {H3 : Hp}, Ex H2 H3 → x[3]? = some (some (.ref ga)) → Ev (tFld K (tVar 3) "leaves") x H3 (nV g.dep) := fun e h => ev_fld (ev_var h) ((eG2.trans e) _ _ hg0) T.c_Departure T.n_Departure_leaves lDeparture_leaves
      refine s_when (b := (jr n p g).isSome) (et_is (et_and (et_test (ev_neI (ev_var rfl) ev_c)) fun _ => et_test (ev_op (lv (Ex.refl _) rfl) (ev_var rfl) rv_I0)) ?_) (fun hb H3 e3 => ?_) (fun hb H3 e3 => ?_)
      · unfold jr
        cases rdy n p g.from_ with
        | none => rfl
        | some m =>
          show (!decide ((m : Int) = -1) && decide ((g.dep : Int) ≥ (m : Int))) = (if m ≤ g.dep then some (g.dep - m) else none).isSome
          rw [decide_eq_false (by omega), Bool.not_false, Bool.true_and]
          by_cases q : m ≤ g.dep
          · rw [if_pos q, decide_eq_true (by omega)]
            rfl
          · rw [if_neg q, decide_eq_false (by omega)]
            rfl
      · obtain ⟨z, hz⟩ := Option.isSome_iff_exists.mp hb
        obtain ⟨m, hm, hle, ez⟩ : ∃ m, rdy n p g.from_ = some m ∧ m ≤ g.dep ∧ z = g.dep - m := by
          unfold jr at hz
          cases e : rdy n p g.from_ with
          | none => rw [e] at hz; cases hz
          | some m =>
            rw [e] at hz
            have hz' : (if m ≤ g.dep then some (g.dep - m) else none) = some z := hz
            by_cases q : m ≤ g.dep
            · rw [if_pos q] at hz'
              exact ⟨m, rfl, q, (Option.some.inj hz').symm⟩
            · rw [if_neg q] at hz'
              cases hz'
        have hfl3 := e3 _ _ (e2 _ _ h1)
        refine s_dput (z := (z : Int)) hfl3 ev_c (ev_var rfl) (ev_is (ev_op (lv e3 rfl) (ev_var rfl) rv_I0) (congrArg V.int ?_)) (by omega) fun H4 e4 => ?_
        · rw [hm]
          show (g.dep : Int) - (m : Int) = (z : Int)
          omega
        refine ⟨⟨_, _, rfl⟩, Ex.mut ((eH.trans e2).trans (e3.trans e4)) hfl, _, if (z : Int) ∈ ks then ks else ks ++ [(z : Int)], upd_same, putK_keys h2, ?_, ?_, fun x => ?_⟩
        · split
          · exact h3
          · rename_i q
            refine List.nodup_append.mpr ⟨h3, by simp, fun a ha b hb => ?_⟩
            cases List.mem_singleton.mp hb
            exact fun e => q (e ▸ ha)
        · split
          · omega
          · rw [List.length_append]
            show ks.length + 1 ≤ i + 1
            omega
        · have e5 : [g].filterMap (jr n p) = [z] := by simp [hz]
          rw [more, e5]
          have h5x := h5 x
          constructor
          · intro hx'
            have : x ∈ ks ∨ x = (z : Int) := by
              split at hx'
              · exact .inl hx'
              · rcases List.mem_append.mp hx' with q | q
                · exact .inl q
                · exact .inr (List.mem_singleton.mp q)
            rcases this with q | q
            · obtain ⟨m', hm', e⟩ := h5x.mp q
              exact ⟨m', List.mem_append_left _ hm', e⟩
            · exact ⟨z, List.mem_append_right _ (List.mem_singleton.mpr rfl), q⟩
          · rintro ⟨m', hm', e⟩
            have : x ∈ ks ∨ x = (z : Int) := by
              rcases List.mem_append.mp hm' with q | q
              · exact .inl (h5x.mpr ⟨m', q, e⟩)
              · cases List.mem_singleton.mp q
                exact .inr e
            split
            · rename_i q
              rcases this with q' | q'
              · exact q'
              · rw [q']
                exact q
            · exact this.elim (List.mem_append_left _) fun q => List.mem_append_right _ (List.mem_singleton.mpr q)
      · have e5 : [g].filterMap (jr n p) = [] := by
          cases e : jr n p g with
          | none => simp [e]
          | some z => rw [e] at hb; cases hb
        refine ⟨⟨_, _, rfl⟩, eH.trans (e2.trans e3), kvs, ks, e3 _ _ (e2 _ _ h1), h2, h3, by omega, fun x => ?_⟩
        rw [more, e5, List.append_nil]
        exact h5 x
    · rintro σ' H' ⟨⟨x3, x4, rfl⟩, eH, kvs, ks, h1, h2, h3, h4, h5⟩
      rw [List.length_map, lg] at h4
      rw [List.length_map, lg, List.take_length] at h5
      refine ⟨_, rfl, fl, kvs, ks, rfl, .inl h1, h2, by omega, fun ys q hpm hs hq => ?_⟩
      have e : ys = (putAll (justReady n p)).map fun (m : Nat) => (m : Int) := sorted_keys hs (hpm.nodup_iff.mpr h3) fun x => by
        rw [hpm.mem_iff, h5 x, jr_all]
      refine k q _ (fresh_back eH hq) (eH.trans (Ex.new hq)) ?_
      rw [upd_same, e, List.map_map]
      rfl
def profF (n : Vbtoad.Net) (d k p t : Nat) : Option (Nat × Nat) := if stepB n d k p t = true then some (t, (sureK n d k p t).getD 0) else none
def profV (l : List (Nat × Nat)) : List V := l.flatMap fun x => [nV x.1, nV x.2]
theorem profV_len (l : List (Nat × Nat)) : (profV l).length = 2 * l.length := by
  unfold profV
  induction l with
  | nil => rfl
  | cons x l ih =>
    rw [List.flatMap_cons, List.length_append, ih]
    show 2 + 2 * l.length = 2 * (l.length + 1)
    omega
theorem putAll_len (l : List Nat) : (putAll l).length ≤ l.length := by
  have key : ∀ (l acc : List Nat), (l.foldl (fun l t => Vbtoad.profile.put t l) acc).length ≤ acc.length + l.length := by
    have one : ∀ (t : Nat) (l : List Nat), (Vbtoad.profile.put t l).length ≤ l.length + 1 := by
      intro t l
      induction l with
      | nil => exact Nat.le_refl _
      | cons x l ih =>
        unfold Vbtoad.profile.put
        split
        · exact Nat.le_refl _
        · split
          · exact Nat.le_succ _
          · exact Nat.succ_le_succ ih
    intro l
    induction l with
    | nil => exact fun acc => Nat.le_refl _
    | cons y l ih =>
      intro acc
      have a := ih (Vbtoad.profile.put y acc)
      have b := one y acc
      rw [List.foldl_cons, List.length_cons]
      omega
  have := key l []
  exact Nat.le_trans this (by simp)
theorem stepB_some {n : Vbtoad.Net} {d k p t : Nat} (h : stepB n d k p t = true) : ∃ a, sureK n d k p t = some a := by
  unfold stepB at h
  cases e : sureK n d k p t with
  | none =>
    rw [e] at h
    cases h
  | some a => exact ⟨a, rfl⟩
def sp_profile_of (K : PySem.W.Frag) : Sp := PureL fun vs G xs => ∃ (a : Addr) (n : Vbtoad.Net) (d kk p : Nat), vs = [.ref a, .int (kk : Int), .int (p : Int)] ∧ SurK K G a n d ∧ kk < 4 ∧ p < n.places.length ∧ xs = profV (Vbtoad.profile n (Vbtoad.roadsOf n) d kk p)
theorem sc_profile_of : FnScope ["sureness", "k", "place", "found", "minute"] ["sureness", "k", "place"] (defScope s_profile_of) := ⟨rfl, rfl, rfl, by decide +kernel, rfl, by decide +kernel, by decide +kernel⟩
theorem ok_profile_of {P : Program} {w : World} {K : PySem.W.Frag} {mg : Str → Option Value} {base : Heap} (T : Txt w K mg) : OkD P w K mg base CX0 6 (He.ga K "profile_of") ["sureness", "k", "place"] (sp_profile_of K) := by
  obtain ⟨fd_just_ready_minutes, G_just_ready_minutes, B_just_ready_minutes, K_just_ready_minutes⟩ := ok_just_ready_minutes (P := P) (w := w) (base := base) T
  obtain ⟨fd_is_step, G_is_step, B_is_step, K_is_step⟩ := ok_is_step (P := P) (w := w) (base := base) T
  obtain ⟨fd_Sureness_sure, G_Sureness_sure, B_Sureness_sure, K_Sureness_sure⟩ := ok_Sureness_sure (P := P) (w := w) (base := base) T
  obtain ⟨fd, F⟩ := T.f_profile_of
  refine ⟨fd, F.ok sc_profile_of (fun vs H Q E h => ?_) (fun cdv A outer s H vs Q E hr h => ?_), F.bindsN fun _ _ _ _ _ _ us hl => match us, hl with | [_, _, _], _ => rfl, F.kp⟩
  · obtain ⟨xs, G, eG, ⟨a, n, d, kk, p, rfl, hS, hk, hp, rfl⟩, k⟩ := h
    rfl
  · refine ⟨_, PSs.nox (pss_cons (ps_set (i := 3) sc_profile_of.nd rfl (Or.inl rfl) (pe_lst pa_nil)) (pss_cons (ps_for PassesOwn.never rfl (pi_list (pe_call G_just_ready_minutes (hr.mono (by decide)) rfl T.g_just_ready_minutes K_just_ready_minutes B_just_ready_minutes .nil pass0 (pa_cons (pv 0) (pa_cons (pv 2) pa_nil)))) (pg_name (i := 4) sc_profile_of.nd rfl (Or.inl rfl)) (pss_one (ps_if (pt_val (pe_call G_is_step (hr.mono (by decide)) rfl T.g_is_step K_is_step B_is_step .nil pass0 (pa_cons (pv 0) (pa_cons (pv 1) (pa_cons (pv 4) (pa_cons (pv 2) pa_nil)))))) (pss_one (ps_expr (pe_bm PySem.F.plainAttrs_list PySem.F.slot_list_extend PySem.F.type_list_extend mt_extend (pv 3) (pa_cons (pe_lst (pa_cons (pv 4) (pa_cons (pe_meth (pv 0) T.c_Sureness T.m_Sureness_sure G_Sureness_sure (hr.mono (by decide)) B_Sureness_sure .nil pass0 (pa_cons (pv 1) (pa_cons (pv 4) (pa_cons (pv 2) pa_nil)))) pa_nil))) pa_nil)))) pss_nil))) (pss_one (ps_ret (pv 3))))), ?_⟩
    obtain ⟨xs, G, eG, ⟨a, n, d, kk, p, rfl, hS, hk, hp, rfl⟩, k⟩ := h
    have ok := hS.2.1
    have hd := hS.2.2.1
    have lgo := ok.gl
    have ll : (putAll (justReady n p)).length ≤ 30 := by
      have h1 := putAll_len (justReady n p)
      have h2 : (justReady n p).length ≤ n.goes.length := List.length_filterMap_le ..
      omega
    refine q_asgL (el_lst ea_nil (by show 0 ≤ 100000; omega)) fun fl H1 hfl e1 h1 => ?_
    refine q_forNLn (xs := (putAll (justReady n p)).map nV) (el_call (ea_cons (ev_var rfl) (ea_cons (ev_var rfl) ea_nil)) (spl_pure ⟨a, n, d, p, rfl, hS.ex (eG.trans e1), hp, rfl⟩))
      (fun l i σ' H' => (∃ x4, σ' = [some (.ref a), some (nV kk), some (nV p), some (.ref fl), x4]) ∧ Ex H H' ∧ H1 l = none ∧ H' l = some (.lst ((putAll (justReady n p)).map nV)) ∧ H' fl = some (.lst (profV (((putAll (justReady n p)).take i).filterMap (profF n d kk p)))))
      (fun l H2 hl e2 h2 => ⟨⟨_, rfl⟩, e1.trans e2, hl, h2, e2 _ _ h1⟩) (fun l i σ' H' _ q => sq_of q.2.2.2.1) ?_ ?_
    · rintro l i x σ' H' hx ⟨⟨x4, rfl⟩, eH, hl, hll, hH⟩
      have eG' := eG.trans eH
      rw [List.getElem?_map] at hx
      obtain ⟨t, ht, rfl⟩ := Option.map_eq_some_iff.mp hx
      have hil := (List.getElem?_eq_some_iff.mp ht).1
      have nl : l ≠ fl := fun z => by
        rw [z, h1] at hl
        cases hl
      have more : ((putAll (justReady n p)).take (i + 1)).filterMap (profF n d kk p) = ((putAll (justReady n p)).take i).filterMap (profF n d kk p) ++ [t].filterMap (profF n d kk p) := by
        rw [List.take_add_one, ht, List.filterMap_append]
        rfl
      have small : (profV (((putAll (justReady n p)).take i).filterMap (profF n d kk p))).length ≤ 60 := by
        rw [profV_len]
        have h3 : (((putAll (justReady n p)).take i).filterMap (profF n d kk p)).length ≤ ((putAll (justReady n p)).take i).length := List.length_filterMap_le ..
        have h4 : ((putAll (justReady n p)).take i).length ≤ (putAll (justReady n p)).length := List.length_take_le' ..
        omega
      refine s_when (b := stepB n d kk p t) (et_B (ev_call (ea_cons (ev_var rfl) (ea_cons (ev_var rfl) (ea_cons (ev_var rfl) (ea_cons (ev_var rfl) ea_nil)))) (spv_pure ⟨a, n, d, kk, t, p, rfl, hS.ex eG', hk, hp, rfl⟩))) (fun hb H2 e2 => ?_) (fun hb H2 e2 => ?_)
      · obtain ⟨b, hbs⟩ := stepB_some hb
        have e5 : [t].filterMap (profF n d kk p) = [(t, b)] := by
          have : profF n d kk p t = some (t, b) := by
            unfold profF
            rw [if_pos hb, hbs]
            rfl
          simp [this]
        refine s_ext (ys := [nV t, nV b]) (e2 _ _ hH) (ev_var rfl) (el_lst (ea_cons (ev_var rfl) (ea_cons (ev_is (ev_sure (t := t) hS (eG'.trans e2) (ev_var rfl) (ev_var rfl) (ev_var rfl) (ev_var rfl) hk hp) (by rw [hbs]; rfl)) ea_nil)) (by show 2 ≤ 100000; decide)) (by show _ + 2 ≤ 100000; omega) fun H3 e3 => ?_
        refine ⟨⟨_, rfl⟩, Ex.mut ((eH.trans e2).trans e3) hfl, hl, (upd_ne nl).trans (e3 _ _ (e2 _ _ hll)), ?_⟩
        rw [more, e5, upd_same]
        unfold profV
        rw [List.flatMap_append]
        rfl
      · have e5 : [t].filterMap (profF n d kk p) = [] := by
          have : profF n d kk p t = none := by
            unfold profF
            rw [hb, if_neg (by decide)]
          simp [this]
        refine ⟨⟨_, rfl⟩, eH.trans e2, hl, e2 _ _ hll, ?_⟩
        rw [more, e5, List.append_nil]
        exact e2 _ _ hH
    · rintro l σ' H' ⟨⟨x4, rfl⟩, eH, hl, hll, hH⟩
      rw [List.length_map, List.take_length] at hH
      refine s_ret (ev_var rfl) fun H2 e2 => k fl H2 hfl (eH.trans e2) (e2 _ _ ?_)
      rw [hH, profile_eq ok hp hd]
      rfl
end SJ
/-! Texts: bytes, names, numbers. -/
namespace SJ
open PySem PySem.Spec PyProof.Rows L2 Evl LamX
section
variable {w : World} {K : PySem.W.Frag} {mg : Str → Option Value} (T : Txt w K mg)
include T
theorem Txt.flt_i : PySem.W.findIn K (.ref (He.ga K "Fault")) "__init__" = some (some (.ref (fltI K))) := by
  obtain ⟨h, X, G, c⟩ := T
  exact (says_flt c).1
theorem Txt.flt_t : PySem.W.typeIn K (.ref (fltI K)) = some (.type "function") := by
  obtain ⟨h, X, G, c⟩ := T
  exact (says_flt c).2.1
theorem Txt.flt_ve : PySem.W.findCls K (.type "ValueError") (.type "type") "__init__" = some (.val (.builtin "ValueError.__init__")) := by
  obtain ⟨h, X, G, c⟩ := T
  exact (says_flt c).2.2.1
end
/-- a comprehension over a text -/
theorem el_lcS {σ : L2.St} {H : Hp} {te tl : TE} {z : Str} {j : Nat} {vs : List Nat} (v : Nat → V) (h : Ev tl σ H (.str z)) (hz : z.cps.size ≤ 40000) (hw : ∀ x, wipe ((wipe σ vs).set j (some x)) vs = wipe σ vs)
    (he : ∀ (i c : Nat) H1, Ex H H1 → z.cps[i]? = some c → Ev te ((wipe σ vs).set j (some (.str ⟨#[c]⟩))) H1 (v i)) : EvL (tLc (iStr tl) (gName j) tYes te vs) σ H ((List.range z.cps.size).map v) := fun H0 e Q q => h H0 e _ fun H1 e1 => ⟨z, rfl, fun Dl hD =>
  lc_it walk_str (Cw H1 (fun _ => true) v Dl) ⟨hD, Ex.new hD, upd_same⟩ (fun _ _ _ _ => True.intro) (fun i x H' H2 hi p y => by
    obtain ⟨rfl, c, hc, rfl⟩ := y
    exact ⟨hw _, cw_turn p (by omega) (fun H5 e5 Q q => q H5 (Ex.refl H5)) fun _ => he i c H1 (e.trans e1) hc⟩) fun H' p => q Dl H' (fresh_back e1 p.1) (e1.trans p.2.1) (by
    have z2 := p.2.2
    rw [given_all] at z2
    exact z2)⟩
theorem range_getD {α β : Type} (f : α → β) (d : α) (l : List α) : (List.range l.length).map (fun i => f (l.getD i d)) = l.map f := by
  apply List.ext_getElem?
  intro i
  rw [List.getElem?_map, List.getElem?_map]
  by_cases hi : i < l.length
  · rw [List.getElem?_range hi, List.getElem?_eq_getElem hi]
    show some (f (l.getD i d)) = some (f l[i])
    rw [List.getD_eq_getElem?_getD, List.getElem?_eq_getElem hi]
    rfl
  · rw [List.getElem?_eq_none (by simpa using hi), List.getElem?_eq_none (by omega)]
    rfl
def sp_bytes_of (K : PySem.W.Frag) : Sp := PureL fun vs G xs => ∃ x : Str, vs = [.str x] ∧ x.cps.size ≤ 1000 ∧ xs = x.cps.toList.map nV
theorem sc_bytes_of : FnScope ["text", "sign"] ["text"] (defScope s_bytes_of) := ⟨rfl, rfl, rfl, by decide +kernel, rfl, by decide +kernel, by decide +kernel⟩
theorem ok_bytes_of {P : Program} {w : World} {K : PySem.W.Frag} {mg : Str → Option Value} {base : Heap} (T : Txt w K mg) : OkD P w K mg base CX0 1 (He.ga K "bytes_of") ["text"] (sp_bytes_of K) := by
  obtain ⟨fd, F⟩ := T.f_bytes_of
  refine ⟨fd, F.ok sc_bytes_of (fun vs H Q E h => ?_) (fun cdv A outer s H vs Q E hr h => ?_), F.bindsN fun _ _ _ _ _ _ us hl => match us, hl with | [_], _ => rfl, F.kp⟩
  · obtain ⟨xs, G, eG, ⟨x, rfl, hx, rfl⟩, k⟩ := h
    rfl
  · refine ⟨_, PSs.nox (pss_one (ps_ret (pe_lc (own := [("sign", 1)]) (g := (gName 1)) rfl sc_bytes_of.nd (pi_str (pv 0)) (blkOk_by (own := [("sign", 1)]) (N := ["text", "sign"]) (sc := defScope s_bytes_of) (by decide +kernel)) (fun _ _ _ _ _ => (pg_name (i := 1) sc_bytes_of.nd rfl (Or.inl rfl))) (fun _ _ _ _ _ => pts_nil) (fun _ _ _ _ _ => (pe_callB call_ord (by rfl) T.b_ord (by decide +kernel) (pa_cons (pv 1) pa_nil)))))), ?_⟩
    obtain ⟨xs, G, eG, ⟨x, rfl, hx, rfl⟩, k⟩ := h
    refine s_retL (el_is (el_lcS (fun i => nV (x.cps.getD i 0)) (ev_var rfl) (by omega) (fun y => rfl) fun i c H1 e1 hc => ?_) ?_) k
    · refine ev_cb (ea_cons (ev_var rfl) ea_nil) fun H2 _ Q q => ⟨⟨#[c]⟩, rfl, rfl, ?_⟩
      have e : x.cps.getD i 0 = c := by
        rw [Array.getD_eq_getD_getElem?, hc]
        rfl
      rw [e] at q
      exact q H2 (Ex.refl H2)
    · have e : ∀ i, x.cps.getD i 0 = x.cps.toList.getD i 0 := fun i => by
        rw [Array.getD_eq_getD_getElem?, List.getD_eq_getElem?_getD, Array.getElem?_toList]
      rw [show (fun i => nV (x.cps.getD i 0)) = fun i => nV (x.cps.toList.getD i 0) from funext fun i => by rw [e i]]
      exact range_getD nV 0 x.cps.toList
def sp_is_digit (K : PySem.W.Frag) : Sp := PureSp fun vs G z => ∃ c : Nat, vs = [.int (c : Int)] ∧ z = .bl (Vbbtaa.isDigit c)
theorem sc_is_digit : FnScope ["byte"] ["byte"] (defScope s_is_digit) := ⟨rfl, rfl, rfl, by decide +kernel, rfl, by decide +kernel, by decide +kernel⟩
theorem ok_is_digit {P : Program} {w : World} {K : PySem.W.Frag} {mg : Str → Option Value} {base : Heap} (T : Txt w K mg) : OkD P w K mg base CX0 1 (He.ga K "is_digit") ["byte"] (sp_is_digit K) := by
  obtain ⟨fd, F⟩ := T.f_is_digit
  refine ⟨fd, F.ok sc_is_digit (fun vs H Q E h => ?_) (fun cdv A outer s H vs Q E hr h => ?_), F.bindsN fun _ _ _ _ _ _ us hl => match us, hl with | [_], _ => rfl, F.kp⟩
  · obtain ⟨z, G, eG, ⟨c, rfl, rfl⟩, k⟩ := h
    rfl
  · refine ⟨_, PSs.nox (pss_one (ps_ret (pe_and (pe_cmpR op_le (pe_gint T.i_ZERO) (pv 0) (nomark _)) (pe_one (pe_cmpR op_le (pv 0) (pe_gint T.i_NINE) (nomark _)))))), ?_⟩
    obtain ⟨z, G, eG, ⟨c, rfl, rfl⟩, k⟩ := h
    refine s_ret (ev_andV (ev_op ev_c (ev_var rfl) rv_I0) fun _ => ev_op (ev_var rfl) ev_c rv_I0) fun H1 e1 => bl_eq (k _ e1) ?_
    unfold Vbbtaa.isDigit
    exact congr (congrArg _ (decide_eq_decide.mpr (by omega))) (decide_eq_decide.mpr (by omega))
def sp_is_small (K : PySem.W.Frag) : Sp := PureSp fun vs G z => ∃ c : Nat, vs = [.int (c : Int)] ∧ z = .bl (Vbbtaa.isSmall c)
theorem sc_is_small : FnScope ["byte"] ["byte"] (defScope s_is_small) := ⟨rfl, rfl, rfl, by decide +kernel, rfl, by decide +kernel, by decide +kernel⟩
theorem ok_is_small {P : Program} {w : World} {K : PySem.W.Frag} {mg : Str → Option Value} {base : Heap} (T : Txt w K mg) : OkD P w K mg base CX0 1 (He.ga K "is_small") ["byte"] (sp_is_small K) := by
  obtain ⟨fd, F⟩ := T.f_is_small
  refine ⟨fd, F.ok sc_is_small (fun vs H Q E h => ?_) (fun cdv A outer s H vs Q E hr h => ?_), F.bindsN fun _ _ _ _ _ _ us hl => match us, hl with | [_], _ => rfl, F.kp⟩
  · obtain ⟨z, G, eG, ⟨c, rfl, rfl⟩, k⟩ := h
    rfl
  · refine ⟨_, PSs.nox (pss_one (ps_ret (pe_and (pe_cmpR op_le (pe_gint T.i_FIRST_LETTER) (pv 0) (nomark _)) (pe_one (pe_cmpR op_le (pv 0) (pe_gint T.i_LAST_LETTER) (nomark _)))))), ?_⟩
    obtain ⟨z, G, eG, ⟨c, rfl, rfl⟩, k⟩ := h
    refine s_ret (ev_andV (ev_op ev_c (ev_var rfl) rv_I0) fun _ => ev_op (ev_var rfl) ev_c rv_I0) fun H1 e1 => bl_eq (k _ e1) ?_
    unfold Vbbtaa.isSmall
    exact congr (congrArg _ (decide_eq_decide.mpr (by omega))) (decide_eq_decide.mpr (by omega))
theorem all_flags (f : Nat → Bool) (t : List Nat) : (t.map f).all id = t.all f := by
  rw [List.all_map]
  rfl
/-- [f(byte) for byte in word], all of it -/
theorem el_flags {K : PySem.W.Frag} {σ : L2.St} {H : Hp} {te tl : TE} {a : Addr} {t : List Nat} {j : Nat} {vs : List Nat} (f : Nat → Bool) (h : Ev tl σ H (.ref a)) (ha : NameAt H a t) (hz : t.length ≤ 40000) (hw : ∀ x, wipe ((wipe σ vs).set j (some x)) vs = wipe σ vs)
    (he : ∀ (c : Nat) H1, Ex H H1 → c ∈ t → Ev te ((wipe σ vs).set j (some (nV c))) H1 (.bl (f c))) : EvL (tLc (iList K tl) (gName j) tYes te vs) σ H ((t.map f).map V.bl) := by
  refine el_is (el_lcL (a := a) (xs := t.map nV) (fun _ => true) (fun i => V.bl (f (t.getD i 0))) h (sq_of ha) (by rw [List.length_map]; exact hz) hw (fun i x H1 _ _ => fun H5 e5 Q q => q H5 (Ex.refl H5)) fun i x H1 e1 hx _ => ?_) ?_
  · rw [List.getElem?_map] at hx
    obtain ⟨c, hc, rfl⟩ := Option.map_eq_some_iff.mp hx
    have e : t.getD i 0 = c := by
      rw [List.getD_eq_getElem?_getD, hc]
      rfl
    rw [e]
    exact he c H1 e1 (List.mem_of_getElem? hc)
  · rw [given_all, List.length_map, List.map_map]
    exact range_getD (fun c => V.bl (f c)) 0 t
/-- all([..]) -/
theorem ev_all {K : PySem.W.Frag} {σ : L2.St} {H : Hp} {te : TE} {bs : List Bool} (h : EvL te σ H (bs.map V.bl)) : Ev (tCB (rAll K) (tCons te tNil)) σ H (.bl (bs.all id)) := fun H1 e Q q =>
  h H1 e _ fun p H2 _ e2 h2 => ⟨p, bs, rfl, sq_of h2, q H2 e2⟩
def sp_is_name (K : PySem.W.Frag) : Sp := PureSp fun vs G z => ∃ (a : Addr) (t : List Nat), vs = [.ref a] ∧ NameAt G a t ∧ t.length ≤ 40000 ∧ z = .bl (Vbbtaa.isName t)
theorem sc_is_name : FnScope ["word", "byte"] ["word"] (defScope s_is_name) := ⟨rfl, rfl, rfl, by decide +kernel, rfl, by decide +kernel, by decide +kernel⟩
theorem ok_is_name {P : Program} {w : World} {K : PySem.W.Frag} {mg : Str → Option Value} {base : Heap} (T : Txt w K mg) : OkD P w K mg base CX0 2 (He.ga K "is_name") ["word"] (sp_is_name K) := by
  obtain ⟨fd_is_small, G_is_small, B_is_small, K_is_small⟩ := ok_is_small (P := P) (w := w) (base := base) T
  obtain ⟨fd_is_digit, G_is_digit, B_is_digit, K_is_digit⟩ := ok_is_digit (P := P) (w := w) (base := base) T
  obtain ⟨fd, F⟩ := T.f_is_name
  refine ⟨fd, F.ok sc_is_name (fun vs H Q E h => ?_) (fun cdv A outer s H vs Q E hr h => ?_), F.bindsN fun _ _ _ _ _ _ us hl => match us, hl with | [_], _ => rfl, F.kp⟩
  · obtain ⟨z, G, eG, ⟨a, t, rfl, ha, ht, rfl⟩, k⟩ := h
    rfl
  · refine ⟨_, PSs.nox (pss_cons (ps_if (PW.pt (pw_or (pt_cmpR op_lt (pe_callB call_len_seq (by rfl) T.b_len PySem.boot_len (pa_cons (pv 0) pa_nil)) pe_int (nomark _)) (pw_or (pt_cmpR op_gt (pe_callB call_len_seq (by rfl) T.b_len PySem.boot_len (pa_cons (pv 0) pa_nil)) (pe_gint T.i_LONGEST_NAME) (nomark _)) (pw_or1 (pt_not (pt_val (pe_call G_is_small (hr.mono (by decide)) rfl T.g_is_small K_is_small B_is_small .nil pass0 (pa_cons (pe_ix ix_list (pv 0) pe_int (fun _ _ => rfl)) pa_nil)))))))) (pss_one (ps_ret pe_bl)) pss_nil) (pss_one (ps_ret (pe_callB (cr_all rfl) (by rfl) T.b_all (by decide +kernel) (pa_cons (pe_lc (own := [("byte", 1)]) (g := (gName 1)) rfl sc_is_name.nd (pi_list (pv 0)) (blkOk_by (own := [("byte", 1)]) (N := ["word", "byte"]) (sc := defScope s_is_name) (by decide +kernel)) (fun _ _ _ _ _ => (pg_name (i := 1) sc_is_name.nd rfl (Or.inl rfl))) (fun _ _ _ _ _ => pts_nil) (fun _ _ _ _ _ => (pe_or (pe_call G_is_small (hr.mono (by decide)) rfl T.g_is_small K_is_small B_is_small .nil pass0 (pa_cons (pv 1) pa_nil)) (pe_one (pe_call G_is_digit (hr.mono (by decide)) rfl T.g_is_digit K_is_digit B_is_digit .nil pass0 (pa_cons (pv 1) pa_nil)))))) pa_nil))))), ?_⟩
    obtain ⟨z, G, eG, ⟨a, t, rfl, ha, ht, rfl⟩, k⟩ := h
    have hs := ha.ex eG
    cases t with
    | nil =>
      refine q_when (b := true) (et_or (a := true) (b := true) (et_is (et_test (ev_op (ev_len (ev_var rfl) (sq_of hs)) ev_c rv_I0)) rfl) fun z => (by cases z)) (fun _ H1 e1 => ?_) (fun z => (by cases z))
      exact s_ret ev_c fun H2 e2 => k _ (e1.trans e2)
    | cons c r =>
      refine q_when (b := decide (12 < (c :: r).length) || !Vbbtaa.isSmall c) (et_is (a := false || (decide (12 < (c :: r).length) || !Vbbtaa.isSmall c)) (et_or (et_is (et_test (ev_op (ev_len (ev_var rfl) (sq_of hs)) ev_c rv_I0)) ?_) fun _ => et_or (et_is (et_test (ev_op (ev_len (ev_var rfl) (sq_of hs)) ev_c rv_I0)) ?_) fun _ => et_not (et_B (ev_call (ea_cons (ev_ixL (ev_var rfl) ev_c hs rfl) ea_nil) (spv_pure ⟨c, rfl, rfl⟩)))) (Bool.false_or _)) (fun hb H1 e1 => ?_) (fun hb H1 e1 => ?_)
      · refine decide_eq_false ?_
        rw [List.length_map]
        show ¬ (((c :: r).length : Nat) : Int) < 1
        rw [List.length_cons]
        omega
      · rw [List.length_map]
        exact decide_eq_decide.mpr (by omega)
      · refine s_ret ev_c fun H2 e2 => bl_eq (k _ (e1.trans e2)) ?_
        unfold Vbbtaa.isName
        rw [Bool.or_eq_true, decide_eq_true_iff, Bool.not_eq_true'] at hb
        show false = (Vbbtaa.isSmall c && (decide (r.length ≤ 11) && r.all fun d => Vbbtaa.isSmall d || Vbbtaa.isDigit d))
        rcases hb with hb | hb
        · rw [List.length_cons] at hb
          rw [decide_eq_false (show ¬ r.length ≤ 11 by omega), Bool.false_and, Bool.and_false]
        · rw [hb, Bool.false_and]
      · refine s_ret (ev_all (el_flags (fun b => Vbbtaa.isSmall b || Vbbtaa.isDigit b) (ev_var rfl) (hs.ex e1) ht (fun x => rfl) fun b H2 e2 hb' => ev_orV (ev_call (ea_cons (ev_var rfl) ea_nil) (spv_pure ⟨b, rfl, rfl⟩)) fun _ => ev_call (ea_cons (ev_var rfl) ea_nil) (spv_pure ⟨b, rfl, rfl⟩))) fun H2 e2 => bl_eq (k _ (e1.trans e2)) ?_
        rw [Bool.or_eq_false_iff, decide_eq_false_iff_not, Bool.not_eq_false'] at hb
        obtain ⟨h1, h2⟩ := hb
        rw [all_flags, List.all_cons, h2]
        show (true && r.all _) = (Vbbtaa.isSmall c && (decide (r.length ≤ 11) && r.all fun d => Vbbtaa.isSmall d || Vbbtaa.isDigit d))
        rw [List.length_cons] at h1
        rw [h2, decide_eq_true (show r.length ≤ 11 by omega), Bool.true_and, Bool.true_and]
theorem natOf_no {t : List Nat} (h : (decide (t.length < 1) || (decide (6 < t.length) || !t.all Vbbtaa.isDigit)) = true) : Vbbtaa.natOf 6 t = none := by
  unfold Vbbtaa.natOf
  rw [Bool.or_eq_true, Bool.or_eq_true, decide_eq_true_iff, decide_eq_true_iff, Bool.not_eq_true'] at h
  refine if_pos ?_
  rcases h with h | h | h
  · refine .inl ?_
    have : t = [] := List.eq_nil_of_length_eq_zero (by omega)
    rw [this]
    rfl
  · exact .inr (.inl h)
  · exact .inr (.inr (.inl h))
theorem natOf_yes {c : Nat} {r : List Nat} (h : (decide ((c :: r).length < 1) || (decide (6 < (c :: r).length) || !(c :: r).all Vbbtaa.isDigit)) = false) : Vbbtaa.natOf 6 (c :: r) = if 1 < (c :: r).length ∧ c = 48 then none else some (Vbbtaa.valueOf (c :: r)) := by
  unfold Vbbtaa.natOf
  rw [Bool.or_eq_false_iff, Bool.or_eq_false_iff, decide_eq_false_iff_not, decide_eq_false_iff_not, Bool.not_eq_false'] at h
  obtain ⟨h1, h2, h3⟩ := h
  by_cases q : 1 < (c :: r).length ∧ c = 48
  · rw [if_pos q]
    exact if_pos (.inr (.inr (.inr ⟨q.1, by rw [q.2]; rfl⟩)))
  · rw [if_neg q]
    refine if_neg fun z => ?_
    rcases z with z | z | z | ⟨z, z2⟩
    · cases z
    · exact h2 z
    · rw [h3] at z
      cases z
    · exact q ⟨z, Option.some.inj z2⟩
def sp_is_number (K : PySem.W.Frag) : Sp := PureSp fun vs G z => ∃ (a : Addr) (t : List Nat), vs = [.ref a] ∧ NameAt G a t ∧ t.length ≤ 40000 ∧ z = .bl (Vbbtaa.natOf 6 t).isSome
theorem sc_is_number : FnScope ["word", "byte"] ["word"] (defScope s_is_number) := ⟨rfl, rfl, rfl, by decide +kernel, rfl, by decide +kernel, by decide +kernel⟩
theorem ok_is_number {P : Program} {w : World} {K : PySem.W.Frag} {mg : Str → Option Value} {base : Heap} (T : Txt w K mg) : OkD P w K mg base CX0 2 (He.ga K "is_number") ["word"] (sp_is_number K) := by
  obtain ⟨fd_is_digit, G_is_digit, B_is_digit, K_is_digit⟩ := ok_is_digit (P := P) (w := w) (base := base) T
  obtain ⟨fd, F⟩ := T.f_is_number
  refine ⟨fd, F.ok sc_is_number (fun vs H Q E h => ?_) (fun cdv A outer s H vs Q E hr h => ?_), F.bindsN fun _ _ _ _ _ _ us hl => match us, hl with | [_], _ => rfl, F.kp⟩
  · obtain ⟨z, G, eG, ⟨a, t, rfl, ha, ht, rfl⟩, k⟩ := h
    rfl
  · refine ⟨_, PSs.nox (pss_cons (ps_if (PW.pt (pw_or (pt_cmpR op_lt (pe_callB call_len_seq (by rfl) T.b_len PySem.boot_len (pa_cons (pv 0) pa_nil)) pe_int (nomark _)) (pw_or (pt_cmpR op_gt (pe_callB call_len_seq (by rfl) T.b_len PySem.boot_len (pa_cons (pv 0) pa_nil)) (pe_gint T.i_MOST_DIGITS) (nomark _)) (pw_or1 (pt_not (pt_val (pe_callB (cr_all rfl) (by rfl) T.b_all (by decide +kernel) (pa_cons (pe_lc (own := [("byte", 1)]) (g := (gName 1)) rfl sc_is_number.nd (pi_list (pv 0)) (blkOk_by (own := [("byte", 1)]) (N := ["word", "byte"]) (sc := defScope s_is_number) (by decide +kernel)) (fun _ _ _ _ _ => (pg_name (i := 1) sc_is_number.nd rfl (Or.inl rfl))) (fun _ _ _ _ _ => pts_nil) (fun _ _ _ _ _ => (pe_call G_is_digit (hr.mono (by decide)) rfl T.g_is_digit K_is_digit B_is_digit .nil pass0 (pa_cons (pv 1) pa_nil)))) pa_nil)))))))) (pss_one (ps_ret pe_bl)) pss_nil) (pss_one (ps_ret (pe_or (pe_cmpR op_ne (pe_ix ix_list (pv 0) pe_int (fun _ _ => rfl)) (pe_gint T.i_ZERO) (nomark _)) (pe_one (pe_cmpR op_eq (pe_callB call_len_seq (by rfl) T.b_len PySem.boot_len (pa_cons (pv 0) pa_nil)) pe_int (nomark _))))))), ?_⟩
    obtain ⟨z, G, eG, ⟨a, t, rfl, ha, ht, rfl⟩, k⟩ := h
    have hs := ha.ex eG
    have hl : ∀ {x : L2.St} {H1 : Hp}, Ex H H1 → x[0]? = some (some (.ref a)) → Ev (tCB (fun xs H_1 Q => ∃ p ys, xs = [V.ref p] ∧ (SqL K H_1 p ys ∨ SqT K H_1 p ys) ∧ Q (.int (ys.length : Int)) H_1) (tCons (tVar 0) tNil)) x H1 (.int (t.length : Int)) := fun e h => ev_is (ev_len (ev_var h) (sq_of (hs.ex e))) (by rw [List.length_map])
    refine q_when (b := decide (t.length < 1) || (decide (6 < t.length) || !t.all Vbbtaa.isDigit)) (et_or (et_is (et_test (ev_op (hl (Ex.refl _) rfl) ev_c rv_I0)) (decide_eq_decide.mpr (by omega))) fun _ => et_or (et_is (et_test (ev_op (hl (Ex.refl _) rfl) ev_c rv_I0)) (decide_eq_decide.mpr (by omega))) fun _ => et_not (et_is (et_test (ev_all (el_flags Vbbtaa.isDigit (ev_var rfl) hs ht (fun x => rfl) fun b H2 e2 hb' => ev_call (ea_cons (ev_var rfl) ea_nil) (spv_pure ⟨b, rfl, rfl⟩)))) (all_flags _ _))) (fun hb H1 e1 => ?_) (fun hb H1 e1 => ?_)
    · refine s_ret ev_c fun H2 e2 => bl_eq (k _ (e1.trans e2)) ?_
      rw [natOf_no hb]
      rfl
    · cases t with
      | nil => cases hb
      | cons c r =>
        refine s_ret (ev_orV (ev_neI (ev_ixL (ev_var rfl) ev_c (hs.ex e1) rfl) ev_c) fun _ => ev_eqI (hl e1 rfl) ev_c) fun H2 e2 => bl_eq (k _ (e1.trans e2)) ?_
        rw [natOf_yes hb]
        by_cases q : 1 < (c :: r).length ∧ c = 48
        · rw [if_pos q, decide_eq_true (show ((c : Nat) : Int) = 48 by omega), decide_eq_false (show ¬ (((c :: r).length : Nat) : Int) = 1 by omega)]
          rfl
        · rw [if_neg q]
          show _ = true
          rw [Bool.or_eq_true, Bool.not_eq_true', decide_eq_false_iff_not, decide_eq_true_iff]
          have : 1 ≤ (c :: r).length := by rw [List.length_cons]; omega
          omega
/-- the worth of digits: the whole is below 10 to their number -/
theorem value_lt (w : List Nat) (h : w.all Vbbtaa.isDigit = true) : Vbbtaa.valueOf w < 10 ^ w.length := by
  have key : ∀ (w : List Nat) (a m : Nat), w.all Vbbtaa.isDigit = true → a < 10 ^ m → w.foldl (fun n c => 10 * n + (c - 48)) a < 10 ^ (m + w.length) := by
    intro w
    induction w with
    | nil => exact fun a m _ h => h
    | cons c r ih =>
      intro a m hw ha
      rw [List.all_cons, Bool.and_eq_true] at hw
      have hc : c ≤ 57 := by
        have := hw.1
        unfold Vbbtaa.isDigit at this
        rw [Bool.and_eq_true, decide_eq_true_iff, decide_eq_true_iff] at this
        exact this.2
      have := ih (10 * a + (c - 48)) (m + 1) hw.2 (by rw [Nat.pow_succ]; omega)
      rw [List.foldl_cons, List.length_cons, show m + (r.length + 1) = m + 1 + r.length by omega]
      exact this
  have := key w 0 0 h (by decide)
  rw [Nat.zero_add] at this
  exact this
def sp_worth_of (K : PySem.W.Frag) : Sp := PureSp fun vs G z => ∃ (a : Addr) (t : List Nat), vs = [.ref a] ∧ NameAt G a t ∧ t.length ≤ 6 ∧ t.all Vbbtaa.isDigit = true ∧ z = nV (Vbbtaa.valueOf t)
theorem sc_worth_of : FnScope ["word", "found", "byte"] ["word"] (defScope s_worth_of) := ⟨rfl, rfl, rfl, by decide +kernel, rfl, by decide +kernel, by decide +kernel⟩
theorem ok_worth_of {P : Program} {w : World} {K : PySem.W.Frag} {mg : Str → Option Value} {base : Heap} (T : Txt w K mg) : OkD P w K mg base CX0 1 (He.ga K "worth_of") ["word"] (sp_worth_of K) := by
  obtain ⟨fd, F⟩ := T.f_worth_of
  refine ⟨fd, F.ok sc_worth_of (fun vs H Q E h => ?_) (fun cdv A outer s H vs Q E hr h => ?_), F.bindsN fun _ _ _ _ _ _ us hl => match us, hl with | [_], _ => rfl, F.kp⟩
  · obtain ⟨z, G, eG, ⟨a, t, rfl, ha, ht, hd, rfl⟩, k⟩ := h
    rfl
  · refine ⟨_, PSs.nox (pss_cons (ps_set (i := 1) sc_worth_of.nd rfl (Or.inl rfl) pe_int) (pss_cons (ps_for PassesOwn.never rfl (pi_list (pv 0)) (pg_name (i := 2) sc_worth_of.nd rfl (Or.inl rfl)) (pss_one (ps_set (i := 1) sc_worth_of.nd rfl (Or.inl rfl) (pe_op op_sub (pe_op op_add (pe_op op_mul (pv 1) pe_int) (pv 2)) (pe_gint T.i_ZERO))))) (pss_one (ps_ret (pv 1))))), ?_⟩
    obtain ⟨z, G, eG, ⟨a, t, rfl, ha, ht, hd, rfl⟩, k⟩ := h
    have hs := ha.ex eG
    refine q_asg ev_c fun H1 e1 => ?_
    refine q_forX (xs := t.map nV) (ev_var rfl) (hs.ex e1) (fun i σ => ∃ x2, σ = [some (.ref a), some (nV (Vbbtaa.valueOf (t.take i))), x2]) ⟨_, rfl⟩ ?_ ?_
    · rintro i y σ' H' e' hy ⟨x2, rfl⟩
      rw [List.getElem?_map] at hy
      obtain ⟨c, hc, rfl⟩ := Option.map_eq_some_iff.mp hy
      have hcd : 48 ≤ c := by
        have := List.all_eq_true.mp hd c (List.mem_of_getElem? hc)
        unfold Vbbtaa.isDigit at this
        rw [Bool.and_eq_true, decide_eq_true_iff, decide_eq_true_iff] at this
        exact this.1
      have lt : Vbbtaa.valueOf (t.take i) < 10 ^ 6 := by
        have h1 : (t.take i).all Vbbtaa.isDigit = true := List.all_eq_true.mpr fun x hx => List.all_eq_true.mp hd x (List.mem_of_mem_take hx)
        have h2 := value_lt _ h1
        have h3 : (t.take i).length ≤ 6 := Nat.le_trans (List.length_take_le' ..) ht
        exact Nat.lt_of_lt_of_le h2 (Nat.pow_le_pow_right (by decide) h3)
      have more : Vbbtaa.valueOf (t.take (i + 1)) = 10 * Vbbtaa.valueOf (t.take i) + (c - 48) := by
        unfold Vbbtaa.valueOf
        rw [List.take_add_one, hc, List.foldl_append]
        rfl
      refine s_asg (v := nV (Vbbtaa.valueOf (t.take (i + 1)))) (ev_is (ev_op (ev_op (ev_op (ev_var rfl) ev_c (rv_I (Or.inr ⟨by decide, by decide⟩))) (ev_var rfl) rv_I0) ev_c rv_I0) (congrArg V.int ?_)) fun H2 e2 => ⟨e'.trans e2, ⟨some (nV c), rfl⟩⟩
      rw [more]
      omega
    · rintro σ' H' e' ⟨x2, rfl⟩
      refine s_ret (ev_var rfl) fun H2 e2 => int_eq (k _ (e1.trans (e'.trans e2))) ?_
      rw [List.length_map, List.take_length]
end SJ
/-! Texts: lines and words. -/
namespace SJ
open PySem PySem.Spec PyProof.Rows L2 Evl LamX
theorem pe_fldK {X : Cx} {K : PySem.W.Frag} {e : Expr} {ta : TE} {f : Str} {pos : Pos} (hK : X.K = K) (he : PE X e ta) (hb : attributeBase e f X.env (eval e X.env) = eval e X.env) : PE X (.Attribute e f pos) (tFld K ta f) := by
  rw [← hK]
  exact pe_fld he hb
theorem ix_listK {X : Cx} {K : PySem.W.Frag} (hK : X.K = K) : IxR X (rIxL K) := by
  rw [← hK]
  exact ix_list
def sp_ends_of_lines (K : PySem.W.Frag) : Sp := PureL fun vs G xs => ∃ (a : Addr) (t : List Nat), vs = [.ref a] ∧ NameAt G a t ∧ t.length ≤ 4000 ∧ xs = (endsP 0 t).map nV
theorem sc_ends_of_lines : FnScope ["text", "at"] ["text"] (defScope s_ends_of_lines) := ⟨rfl, rfl, rfl, by decide +kernel, rfl, by decide +kernel, by decide +kernel⟩
theorem ok_ends_of_lines {P : Program} {w : World} {K : PySem.W.Frag} {mg : Str → Option Value} {base : Heap} (T : Txt w K mg) : OkD P w K mg base CX0 1 (He.ga K "ends_of_lines") ["text"] (sp_ends_of_lines K) := by
  obtain ⟨fd, F⟩ := T.f_ends_of_lines
  refine ⟨fd, F.ok sc_ends_of_lines (fun vs H Q E h => ?_) (fun cdv A outer s H vs Q E hr h => ?_), F.bindsN fun _ _ _ _ _ _ us hl => match us, hl with | [_], _ => rfl, F.kp⟩
  · obtain ⟨xs, G, eG, ⟨a, t, rfl, ha, ht, rfl⟩, k⟩ := h
    rfl
  · refine ⟨_, PSs.nox (pss_one (ps_ret (pe_op op_cat (pe_lc (own := [("at", 1)]) (g := (gName 1)) rfl sc_ends_of_lines.nd (pi_range1 rfl T.b_range (pa_cons (pe_callB call_len_seq (by rfl) T.b_len PySem.boot_len (pa_cons (pv 0) pa_nil)) pa_nil)) (blkOk_by (own := [("at", 1)]) (N := ["text", "at"]) (sc := defScope s_ends_of_lines) (by decide +kernel)) (fun _ _ _ _ _ => (pg_name (i := 1) sc_ends_of_lines.nd rfl (Or.inl rfl))) (fun _ _ _ _ _ => (pts_one (pt_cmpR op_eq (pe_ix (ix_listK (K := K) rfl) (pv 0) (pv 1) (fun _ _ => rfl)) (pe_gint T.i_LINE_END) (nomark _)))) (fun _ _ _ _ _ => (pv 1))) (pe_lst (pa_cons (pe_callB call_len_seq (by rfl) T.b_len PySem.boot_len (pa_cons (pv 0) pa_nil)) pa_nil))))), ?_⟩
    obtain ⟨xs, G, eG, ⟨a, t, rfl, ha, ht, rfl⟩, k⟩ := h
    have hs := ha.ex eG
    have hl : ∀ {x : L2.St} {H1 : Hp}, Ex H H1 → x[0]? = some (some (.ref a)) → Ev (tCB (fun xs H_1 Q => ∃ p ys, xs = [V.ref p] ∧ (SqL K H_1 p ys ∨ SqT K H_1 p ys) ∧ Q (.int (ys.length : Int)) H_1) (tCons (tVar 0) tNil)) x H1 (.int (t.length : Int)) := fun e h => ev_is (ev_len (ev_var h) (sq_of (hs.ex e))) (by rw [List.length_map])
    refine s_retL (el_is (el_cat (el_lcR1 (n := (t.length : Int)) (fun i => decide (t[i]? = some 10)) (fun i => nV i) (ea_cons (hl (Ex.refl _) rfl) ea_nil) (by omega) (fun x => rfl) (fun i H1 e1 hi => ?_) fun i H1 e1 hi _ => ev_var rfl)
      (el_lst (ea_cons (hl (Ex.refl _) rfl) ea_nil) (by show 1 ≤ 100000; decide)) ?_) ?_) k
    · obtain ⟨c, hc⟩ : ∃ c, t[i]? = some c := ⟨_, List.getElem?_eq_getElem (by omega)⟩
      refine et_is (et_test (ev_eqI (ev_ixL (ev_var rfl) (ev_var rfl) (hs.ex e1) (by rw [List.getElem?_map, hc]; rfl)) ev_c)) ?_
      rw [hc]
      exact decide_eq_decide.mpr ⟨fun z => by
        have : c = 10 := by omega
        rw [this], fun z => by
        have := Option.some.inj z
        omega⟩
    · have h1 : (given ((t.length : Int)).toNat (fun i => decide (t[i]? = some 10)) fun i => nV i).length ≤ t.length := by
        unfold given
        rw [List.length_map]
        refine Nat.le_trans (List.length_filter_le ..) ?_
        rw [List.length_range]
        omega
      show _ + 1 ≤ 100000
      omega
    · rw [endsP_eq, Int.toNat_natCast]
      unfold given
      rw [List.map_append, List.map_map, Nat.zero_add]
      have : (nV ∘ fun i => 0 + i) = fun i => nV i := funext fun i => by
        show nV (0 + i) = nV i
        rw [Nat.zero_add]
      rw [this]
      rfl
/-! ### words -/
def WordAt (H : Hp) (a : Addr) (w : Vbbtaa.Word) : Prop := ∃ na, H a = some (.tup [.ref na, nV w.at_]) ∧ NameAt H na w.text
theorem WordAt.ex {H H' : Hp} {a : Addr} {w : Vbbtaa.Word} (h : WordAt H a w) (e : Ex H H') : WordAt H' a w := by
  obtain ⟨na, h1, h2⟩ := h
  exact ⟨na, e _ _ h1, h2.ex e⟩
def WordsAt (H : Hp) (l : Addr) (ws : List Vbbtaa.Word) : Prop := ThingsAt WordAt H l ws
theorem WordsAt.ex {H H' : Hp} {l : Addr} {ws : List Vbbtaa.Word} (h : WordsAt H l ws) (e : Ex H H') : WordsAt H' l ws := ThingsAt.ex (fun _ _ z => z.ex e) h e
section
variable {H H' H1 : Hp} {rows rows' : List Addr} {x : Addr} {o : HO}
theorem noRows_mut (e : Ex H H1) (hx : x ∈ rows) : Ex (noRows rows H) (noRows rows (upd H1 x o)) := fun b u hb => by
  have hb2 := noRows_ex b u hb
  have nb : b ∉ rows := fun z => by
    rw [noRows_none z] at hb
    cases hb
  exact noRows_at ((upd_ne (fun z => nb (by rw [z]; exact hx))).trans (e _ _ hb2)) nb
theorem noRows_to (e : Ex H H1) (h : ∀ b u, H b = some u → b ∉ rows → b ∉ rows') : Ex (noRows rows H) (noRows rows' H1) := fun b u hb => by
  have hb2 := noRows_ex b u hb
  have nb : b ∉ rows := fun z => by
    rw [noRows_none z] at hb
    cases hb
  exact noRows_at (e _ _ hb2) (h b u hb2 nb)
end
/-- what is new -/
def newIn (H H' : Hp) : Hp := fun b => match H b with
  | none => H' b
  | some _ => none
theorem newIn_ex {H H' : Hp} : Ex (newIn H H') H' := fun b o h => by
  unfold newIn at h
  cases q : H b with
  | none => rw [q] at h; exact h
  | some u => rw [q] at h; cases h
theorem newIn_none {H H' : Hp} {b : Addr} {o : HO} (h : newIn H H' b = some o) : H b = none := by
  unfold newIn at h
  cases q : H b with
  | none => rfl
  | some u => rw [q] at h; cases h
theorem newIn_at {H H' : Hp} {b : Addr} {o : HO} (n : H b = none) (h : H' b = some o) : newIn H H' b = some o := by
  unfold newIn
  rw [n]
  exact h
theorem newIn_up {H H' H1 : Hp} (e : Ex H' H1) : Ex (newIn H H') (newIn H H1) := fun b o h => newIn_at (newIn_none h) (e _ _ (newIn_ex _ _ h))
theorem newR_mut {H H' H1 : Hp} {rows : List Addr} {x : Addr} {o : HO} (e : Ex H' H1) (hx : x ∈ rows) : Ex (noRows rows (newIn H H')) (noRows rows (newIn H (upd H1 x o))) := fun b u hb => by
  have hb2 := noRows_ex b u hb
  have nb : b ∉ rows := fun z => by
    rw [noRows_none z] at hb
    cases hb
  exact noRows_at (newIn_at (newIn_none hb2) ((upd_ne (fun z => nb (by rw [z]; exact hx))).trans (e _ _ (newIn_ex _ _ hb2)))) nb
def sp_words_between (K : PySem.W.Frag) : Sp := fun vs H Q _ => ∃ (G : Hp) (a : Addr) (T : List Nat) (s e : Nat), vs = [.ref a, .int (s : Int), .int (e : Int)] ∧ Ex G H ∧ NameAt G a T ∧ s ≤ e ∧ e ≤ T.length ∧ T.length ≤ 4000 ∧
  ∀ l H', Ex H H' → H l = none → WordsAt (newIn H H') l (Vbbtaa.wordsBy Vbtoad.plainSign s (seg T s e)) → Q (.ref l) H'
theorem sc_words_between : FnScope ["text", "start", "end", "found", "word", "at"] ["text", "start", "end"] (defScope s_words_between) := ⟨rfl, rfl, rfl, by decide +kernel, rfl, by decide +kernel, by decide +kernel⟩
theorem ok_words_between {P : Program} {w : World} {K : PySem.W.Frag} {mg : Str → Option Value} {base : Heap} (T : Txt w K mg) : OkD P w K mg base CX0 1 (He.ga K "words_between") ["text", "start", "end"] (sp_words_between K) := by
  obtain ⟨fd, F⟩ := T.f_words_between
  refine ⟨fd, F.ok sc_words_between (fun vs H Q E h => ?_) (fun cdv A outer s H vs Q E hr h => ?_), F.bindsN fun _ _ _ _ _ _ us hl => match us, hl with | [_, _, _], _ => rfl, F.kp⟩
  · obtain ⟨G, a, T', s0, e0, rfl, eG, ha, hse, he, ht, k⟩ := h
    rfl
  · refine ⟨_, PSs.nox (pss_cons (ps_set (i := 3) sc_words_between.nd rfl (Or.inl rfl) (pe_lst pa_nil)) (pss_cons (ps_set (i := 4) sc_words_between.nd rfl (Or.inl rfl) (pe_lst pa_nil)) (pss_cons (ps_for PassesOwn.never rfl (pi_range2 rfl T.b_range (pa_cons (pv 1) (pa_cons (pv 2) pa_nil))) (pg_name (i := 5) sc_words_between.nd rfl (Or.inl rfl)) (pss_one (ps_if (pt_cmpR op_ne (pe_ix ix_list (pv 0) (pv 5) (fun _ _ => rfl)) (pe_gint T.i_BLANK) (nomark _)) (pss_one (ps_expr (pe_bm PySem.F.plainAttrs_list PySem.F.slot_list_append PySem.F.type_list_append mt_append (pv 4) (pa_cons (pe_ix ix_list (pv 0) (pv 5) (fun _ _ => rfl)) pa_nil)))) (pss_one (ps_if (pt_cmpR (op_neD hr.units) (pv 4) (pe_lst pa_nil) (nomark _)) (pss_cons (ps_expr (pe_bm PySem.F.plainAttrs_list PySem.F.slot_list_append PySem.F.type_list_append mt_append (pv 3) (pa_cons (pe_tup (pa_cons (pv 4) (pa_cons (pe_op op_sub (pv 5) (pe_callB call_len_seq (by rfl) T.b_len PySem.boot_len (pa_cons (pv 4) pa_nil))) pa_nil))) pa_nil))) (pss_one (ps_set (i := 4) sc_words_between.nd rfl (Or.inl rfl) (pe_lst pa_nil)))) pss_nil))))) (pss_cons (ps_if (pt_cmpR (op_neD hr.units) (pv 4) (pe_lst pa_nil) (nomark _)) (pss_one (ps_expr (pe_bm PySem.F.plainAttrs_list PySem.F.slot_list_append PySem.F.type_list_append mt_append (pv 3) (pa_cons (pe_tup (pa_cons (pv 4) (pa_cons (pe_op op_sub (pv 2) (pe_callB call_len_seq (by rfl) T.b_len PySem.boot_len (pa_cons (pv 4) pa_nil))) pa_nil))) pa_nil)))) pss_nil) (pss_one (ps_ret (pv 3))))))), ?_⟩
    obtain ⟨G, a, T', s0, e0, rfl, eG, ha, hse, he, ht, k⟩ := h
    have hs := ha.ex eG
    refine q_asgL (el_lst ea_nil (by show 0 ≤ 100000; omega)) fun fl H1 hfl e1 h1 => ?_
    refine q_asgL (el_lst ea_nil (by show 0 ≤ 100000; omega)) fun wl H2 hwl e2 h2 => ?_
    have e12 := e1.trans e2
    have lseg : (seg T' s0 e0).length = e0 - s0 := by
      unfold seg
      rw [List.length_take, List.length_drop]
      omega
    refine q_forR2 (ea_cons (ev_var rfl) (ea_cons (ev_var rfl) ea_nil)) (by omega) (fun i σ' H' => ∃ (wl : Addr) (as : List Addr) (found : List Vbbtaa.Word) (word : List Nat) (x5 : Option V), σ' = [some (.ref a), some (nV s0), some (nV e0), some (.ref fl), some (.ref wl), x5] ∧
      Ex H H' ∧ H wl = none ∧ fl ≠ wl ∧ H' fl = some (.lst (as.map V.ref)) ∧ H' wl = some (.lst (word.map nV)) ∧ Paired (WordAt (noRows [fl, wl] (newIn H H'))) as found ∧ WLoop s0 (seg T' s0 e0) i found word ∧ as.length ≤ i)
      (fun H3 e3 => ⟨wl, [], [], [], _, rfl, e12.trans e3, fresh_back e1 hwl, ne_of_none h1 hwl, e3 _ _ (e2 _ _ h1), e3 _ _ h2, .nil, WLoop.start _ _, Nat.le_refl _⟩) ?_ ?_
    · rintro i σ' H' hi ⟨wl, as, found, word, x5, rfl, eH, hwl, nfw, hF, hW, hP, hL, hA⟩
      have eG' := eG.trans eH
      have hsi : s0 + i < e0 := by omega
      obtain ⟨c, hc⟩ : ∃ c, T'[s0 + i]? = some c := ⟨_, List.getElem?_eq_getElem (by omega)⟩
      have hcs : (seg T' s0 e0)[i]? = some c := by
        unfold seg
        rw [List.getElem?_take, if_pos (by omega), List.getElem?_drop, hc]
      have wsz : word.length ≤ 4000 := by have := hL.len; omega
      have at_ : ∀ {H3 : Hp} {x : L2.St}, Ex H' H3 → x[0]? = some (some (.ref a)) → x[5]? = some (some (.int ((s0 : Int) + (i : Int)))) → Ev (tOp (rIxL K) (tVar 0) (tVar 5)) x H3 (nV c) := fun e h h' => ev_ixL (i := s0 + i) (ev_var h) (ev_is (ev_var h') (congrArg V.int (by omega))) ((ha.ex eG').ex e) (by rw [List.getElem?_map, hc]; rfl)
      refine s_if (et_test (ev_neI (at_ (Ex.refl _) rfl rfl) ev_c)) (fun hb H3 e3 => ?_) (fun hb H3 e3 => ?_)
      · have nb : c ≠ 32 := fun z => by
          rw [z] at hb
          cases hb
        refine s_app (e3 _ _ hW) (ev_var rfl) (at_ e3 rfl rfl) (by rw [List.length_map]; omega) fun H4 e4 => ?_
        have e34 := e3.trans e4
        refine ⟨wl, as, found, word ++ [c], _, rfl, Ex.mut (eH.trans e34) hwl, hwl, nfw, (upd_ne nfw).trans (e34 _ _ hF), ?_, paired_mono (fun _ _ z => z.ex (newR_mut e34 (by simp))) hP, hL.sign hcs nb, by omega⟩
        rw [upd_same, List.map_append]
        rfl
      · have isb : c = 32 := by
          by_cases z : c = 32
          · exact z
          · rw [decide_eq_false (by omega)] at hb
            cases hb
        subst isb
        refine s_when (b := !decide (natsI word = [])) (et_test (ev_opL (ev_var rfl) (el_lst ea_nil (by show 0 ≤ 100000; omega)) fun p H4 hp e4 => rv_neInts (r := []) (show NameAt H4 wl word from (e3.trans e4) _ _ hW).ints hp)) (fun hn H4 e4 => ?_) (fun hn H4 e4 => ?_)
        · have nw : word ≠ [] := fun z => by
            rw [z] at hn
            cases hn
          have e34 := e3.trans e4
          have lw := hL.len
          refine q_appU (e34 _ _ hF) (ev_var rfl) (eu_tup (ea_cons (ev_var rfl) (ea_cons (ev_is (w := nV (s0 + i - word.length)) (ev_op (ev_var rfl) (ev_is (ev_len (ev_var rfl) (sq_of (e34 _ _ hW))) (by rw [List.length_map])) rv_I0) (congrArg V.int (by omega))) ea_nil)) (by show 2 ≤ 100000; decide)) (by rw [List.length_map]; omega) fun tp H5 htp e5 h5 => ?_
          have e35 := e34.trans e5
          have eH5 : Ex H (upd H5 fl (.lst (as.map V.ref ++ [V.ref tp]))) := Ex.mut (eH.trans e35) hfl
          have ntp : tp ≠ fl := fun z => by
            have q := e34 _ _ hF
            rw [← z, htp] at q
            cases q
          refine s_asgL (el_lst ea_nil (by show 0 ≤ 100000; omega)) fun w2 H6 hw2 e6 h6 => ?_
          have keep : ∀ b u, H' b = some u → b ≠ fl → upd H5 fl (.lst (as.map V.ref ++ [V.ref tp])) b = some u := fun b u hb nb => (upd_ne nb).trans (e35 _ _ hb)
          have hF6 := e6 _ _ (upd_same (H := H5) (a := fl) (o := .lst (as.map V.ref ++ [V.ref tp])))
          have nf2 : fl ≠ w2 := ne_of_none upd_same hw2
          have nw2 : wl ≠ w2 := ne_of_none (keep wl _ hW (Ne.symm nfw)) hw2
          have nt2 : tp ≠ w2 := ne_of_none ((upd_ne ntp).trans h5) hw2
          have ex6 : Ex (noRows [fl, wl] (newIn H H')) (noRows [fl, w2] (newIn H H6)) := fun b u hb => by
            have hb2 := noRows_ex b u hb
            have nb : b ∉ [fl, wl] := fun z => by
              rw [noRows_none z] at hb
              cases hb
            have nbf : b ≠ fl := fun z => nb (by rw [z]; simp)
            have hb3 := keep b u (newIn_ex _ _ hb2) nbf
            refine noRows_at (newIn_at (newIn_none hb2) (e6 _ _ hb3)) fun z => ?_
            rcases List.mem_cons.mp z with z | z
            · exact nbf z
            · exact ne_of_none hb3 hw2 (List.mem_singleton.mp z)
          have tp6 : noRows [fl, w2] (newIn H H6) tp = some (.tup [.ref wl, nV (s0 + i - word.length)]) := noRows_at (newIn_at (fresh_back (eH.trans e34) htp) (e6 _ _ ((upd_ne ntp).trans h5))) (by simp [ntp, nt2])
          have wl6 : noRows [fl, w2] (newIn H H6) wl = some (.lst (word.map nV)) := noRows_at (newIn_at hwl (e6 _ _ (keep wl _ hW (Ne.symm nfw)))) (by simp [Ne.symm nfw, nw2])
          refine ⟨w2, as ++ [tp], found ++ [⟨s0 + i - word.length, word⟩], [], _, rfl, eH5.trans e6, fresh_back eH5 hw2, nf2, by rw [List.map_append]; exact hF6, h6, paired_app (paired_mono (fun _ _ z => z.ex ex6) hP) (.cons (show WordAt (noRows [fl, w2] (newIn H H6)) tp ⟨s0 + i - word.length, word⟩ from ⟨wl, tp6, wl6⟩) .nil), hL.word_ hcs nw, by rw [List.length_append]; show as.length + 1 ≤ i + 1; omega⟩
        · have nw : word = [] := by
            by_cases z : natsI word = []
            · cases word with
              | nil => rfl
              | cons c r => cases z
            · rw [decide_eq_false z] at hn
              cases hn
          subst nw
          have e34 := e3.trans e4
          exact ⟨wl, as, found, [], _, rfl, eH.trans e34, hwl, nfw, e34 _ _ hF, e34 _ _ hW, paired_mono (fun _ _ z => z.ex (noRows_to (newIn_up e34) fun b u _ nb => nb)) hP, hL.blank hcs, by omega⟩
    · rintro σ' H' ⟨wl, as, found, word, x5, rfl, eH, hwl, nfw, hF, hW, hP, hL, hA⟩
      have en : ((e0 : Int) - (s0 : Int)).toNat = (seg T' s0 e0).length := by omega
      rw [en] at hL hA
      have hD := hL.done
      have lw := hL.len
      have es : s0 + (seg T' s0 e0).length = e0 := by omega
      have eG' := eG.trans eH
      refine q_when (b := !decide (natsI word = [])) (et_test (ev_opL (ev_var rfl) (el_lst ea_nil (by show 0 ≤ 100000; omega)) fun p H4 hp e4 => rv_neInts (r := []) (show NameAt H4 wl word from e4 _ _ hW).ints hp)) (fun hn H3 e3 => ?_) (fun hn H3 e3 => ?_)
      · have nw : word ≠ [] := fun z => by
          rw [z] at hn
          cases hn
        rw [if_neg nw, es] at hD
        refine s_appU (e3 _ _ hF) (ev_var rfl) (eu_tup (ea_cons (ev_var rfl) (ea_cons (ev_is (w := nV (e0 - word.length)) (ev_op (ev_var rfl) (ev_is (ev_len (ev_var rfl) (sq_of (e3 _ _ hW))) (by rw [List.length_map])) rv_I0) (congrArg V.int (by omega))) ea_nil)) (by show 2 ≤ 100000; decide)) (by rw [List.length_map]; omega) fun tp H5 htp e5 h5 => ?_
        have e35 := e3.trans e5
        have eH5 : Ex H (upd H5 fl (.lst (as.map V.ref ++ [V.ref tp]))) := Ex.mut (eH.trans e35) hfl
        have ntp : tp ≠ fl := fun z => by
          have q := e3 _ _ hF
          rw [← z, htp] at q
          cases q
        refine s_ret (ev_var rfl) fun H6 e6 => k fl H6 (eH5.trans e6) hfl ?_
        rw [hD]
        have ex6 : Ex (noRows [fl, wl] (newIn H H')) (newIn H H6) := fun b u hb => by
          have hb2 := noRows_ex b u hb
          have nbf : b ≠ fl := fun z => by
            rw [noRows_none (show b ∈ [fl, wl] by rw [z]; simp)] at hb
            cases hb
          exact newIn_at (newIn_none hb2) (e6 _ _ ((upd_ne nbf).trans (e35 _ _ (newIn_ex _ _ hb2))))
        have tp6 : WordAt (newIn H H6) tp ⟨e0 - word.length, word⟩ := ⟨wl, newIn_at (fresh_back (eH.trans e3) htp) (e6 _ _ ((upd_ne ntp).trans h5)), newIn_at hwl (e6 _ _ ((upd_ne (Ne.symm nfw)).trans (e35 _ _ hW)))⟩
        refine ⟨as ++ [tp], ?_, paired_app (paired_mono (fun _ _ z => z.ex ex6) hP) (.cons tp6 .nil)⟩
        rw [List.map_append]
        exact newIn_at hfl (e6 _ _ upd_same)
      · have nw : word = [] := by
          by_cases z : natsI word = []
          · cases word with
            | nil => rfl
            | cons c r => cases z
          · rw [decide_eq_false z] at hn
            cases hn
        subst nw
        rw [if_pos rfl] at hD
        refine s_ret (ev_var rfl) fun H6 e6 => k fl H6 (eH.trans (e3.trans e6)) hfl ?_
        rw [hD]
        exact ⟨as, newIn_at hfl ((e3.trans e6) _ _ hF), paired_mono (fun _ _ z => z.ex (noRows_ex.trans (newIn_up (e3.trans e6)))) hP⟩
end SJ
/-! Texts: faults, a line. -/
namespace SJ
open PySem PySem.Spec PyProof.Rows L2 Evl LamX
def sp_Fault_init (K : PySem.W.Frag) : Sp := fun vs H Q _ => ∃ (a : Addr) (x y : V), vs = [.ref a, x, y] ∧ H a = some (exo a (cFault K) none) ∧
  ∀ d, H d = none → d ≠ a → Q .non (upd (upd (upd H d (exd d [("kind", x)])) a (exo a (cFault K) (some d))) d (exd d [("at", y), ("kind", x)]))
theorem sc_Fault_init : FnScope ["self", "kind", "at"] ["self", "kind", "at"] (defScope s_Fault_init) := ⟨rfl, rfl, rfl, by decide +kernel, rfl, by decide +kernel, by decide +kernel⟩
theorem ok_Fault_init {P : Program} {w : World} {K : PySem.W.Frag} {mg : Str → Option Value} {base : Heap} (T : Txt w K mg) : OkD P w K mg base CX0 1 (He.ma K (He.ga K "Fault") "__init__") ["self", "kind", "at"] (sp_Fault_init K) := by
  obtain ⟨fd, F⟩ := T.f_Fault_init
  refine ⟨fd, F.ok sc_Fault_init (fun vs H Q E h => ?_) (fun cdv A outer s H vs Q E hr h => ?_), F.bindsN fun _ _ _ _ _ _ us hl => match us, hl with | [_, _, _], _ => rfl, F.kp⟩
  · obtain ⟨a, x, y, rfl, ha, k⟩ := h
    rfl
  · refine ⟨_, PSs.nox (pss_cons (ps_expr (pe_veinit rfl T.b_ValueError T.flt_ve (pa_cons (pv 0) (pa_cons pe_str pa_nil)))) (pss_cons (ps_ost (pv 0) (pv 1)) (pss_one (ps_ost (pv 0) (pv 2))))), ?_⟩
    obtain ⟨a, x, y, rfl, ha, k⟩ := h
    refine ⟨_, rfl, a, cFault K, _, rfl, by decide, T.oex, ha, ?_⟩
    refine ⟨_, rfl, _, rfl, a, cFault K, rfl, T.oex, T.n_Fault_kind, .inl ⟨ha, fun d hd hda => ?_⟩⟩
    exact ⟨_, rfl, _, rfl, a, cFault K, rfl, T.oex, T.n_Fault_at, .inr ⟨d, _, upd_same, (upd_ne hda).trans upd_same, (by show 1 ≤ 900; decide), k d hd hda⟩⟩
/-- the fault of this kind, at this place, is raised; what G tells stands -/
def Faulty (K : PySem.W.Frag) (G : Hp) (kind at_ : Nat) (E : XK) : Prop := ∀ d H', Ex G H' → H' d = some (.xd [("at", nV at_), ("kind", nV kind)]) → E (.ref (cFault K)) (some d) H'
theorem Faulty.up {K : PySem.W.Frag} {G G' : Hp} {k q : Nat} {E : XK} (h : Faulty K G k q E) (e : Ex G G') : Faulty K G' k q E := fun d H' e' hd => h d H' (e.trans e') hd
theorem dropC {α : Type} {l : List α} {t : Nat} {x : α} (h : l[t]? = some x) : l.drop t = x :: l.drop (t + 1) := by
  obtain ⟨hj, e⟩ := List.getElem?_eq_some_iff.mp h
  rw [List.drop_eq_getElem_cons hj, e]
/-- a line: its words from the turn on are what's left -/
structure LineIs (K : PySem.W.Frag) (H : Hp) (a wl : Addr) (ws : List Vbbtaa.Word) (b t : Nat) : Prop where
  obj : ∃ dx, H a = some (.ins (cLine K) dx (FLine (.ref wl) (nV b) (nV t)))
  words : WordsAt H wl ws
  le : t ≤ ws.length
  few : ws.length ≤ 4000
theorem LineIs.ex {K : PySem.W.Frag} {H H' : Hp} {a wl : Addr} {ws : List Vbbtaa.Word} {b t : Nat} (h : LineIs K H a wl ws b t) (e : Ex H H') : LineIs K H' a wl ws b t := by
  obtain ⟨⟨dx, h1⟩, h2, h3, h4⟩ := h
  exact ⟨⟨dx, e _ _ h1⟩, h2.ex e, h3, h4⟩
abbrev restL (ws : List Vbbtaa.Word) (b t : Nat) : Vbbtaa.Rest := ⟨ws.drop t, b⟩
section
variable {K : PySem.W.Frag} {H : Hp} {σ : L2.St} {a wl : Addr} {ws : List Vbbtaa.Word} {b t : Nat} {ts : TE}
theorem LineIs.len (h : LineIs K H a wl ws b t) : ∃ vs : List V, H wl = some (.lst vs) ∧ vs.length = ws.length := h.words.len
end
def sp_Line_init (K : PySem.W.Frag) : Sp := fun vs H Q _ => ∃ (p dx : Addr) (x y : V), vs = [.ref p, x, y] ∧ H p = some (.ins (cLine K) dx []) ∧ Q .non (upd H p (.ins (cLine K) dx (FLine x y (nV 0))))
theorem sc_Line_init : FnScope ["self", "words", "behind"] ["self", "words", "behind"] (defScope s_Line_init) := ⟨rfl, rfl, rfl, by decide +kernel, rfl, by decide +kernel, by decide +kernel⟩
theorem ok_Line_init {P : Program} {w : World} {K : PySem.W.Frag} {mg : Str → Option Value} {base : Heap} (T : Txt w K mg) : OkD P w K mg base CX0 1 (He.ma K (He.ga K "Line") "__init__") ["self", "words", "behind"] (sp_Line_init K) := by
  obtain ⟨fd, F⟩ := T.f_Line_init
  refine ⟨fd, F.ok sc_Line_init (fun vs H Q E h => ?_) (fun cdv A outer s H vs Q E hr h => ?_), F.bindsN fun _ _ _ _ _ _ us hl => match us, hl with | [_, _, _], _ => rfl, F.kp⟩
  · obtain ⟨p, dx, x, y, rfl, hp, k⟩ := h
    rfl
  · refine ⟨_, PSs.nox (pss_cons (ps_fld (pv 0) (pv 1) rfl) (pss_cons (ps_fld (pv 0) (pv 2) rfl) (pss_one (ps_fld (pv 0) pe_int rfl)))), ?_⟩
    obtain ⟨p, dx, x, y, rfl, hp, k⟩ := h
    refine ⟨_, rfl, _, rfl, p, _, dx, _, rfl, hp, T.c_Line, T.n_Line_words, (by show 0 < 1000; decide), ?_⟩
    refine ⟨_, rfl, _, rfl, p, _, dx, _, rfl, upd_same, T.c_Line, T.n_Line_behind, (by show 1 < 1000; decide), ?_⟩
    refine ⟨_, rfl, p, _, dx, _, rfl, upd_same, T.c_Line, T.n_Line_turn, (by show 2 < 1000; decide), ?_⟩
    show Q .non (upd (upd (upd H p _) p _) p (.ins (cLine K) dx (putF "turn" (V.int 0) (putF "behind" y (putF "words" x [])))))
    rw [upd_upd, upd_upd, pLine_words, pLine_behind, pLine_turn]
    exact k
def sp_Line_is_over (K : PySem.W.Frag) : Sp := PureSp fun vs G z => ∃ (a wl : Addr) (ws : List Vbbtaa.Word) (b t : Nat), vs = [.ref a] ∧ LineIs K G a wl ws b t ∧ z = .bl (decide (t = ws.length))
theorem sc_Line_is_over : FnScope ["self"] ["self"] (defScope s_Line_is_over) := ⟨rfl, rfl, rfl, by decide +kernel, rfl, by decide +kernel, by decide +kernel⟩
theorem ok_Line_is_over {P : Program} {w : World} {K : PySem.W.Frag} {mg : Str → Option Value} {base : Heap} (T : Txt w K mg) : OkD P w K mg base CX0 1 (He.ma K (He.ga K "Line") "is_over") ["self"] (sp_Line_is_over K) := by
  obtain ⟨fd, F⟩ := T.f_Line_is_over
  refine ⟨fd, F.ok sc_Line_is_over (fun vs H Q E h => ?_) (fun cdv A outer s H vs Q E hr h => ?_), F.bindsN fun _ _ _ _ _ _ us hl => match us, hl with | [_], _ => rfl, F.kp⟩
  · obtain ⟨z, G, eG, ⟨a, wl, ws, b, t, rfl, hL, rfl⟩, k⟩ := h
    rfl
  · refine ⟨_, PSs.nox (pss_one (ps_ret (pe_cmpR op_eq (pe_fld (pv 0) rfl) (pe_callB call_len_seq (by rfl) T.b_len PySem.boot_len (pa_cons (pe_fld (pv 0) rfl) pa_nil)) (nomark _)))), ?_⟩
    obtain ⟨z, G, eG, ⟨a, wl, ws, b, t, rfl, hL, rfl⟩, k⟩ := h
    obtain ⟨⟨dx, ho⟩, hw, hle, hf⟩ := hL.ex eG
    obtain ⟨vs, h1, h2⟩ := hw.len
    refine s_ret (ev_eqI (ev_fld (ev_var rfl) ho T.c_Line T.n_Line_turn lLine_turn) (ev_is (ev_len (ev_fld (ev_var rfl) ho T.c_Line T.n_Line_words lLine_words) (sq_of h1)) (by rw [h2]))) fun H1 e1 => bl_eq (k _ e1) ?_
    exact decide_eq_decide.mpr (by omega)
def sp_Line_place_here (K : PySem.W.Frag) : Sp := PureSp fun vs G z => ∃ (a wl : Addr) (ws : List Vbbtaa.Word) (b t : Nat), vs = [.ref a] ∧ LineIs K G a wl ws b t ∧ z = nV (Vbbtaa.placeOf (restL ws b t))
theorem sc_Line_place_here : FnScope ["self"] ["self"] (defScope s_Line_place_here) := ⟨rfl, rfl, rfl, by decide +kernel, rfl, by decide +kernel, by decide +kernel⟩
theorem ok_Line_place_here {P : Program} {w : World} {K : PySem.W.Frag} {mg : Str → Option Value} {base : Heap} (T : Txt w K mg) : OkD P w K mg base CX0 2 (He.ma K (He.ga K "Line") "place_here") ["self"] (sp_Line_place_here K) := by
  obtain ⟨fd_Line_is_over, G_Line_is_over, B_Line_is_over, K_Line_is_over⟩ := ok_Line_is_over (P := P) (w := w) (base := base) T
  obtain ⟨fd, F⟩ := T.f_Line_place_here
  refine ⟨fd, F.ok sc_Line_place_here (fun vs H Q E h => ?_) (fun cdv A outer s H vs Q E hr h => ?_), F.bindsN fun _ _ _ _ _ _ us hl => match us, hl with | [_], _ => rfl, F.kp⟩
  · obtain ⟨z, G, eG, ⟨a, wl, ws, b, t, rfl, hL, rfl⟩, k⟩ := h
    rfl
  · refine ⟨_, PSs.nox (pss_cons (ps_if (pt_val (pe_meth0 (pv 0) T.c_Line T.m_Line_is_over G_Line_is_over (hr.mono (by decide)) B_Line_is_over .nil pass0 )) (pss_one (ps_ret (pe_fld (pv 0) rfl))) pss_nil) (pss_one (ps_ret (pe_ix ix_tup (pe_ix ix_list (pe_fld (pv 0) rfl) (pe_fld (pv 0) rfl) (fun _ _ => rfl)) pe_int (fun _ _ => rfl))))), ?_⟩
    obtain ⟨z, G, eG, ⟨a, wl, ws, b, t, rfl, hL, rfl⟩, k⟩ := h
    have hL' := hL.ex eG
    obtain ⟨⟨dx, ho⟩, hw, hle, hf⟩ := id hL'
    refine q_when (b := decide (t = ws.length)) (et_B (ev_meth (ev_var rfl) ho lLine_is_over ea_nil (spv_pure ⟨a, wl, ws, b, t, rfl, hL', rfl⟩))) (fun hb H1 e1 => ?_) (fun hb H1 e1 => ?_)
    · refine s_ret (ev_fld (ev_var rfl) (e1 _ _ ho) T.c_Line T.n_Line_behind lLine_behind) fun H2 e2 => int_eq (k _ (e1.trans e2)) ?_
      rw [of_decide_eq_true hb]
      unfold Vbbtaa.placeOf
      show (b : Int) = ((match ws.drop ws.length with
        | [] => b
        | w :: _ => w.at_ : Nat) : Int)
      rw [List.drop_length]
    · have ne := of_decide_eq_false hb
      obtain ⟨x, hx⟩ : ∃ x, ws[t]? = some x := ⟨_, List.getElem?_eq_getElem (by omega)⟩
      obtain ⟨vs, ta, h1, h2, na, h3, h4⟩ := hw.at_ hx
      refine s_ret (ev_ixT (i := 1) (ev_ixL (ev_fld (ev_var rfl) (e1 _ _ ho) T.c_Line T.n_Line_words lLine_words) (ev_fld (ev_var rfl) (e1 _ _ ho) T.c_Line T.n_Line_turn lLine_turn) (e1 _ _ h1) h2) ev_c (e1 _ _ h3) rfl) fun H2 e2 => int_eq (k _ (e1.trans e2)) ?_
      unfold Vbbtaa.placeOf
      show (x.at_ : Int) = ((match ws.drop t with
        | [] => b
        | w :: _ => w.at_ : Nat) : Int)
      rw [dropC hx]
/-- the word at the turn; none: no letters -/
def wordL (ws : List Vbbtaa.Word) (t : Nat) : List Nat := (ws[t]?.map (·.text)).getD []
def sp_Line_word_here (K : PySem.W.Frag) : Sp := fun vs H Q _ => ∃ (Gw : Hp) (a wl : Addr) (ws : List Vbbtaa.Word) (b t : Nat), vs = [.ref a] ∧ Ex Gw H ∧ WordsAt Gw wl ws ∧ LineIs K H a wl ws b t ∧ ∀ p H', Ex H H' → NameAt H' p (wordL ws t) → (wordL ws t ≠ [] → NameAt Gw p (wordL ws t)) → Q (.ref p) H'
theorem sc_Line_word_here : FnScope ["self"] ["self"] (defScope s_Line_word_here) := ⟨rfl, rfl, rfl, by decide +kernel, rfl, by decide +kernel, by decide +kernel⟩
theorem ok_Line_word_here {P : Program} {w : World} {K : PySem.W.Frag} {mg : Str → Option Value} {base : Heap} (T : Txt w K mg) : OkD P w K mg base CX0 2 (He.ma K (He.ga K "Line") "word_here") ["self"] (sp_Line_word_here K) := by
  obtain ⟨fd_Line_is_over, G_Line_is_over, B_Line_is_over, K_Line_is_over⟩ := ok_Line_is_over (P := P) (w := w) (base := base) T
  obtain ⟨fd, F⟩ := T.f_Line_word_here
  refine ⟨fd, F.ok sc_Line_word_here (fun vs H Q E h => ?_) (fun cdv A outer s H vs Q E hr h => ?_), F.bindsN fun _ _ _ _ _ _ us hl => match us, hl with | [_], _ => rfl, F.kp⟩
  · obtain ⟨Gw, a, wl, ws, b, t, rfl, eG, hw, hL, k⟩ := h
    rfl
  · refine ⟨_, PSs.nox (pss_cons (ps_if (pt_val (pe_meth0 (pv 0) T.c_Line T.m_Line_is_over G_Line_is_over (hr.mono (by decide)) B_Line_is_over .nil pass0 )) (pss_one (ps_ret (pe_lst pa_nil))) pss_nil) (pss_one (ps_ret (pe_ix ix_tup (pe_ix ix_list (pe_fld (pv 0) rfl) (pe_fld (pv 0) rfl) (fun _ _ => rfl)) pe_int (fun _ _ => rfl))))), ?_⟩
    obtain ⟨Gw, a, wl, ws, b, t, rfl, eG, hw, hL, k⟩ := h
    obtain ⟨⟨dx, ho⟩, _, hle, hf⟩ := id hL
    refine q_when (b := decide (t = ws.length)) (et_B (ev_meth (ev_var rfl) ho lLine_is_over ea_nil (spv_pure ⟨a, wl, ws, b, t, rfl, hL, rfl⟩))) (fun hb H1 e1 => ?_) (fun hb H1 e1 => ?_)
    · have en : wordL ws t = [] := by
        unfold wordL
        rw [of_decide_eq_true hb, List.getElem?_eq_none (Nat.le_refl _)]
        rfl
      refine s_retL (el_lst ea_nil (by show 0 ≤ 100000; omega)) fun p H2 hp e2 h2 => k p H2 (e1.trans e2) ?_ fun z => absurd en z
      rw [en]
      exact h2
    · have ne := of_decide_eq_false hb
      obtain ⟨x, hx⟩ : ∃ x, ws[t]? = some x := ⟨_, List.getElem?_eq_getElem (by omega)⟩
      obtain ⟨vs, ta, h1, h2, na, h3, h4⟩ := hw.at_ hx
      have ex : wordL ws t = x.text := by
        unfold wordL
        rw [hx]
        rfl
      have g1 := eG.trans e1
      refine s_ret (ev_ixT (i := 0) (ev_ixL (ev_fld (ev_var rfl) (e1 _ _ ho) T.c_Line T.n_Line_words lLine_words) (ev_fld (ev_var rfl) (e1 _ _ ho) T.c_Line T.n_Line_turn lLine_turn) (g1 _ _ h1) h2) ev_c (g1 _ _ h3) rfl) fun H2 e2 => k na H2 (e1.trans e2) ?_ fun _ => ?_
      · rw [ex]
        exact h4.ex (g1.trans e2)
      · rw [ex]
        exact h4
def sp_Line_refuse (K : PySem.W.Frag) : Sp := fun vs H Q E => ∃ (G : Hp) (a wl : Addr) (ws : List Vbbtaa.Word) (b t kd : Nat), vs = [.ref a, .int (kd : Int)] ∧ Ex G H ∧ LineIs K H a wl ws b t ∧ Faulty K G kd (Vbbtaa.placeOf (restL ws b t)) E
theorem sc_Line_refuse : FnScope ["self", "kind"] ["self", "kind"] (defScope s_Line_refuse) := ⟨rfl, rfl, rfl, by decide +kernel, rfl, by decide +kernel, by decide +kernel⟩
theorem ok_Line_refuse {P : Program} {w : World} {K : PySem.W.Frag} {mg : Str → Option Value} {base : Heap} (T : Txt w K mg) : OkD P w K mg base (L2.CX P w) 3 (He.ma K (He.ga K "Line") "refuse") ["self", "kind"] (sp_Line_refuse K) := by
  obtain ⟨fd_Fault_init, G_Fault_init, B_Fault_init, K_Fault_init⟩ := ok_Fault_init (P := P) (w := w) (base := base) T
  obtain ⟨fd_Line_place_here, G_Line_place_here, B_Line_place_here, K_Line_place_here⟩ := ok_Line_place_here (P := P) (w := w) (base := base) T
  obtain ⟨fd, F⟩ := T.f_Line_refuse
  refine ⟨fd, F.ok sc_Line_refuse (fun vs H Q E h => ?_) (fun cdv A outer s H vs Q E hr h => ?_), F.bindsN fun _ _ _ _ _ _ us hl => match us, hl with | [_, _], _ => rfl, F.kp⟩
  · obtain ⟨G, a, wl, ws, b, t, kd, rfl, eG, hL, k⟩ := h
    rfl
  · refine ⟨_, (pss_one (ps_raise rfl (takes_of (E := E) rfl rfl rfl rfl) (pmk_oex T.oex T.flt_i T.flt_t G_Fault_init (hr.mono (by decide)) B_Fault_init .nil pass0 rfl T.g_Fault (pa_cons (pv 1) (pa_cons (pe_meth0 (pv 0) T.c_Line T.m_Line_place_here G_Line_place_here (hr.mono (by decide)) B_Line_place_here .nil pass0 ) pa_nil))))), ?_⟩
    obtain ⟨G, a, wl, ws, b, t, kd, rfl, eG, hL, k⟩ := h
    obtain ⟨⟨dx, ho⟩, hw, hle, hf⟩ := id hL
    refine (ea_cons (ev_var rfl) (ea_cons (ev_meth (ev_var rfl) ho lLine_place_here ea_nil (spv_pure ⟨a, wl, ws, b, t, rfl, hL, rfl⟩)) ea_nil)) H (Ex.refl H) _ fun H1 e1 => ⟨by show 2 ≤ 1000; decide, fun x hx => ⟨x, nV kd, nV (Vbbtaa.placeOf (restL ws b t)), rfl, upd_same, fun d hd hdx => ⟨rfl, d, _, (upd_ne (Ne.symm hdx)).trans upd_same, upd_same, (upd_ne hdx).symm.trans hd, k d _ (fun z o hz => ?_) upd_same⟩⟩⟩
    have h1 := e1 _ _ (eG _ _ hz)
    have nx : z ≠ x := ne_of_none h1 hx
    have nd : z ≠ d := ne_of_none h1 ((upd_ne hdx).symm.trans hd)
    rw [upd_ne nd, del_ne nx, upd_ne nd, upd_ne nx, upd_ne nd, upd_ne nx]
    exact h1
def sp_Line_take (K : PySem.W.Frag) : Sp := fun vs H Q _ => ∃ (a dx : Addr) (x y : V) (t : Nat), vs = [.ref a] ∧ H a = some (.ins (cLine K) dx (FLine x y (nV t))) ∧ ∀ H', ExBut a H H' → H' a = some (.ins (cLine K) dx (FLine x y (nV (t + 1)))) → Q .non H'
theorem sc_Line_take : FnScope ["self"] ["self"] (defScope s_Line_take) := ⟨rfl, rfl, rfl, by decide +kernel, rfl, by decide +kernel, by decide +kernel⟩
theorem ok_Line_take {P : Program} {w : World} {K : PySem.W.Frag} {mg : Str → Option Value} {base : Heap} (T : Txt w K mg) : OkD P w K mg base CX0 1 (He.ma K (He.ga K "Line") "take") ["self"] (sp_Line_take K) := by
  obtain ⟨fd, F⟩ := T.f_Line_take
  refine ⟨fd, F.ok sc_Line_take (fun vs H Q E h => ?_) (fun cdv A outer s H vs Q E hr h => ?_), F.bindsN fun _ _ _ _ _ _ us hl => match us, hl with | [_], _ => rfl, F.kp⟩
  · obtain ⟨a, dx, x, y, t, rfl, ho, k⟩ := h
    rfl
  · refine ⟨_, PSs.nox (pss_one (ps_fld (pv 0) (pe_op op_add (pe_fld (pv 0) rfl) pe_int) rfl)), ?_⟩
    obtain ⟨a, dx, x, y, t, rfl, ho, k⟩ := h
    refine s_fldV (v := nV (t + 1)) (ev_is (ev_op (ev_fld (ev_var rfl) ho T.c_Line T.n_Line_turn lLine_turn) ev_c rv_I0) (congrArg V.int (by omega))) (ev_var rfl) ho T.c_Line T.n_Line_turn (by show 3 < 1000; decide) uLine_turn fun H1 e1 => k _ (fun b o hb ne => (upd_ne ne).trans (e1 _ _ hb)) upd_same
end SJ
/-! Texts: what is read of a line. -/
namespace SJ
open PySem PySem.Spec PyProof.Rows L2 Evl LamX
theorem namedAt_ex {K : PySem.W.Frag} {H H' : Hp} {a : Addr} {t : List Nat} (h : NamedAt K H a t) (e : Ex H H') : NamedAt K H' a t := by
  obtain ⟨C, dx, fs, na, h1, h2, h3, h4, h5⟩ := h
  exact ⟨C, dx, fs, na, e _ _ h1, h2, h3, h4, h5.ex e⟩
theorem namesAt_ex {K : PySem.W.Frag} {H H' : Hp} {l : Addr} {ts : List (List Nat)} (h : ThingsAt (NamedAt K) H l ts) (e : Ex H H') : ThingsAt (NamedAt K) H' l ts := ThingsAt.ex (fun _ _ z => namedAt_ex z e) h e
/-- a line that is read: it alone changes -/
structure LineSt (K : PySem.W.Frag) (G H : Hp) (a wl : Addr) (ws : List Vbbtaa.Word) (b t : Nat) : Prop where
  eG : Ex G H
  fresh : G a = none
  obj : ∃ dx, H a = some (.ins (cLine K) dx (FLine (.ref wl) (nV b) (nV t)))
  words : WordsAt G wl ws
  le : t ≤ ws.length
  few : ws.length ≤ 4000
section
variable {K : PySem.W.Frag} {G H H' : Hp} {a wl : Addr} {ws : List Vbbtaa.Word} {b t : Nat}
theorem LineSt.ex (h : LineSt K G H a wl ws b t) (e : Ex H H') : LineSt K G H' a wl ws b t := by
  obtain ⟨h1, h2, ⟨dx, h3⟩, h4, h5, h6⟩ := h
  exact ⟨h1.trans e, h2, ⟨dx, e _ _ h3⟩, h4, h5, h6⟩
theorem LineSt.is (h : LineSt K G H a wl ws b t) : LineIs K H a wl ws b t := ⟨h.obj, h.words.ex h.eG, h.le, h.few⟩
theorem LineSt.taken (h : LineSt K G H a wl ws b t) (lt : t < ws.length) {dx : Addr} (e : ExBut a H H') (ho : H' a = some (.ins (cLine K) dx (FLine (.ref wl) (nV b) (nV (t + 1))))) : LineSt K G H' a wl ws b (t + 1) :=
  ⟨fun c o hc => e _ _ (h.eG _ _ hc) (fun z => by
    rw [z, h.fresh] at hc
    cases hc), h.fresh, ⟨dx, ho⟩, h.words, lt, h.few⟩
/-- the place of what's next -/
abbrev placeL (ws : List Vbbtaa.Word) (b t : Nat) : Nat := Vbbtaa.placeOf (restL ws b t)
theorem wordL_lt (h : wordL ws t ≠ []) : t < ws.length := by
  unfold wordL at h
  cases e : ws[t]? with
  | none => rw [e] at h; exact absurd rfl h
  | some x => exact (List.getElem?_eq_some_iff.mp e).1
theorem wordL_len (hw : WordsAt G wl ws) (hs : ∀ w ∈ ws, w.text.length ≤ 4000) : (wordL ws t).length ≤ 4000 := by
  unfold wordL
  cases e : ws[t]? with
  | none => exact Nat.zero_le _
  | some x => exact hs x (List.mem_of_getElem? e)
end
section
variable {K : PySem.W.Frag} {G H : Hp} {σ : L2.St} {a wl : Addr} {ws : List Vbbtaa.Word} {b t : Nat} {ts tk : TE} {E : XK} {Q : VK} {D : Ends} {tz : TS} {kd : Nat}
/-- self.refuse(kind) -/
theorem x_refuse (hL : LineSt K G H a wl ws b t) (h0 : Ev ts σ H (.ref a)) (h1 : Ev tk σ H (.int (kd : Int))) (hE : Faulty K G kd (placeL ws b t) E) : tMeth (cLine K) "refuse" (sp_Line_refuse K) [] E ts (tCons tk tNil) σ H Q := by
  obtain ⟨dx, ho⟩ := hL.obj
  exact x_meth h0 ho lLine_refuse (ea_cons h1 ea_nil) fun H1 e1 => ⟨G, a, wl, ws, b, t, kd, rfl, hL.eG.trans e1, (hL.ex e1).is, hE⟩
/-- self.take() -/
theorem x_take (hL : LineSt K G H a wl ws b t) (lt : t < ws.length) (h0 : Ev ts σ H (.ref a)) (k : ∀ H', ExBut a H H' → LineSt K G H' a wl ws b (t + 1) → Q .non H') {E : XK} : tMeth (cLine K) "take" (sp_Line_take K) [] E ts tNil σ H Q := by
  obtain ⟨dx, ho⟩ := hL.obj
  refine x_meth h0 ho lLine_take ea_nil fun H1 e1 => ⟨a, dx, _, _, t, rfl, e1 _ _ ho, fun H2 e2 h2 => ?_⟩
  have eb : ExBut a H H2 := fun c o hc ne => e2 _ _ (e1 _ _ hc) ne
  exact k H2 eb (hL.taken lt eb h2)
/-- word = self.word_here() -/
theorem q_word {i : Nat} {Gw : Hp} (hL : LineSt K G H a wl ws b t) (eW : Ex Gw G) (hW : WordsAt Gw wl ws) (h0 : Ev ts σ H (.ref a)) (k : ∀ p H', Ex H H' → NameAt H' p (wordL ws t) → (wordL ws t ≠ [] → NameAt Gw p (wordL ws t)) → tz D (σ.set i (some (.ref p))) H') {E : XK} : tSeq (tAsg (tMeth (cLine K) "word_here" (sp_Line_word_here K) [] E ts tNil) (gName i)) tz D σ H := by
  obtain ⟨dx, ho⟩ := hL.obj
  exact x_meth h0 ho lLine_word_here ea_nil fun H1 e1 => ⟨Gw, a, wl, ws, b, t, rfl, eW.trans (hL.eG.trans e1), hW, (hL.ex e1).is, fun p H2 e2 hp hg => k p H2 (e1.trans e2) hp hg⟩
theorem ev_over (hL : LineSt K G H a wl ws b t) (h0 : Ev ts σ H (.ref a)) {E : XK} : Ev (tMeth (cLine K) "is_over" (sp_Line_is_over K) [] E ts tNil) σ H (.bl (decide (t = ws.length))) := by
  obtain ⟨dx, ho⟩ := hL.obj
  exact ev_meth h0 ho lLine_is_over ea_nil (spv_pure ⟨a, wl, ws, b, t, rfl, hL.is, rfl⟩)
end
theorem name_but {a p : Addr} {H H' : Hp} {t : List Nat} {C dx : Addr} {fs : List (Str × V)} (h : NameAt H p t) (ha : H a = some (.ins C dx fs)) (e : ExBut a H H') : NameAt H' p t := e _ _ h fun z => by
  have h1 := h
  unfold NameAt at h1
  rw [z, ha] at h1
  cases h1
def sp_Line_read_name (K : PySem.W.Frag) : Sp := fun vs H Q E => ∃ (G Gw : Hp) (a wl l : Addr) (ws : List Vbbtaa.Word) (b t : Nat) (ts : List (List Nat)), vs = [.ref a, .ref l] ∧ LineSt K G H a wl ws b t ∧ Ex Gw G ∧ WordsAt Gw wl ws ∧ (∀ w ∈ ws, w.text.length ≤ 4000) ∧ ThingsAt (NamedAt K) H l ts ∧
  (Vbbtaa.isName (wordL ws t) = false → Faulty K G 1 (placeL ws b t) E) ∧ (Vbbtaa.isName (wordL ws t) = true → (ts.any fun x => x == wordL ws t) = true → Faulty K G 4 (placeL ws b t) E) ∧
  (Vbbtaa.isName (wordL ws t) = true → (ts.any fun x => x == wordL ws t) = false → ∀ p H', LineSt K G H' a wl ws b (t + 1) → NameAt Gw p (wordL ws t) → Q (.ref p) H')
theorem idxI_any {α : Type} (f : α → Bool) (l : List α) : decide (idxI f l ≥ 0) = l.any f := by
  unfold idxI
  cases e : l.findIdx? f with
  | none =>
    have h := List.findIdx?_eq_none_iff.mp e
    rw [decide_eq_false (by decide)]
    exact (List.any_eq_false.mpr fun x hx z => by rw [h x hx] at z; cases z).symm
  | some i =>
    obtain ⟨h1, h2, _⟩ := List.findIdx?_eq_some_iff_getElem.mp e
    rw [decide_eq_true (by show (i : Int) ≥ 0; omega)]
    exact (List.any_eq_true.mpr ⟨_, List.getElem_mem h1, h2⟩).symm
theorem sc_Line_read_name : FnScope ["self", "things", "word"] ["self", "things"] (defScope s_Line_read_name) := ⟨rfl, rfl, rfl, by decide +kernel, rfl, by decide +kernel, by decide +kernel⟩
theorem ok_Line_read_name {P : Program} {w : World} {K : PySem.W.Frag} {mg : Str → Option Value} {base : Heap} (T : Txt w K mg) : OkD P w K mg base (L2.CX P w) 4 (He.ma K (He.ga K "Line") "read_name") ["self", "things"] (sp_Line_read_name K) := by
  obtain ⟨fd_Line_take, G_Line_take, B_Line_take, K_Line_take⟩ := ok_Line_take (P := P) (w := w) (base := base) T
  obtain ⟨fd_number_of, G_number_of, B_number_of, K_number_of⟩ := ok_number_of (P := P) (w := w) (base := base) T
  obtain ⟨fd_Line_refuse, G_Line_refuse, B_Line_refuse, K_Line_refuse⟩ := ok_Line_refuse (P := P) (w := w) (base := base) T
  obtain ⟨fd_is_name, G_is_name, B_is_name, K_is_name⟩ := ok_is_name (P := P) (w := w) (base := base) T
  obtain ⟨fd_Line_word_here, G_Line_word_here, B_Line_word_here, K_Line_word_here⟩ := ok_Line_word_here (P := P) (w := w) (base := base) T
  obtain ⟨fd, F⟩ := T.f_Line_read_name
  refine ⟨fd, F.ok sc_Line_read_name (fun vs H Q E h => ?_) (fun cdv A outer s H vs Q E hr h => ?_), F.bindsN fun _ _ _ _ _ _ us hl => match us, hl with | [_, _], _ => rfl, F.kp⟩
  · obtain ⟨G, Gw, a, wl, l, ws, b, t, ts, rfl, hL, eW, hW, hsz, hT, k1, k4, k⟩ := h
    rfl
  · refine ⟨_, (pss_cons (ps_set (i := 2) sc_Line_read_name.nd rfl (Or.inl rfl) (pe_meth0 (pv 0) T.c_Line T.m_Line_word_here G_Line_word_here (hr.mono (by decide)) B_Line_word_here .nil pass0 )) (pss_cons (ps_if (pt_not (pt_val (pe_call G_is_name (hr.mono (by decide)) rfl T.g_is_name K_is_name B_is_name .nil pass0 (pa_cons (pv 2) pa_nil)))) (pss_one (ps_expr (pe_meth (pv 0) T.c_Line T.m_Line_refuse G_Line_refuse (hr.mono (by decide)) B_Line_refuse .nil (passes_call (E := E) (takes_of rfl rfl rfl rfl) fun _ _ _ _ h => h) (pa_cons (pe_gint T.i_WRONG_WORD) pa_nil)))) pss_nil) (pss_cons (ps_if (pt_cmpR op_ge (pe_call G_number_of (hr.mono (by decide)) rfl T.g_number_of K_number_of B_number_of .nil pass0 (pa_cons (pv 1) (pa_cons (pv 2) pa_nil))) pe_int (nomark _)) (pss_one (ps_expr (pe_meth (pv 0) T.c_Line T.m_Line_refuse G_Line_refuse (hr.mono (by decide)) B_Line_refuse .nil (passes_call (E := E) (takes_of rfl rfl rfl rfl) fun _ _ _ _ h => h) (pa_cons (pe_gint T.i_TOLD_BEFORE) pa_nil)))) pss_nil) (pss_cons (ps_expr (pe_meth0 (pv 0) T.c_Line T.m_Line_take G_Line_take (hr.mono (by decide)) B_Line_take .nil pass0 )) (pss_one (ps_ret (pv 2))))))), ?_⟩
    obtain ⟨G, Gw, a, wl, l, ws, b, t, ts, rfl, hL, eW, hW, hsz, hT, k1, k4, k⟩ := h
    refine q_word hL eW hW (ev_var rfl) fun p H1 e1 hp hpw => ?_
    have hL1 := hL.ex e1
    refine q_when (b := !Vbbtaa.isName (wordL ws t)) (et_not (et_B (ev_call (ea_cons (ev_var rfl) ea_nil) (spv_pure ⟨p, _, rfl, hp, Nat.le_trans (wordL_len hL.words hsz) (by decide), rfl⟩)))) (fun hb H2 e2 => ?_) (fun hb H2 e2 => ?_)
    · exact x_refuse (hL1.ex e2) (ev_var rfl) ev_c (k1 (by simpa using hb))
    · have isn : Vbbtaa.isName (wordL ws t) = true := by simpa using hb
      have lt : t < ws.length := wordL_lt (fun z => by rw [z] at isn; cases isn)
      have hL2 := hL1.ex e2
      refine q_when (b := ts.any fun x => x == wordL ws t) (et_is (et_test (ev_op (ev_call (ea_cons (ev_var rfl) (ea_cons (ev_var rfl) ea_nil)) (spv_pure ⟨l, p, ts, _, rfl, namesAt_ex hT (e1.trans e2), hp.ex e2, rfl⟩)) ev_c rv_I0)) (idxI_any _ _)) (fun hb2 H3 e3 => ?_) (fun hb2 H3 e3 => ?_)
      · exact x_refuse (hL2.ex e3) (ev_var rfl) ev_c (k4 isn hb2)
      · have hL3 := hL2.ex e3
        obtain ⟨dx, ho⟩ := hL3.obj
        refine x_take hL3 lt (ev_var rfl) fun H4 e4 hL4 => ?_
        exact s_ret (ev_var rfl) fun H5 e5 => k isn hb2 p H5 (hL4.ex e5) (hpw fun z => by rw [z] at isn; cases isn)
def sp_Line_read_place (K : PySem.W.Frag) : Sp := fun vs H Q E => ∃ (G : Hp) (a wl l : Addr) (ws : List Vbbtaa.Word) (b t : Nat) (ts : List (List Nat)) (u : Int), vs = [.ref a, .ref l, .int u] ∧ LineSt K G H a wl ws b t ∧ (∀ w ∈ ws, w.text.length ≤ 4000) ∧ ThingsAt (NamedAt K) H l ts ∧
  (Vbbtaa.isName (wordL ws t) = false → Faulty K G 1 (placeL ws b t) E) ∧ (Vbbtaa.isName (wordL ws t) = true → (ts.findIdx? fun x => x == wordL ws t) = none → Faulty K G 5 (placeL ws b t) E) ∧
  (∀ i : Nat, Vbbtaa.isName (wordL ws t) = true → (ts.findIdx? fun x => x == wordL ws t) = some i → (i : Int) = u → Faulty K G 6 (placeL ws b t) E) ∧
  (∀ i : Nat, Vbbtaa.isName (wordL ws t) = true → (ts.findIdx? fun x => x == wordL ws t) = some i → (i : Int) ≠ u → ∀ H', LineSt K G H' a wl ws b (t + 1) → Q (nV i) H')
theorem sc_Line_read_place : FnScope ["self", "places", "unlike", "word", "number"] ["self", "places", "unlike"] (defScope s_Line_read_place) := ⟨rfl, rfl, rfl, by decide +kernel, rfl, by decide +kernel, by decide +kernel⟩
theorem ok_Line_read_place {P : Program} {w : World} {K : PySem.W.Frag} {mg : Str → Option Value} {base : Heap} (T : Txt w K mg) : OkD P w K mg base (L2.CX P w) 4 (He.ma K (He.ga K "Line") "read_place") ["self", "places", "unlike"] (sp_Line_read_place K) := by
  obtain ⟨fd_Line_take, G_Line_take, B_Line_take, K_Line_take⟩ := ok_Line_take (P := P) (w := w) (base := base) T
  obtain ⟨fd_Line_refuse, G_Line_refuse, B_Line_refuse, K_Line_refuse⟩ := ok_Line_refuse (P := P) (w := w) (base := base) T
  obtain ⟨fd_number_of, G_number_of, B_number_of, K_number_of⟩ := ok_number_of (P := P) (w := w) (base := base) T
  obtain ⟨fd_is_name, G_is_name, B_is_name, K_is_name⟩ := ok_is_name (P := P) (w := w) (base := base) T
  obtain ⟨fd_Line_word_here, G_Line_word_here, B_Line_word_here, K_Line_word_here⟩ := ok_Line_word_here (P := P) (w := w) (base := base) T
  obtain ⟨fd, F⟩ := T.f_Line_read_place
  refine ⟨fd, F.ok sc_Line_read_place (fun vs H Q E h => ?_) (fun cdv A outer s H vs Q E hr h => ?_), F.bindsN fun _ _ _ _ _ _ us hl => match us, hl with | [_, _, _], _ => rfl, F.kp⟩
  · obtain ⟨G, a, wl, l, ws, b, t, ts, u, rfl, hL, hsz, hT, k1, k5, k6, k⟩ := h
    rfl
  · refine ⟨_, (pss_cons (ps_set (i := 3) sc_Line_read_place.nd rfl (Or.inl rfl) (pe_meth0 (pv 0) T.c_Line T.m_Line_word_here G_Line_word_here (hr.mono (by decide)) B_Line_word_here .nil pass0 )) (pss_cons (ps_if (pt_not (pt_val (pe_call G_is_name (hr.mono (by decide)) rfl T.g_is_name K_is_name B_is_name .nil pass0 (pa_cons (pv 3) pa_nil)))) (pss_one (ps_expr (pe_meth (pv 0) T.c_Line T.m_Line_refuse G_Line_refuse (hr.mono (by decide)) B_Line_refuse .nil (passes_call (E := E) (takes_of rfl rfl rfl rfl) fun _ _ _ _ h => h) (pa_cons (pe_gint T.i_WRONG_WORD) pa_nil)))) pss_nil) (pss_cons (ps_set (i := 4) sc_Line_read_place.nd rfl (Or.inl rfl) (pe_call G_number_of (hr.mono (by decide)) rfl T.g_number_of K_number_of B_number_of .nil pass0 (pa_cons (pv 1) (pa_cons (pv 3) pa_nil)))) (pss_cons (ps_if (pt_cmpR op_lt (pv 4) pe_int (nomark _)) (pss_one (ps_expr (pe_meth (pv 0) T.c_Line T.m_Line_refuse G_Line_refuse (hr.mono (by decide)) B_Line_refuse .nil (passes_call (E := E) (takes_of rfl rfl rfl rfl) fun _ _ _ _ h => h) (pa_cons (pe_gint T.i_NO_SUCH_PLACE) pa_nil)))) pss_nil) (pss_cons (ps_if (pt_cmpR op_eq (pv 4) (pv 2) (nomark _)) (pss_one (ps_expr (pe_meth (pv 0) T.c_Line T.m_Line_refuse G_Line_refuse (hr.mono (by decide)) B_Line_refuse .nil (passes_call (E := E) (takes_of rfl rfl rfl rfl) fun _ _ _ _ h => h) (pa_cons (pe_gint T.i_SAME_PLACE) pa_nil)))) pss_nil) (pss_cons (ps_expr (pe_meth0 (pv 0) T.c_Line T.m_Line_take G_Line_take (hr.mono (by decide)) B_Line_take .nil pass0 )) (pss_one (ps_ret (pv 4))))))))), ?_⟩
    obtain ⟨G, a, wl, l, ws, b, t, ts, u, rfl, hL, hsz, hT, k1, k5, k6, k⟩ := h
    refine q_word hL (Ex.refl _) hL.words (ev_var rfl) fun p H1 e1 hp _ => ?_
    have hL1 := hL.ex e1
    refine q_when (b := !Vbbtaa.isName (wordL ws t)) (et_not (et_B (ev_call (ea_cons (ev_var rfl) ea_nil) (spv_pure ⟨p, _, rfl, hp, Nat.le_trans (wordL_len hL.words hsz) (by decide), rfl⟩)))) (fun hb H2 e2 => ?_) (fun hb H2 e2 => ?_)
    · exact x_refuse (hL1.ex e2) (ev_var rfl) ev_c (k1 (by simpa using hb))
    · have isn : Vbbtaa.isName (wordL ws t) = true := by simpa using hb
      have lt : t < ws.length := wordL_lt (fun z => by rw [z] at isn; cases isn)
      have hL2 := hL1.ex e2
      refine q_asg (ev_call (ea_cons (ev_var rfl) (ea_cons (ev_var rfl) ea_nil)) (spv_pure ⟨l, p, ts, _, rfl, namesAt_ex hT (e1.trans e2), hp.ex e2, rfl⟩)) fun H3 e3 => ?_
      have hL3 := hL2.ex e3
      cases q : ts.findIdx? fun x => x == wordL ws t with
      | none =>
        have e : idxI (fun x => x == wordL ws t) ts = -1 := by
          unfold idxI
          rw [q]
        rw [e]
        refine q_when (b := true) (et_is (et_test (ev_op (ev_var rfl) ev_c rv_I0)) rfl) (fun _ H4 e4 => ?_) (fun z => (by cases z))
        exact x_refuse (hL3.ex e4) (ev_var rfl) ev_c (k5 isn q)
      | some i =>
        rw [idxI_some q]
        refine q_when (b := false) (et_is (et_test (ev_op (ev_var rfl) ev_c rv_I0)) (decide_eq_false (by omega))) (fun z => (by cases z)) (fun _ H4 e4 => ?_)
        refine q_when (b := decide ((i : Int) = u)) (et_test (ev_eqI (ev_var rfl) (ev_var rfl))) (fun hb2 H5 e5 => ?_) (fun hb2 H5 e5 => ?_)
        · exact x_refuse (hL3.ex (e4.trans e5)) (ev_var rfl) ev_c (k6 i isn q (of_decide_eq_true hb2))
        · refine x_take (hL3.ex (e4.trans e5)) lt (ev_var rfl) fun H6 e6 hL6 => ?_
          exact s_ret (ev_var rfl) fun H7 e7 => k i isn q (of_decide_eq_false hb2) H7 (hL6.ex e7)
theorem natOf_some {w : List Nat} {v : Nat} (h : Vbbtaa.natOf 6 w = some v) : w ≠ [] ∧ w.length ≤ 6 ∧ w.all Vbbtaa.isDigit = true ∧ v = Vbbtaa.valueOf w := by
  cases w with
  | nil => cases h
  | cons c r =>
    cases e : (decide ((c :: r).length < 1) || (decide (6 < (c :: r).length) || !(c :: r).all Vbbtaa.isDigit)) with
    | true =>
      rw [natOf_no e] at h
      cases h
    | false =>
      rw [natOf_yes e] at h
      rw [Bool.or_eq_false_iff, Bool.or_eq_false_iff, decide_eq_false_iff_not, decide_eq_false_iff_not, Bool.not_eq_false'] at e
      obtain ⟨h1, h2, h3⟩ := e
      refine ⟨by simp, by omega, h3, ?_⟩
      split at h
      · cases h
      · exact (Option.some.inj h).symm
def sp_Line_number_here (K : PySem.W.Frag) : Sp := fun vs H Q E => ∃ (G : Hp) (a wl : Addr) (ws : List Vbbtaa.Word) (b t lo hi : Nat), vs = [.ref a, .int (lo : Int), .int (hi : Int)] ∧ LineSt K G H a wl ws b t ∧ (∀ w ∈ ws, w.text.length ≤ 4000) ∧
  (Vbbtaa.natOf 6 (wordL ws t) = none → Faulty K G 1 (placeL ws b t) E) ∧ (∀ v, Vbbtaa.natOf 6 (wordL ws t) = some v → ¬ (lo ≤ v ∧ v ≤ hi) → Faulty K G 3 (placeL ws b t) E) ∧
  (∀ v, Vbbtaa.natOf 6 (wordL ws t) = some v → lo ≤ v ∧ v ≤ hi → ∀ H', LineSt K G H' a wl ws b t → Q (nV v) H')
theorem sc_Line_number_here : FnScope ["self", "least", "most", "word"] ["self", "least", "most"] (defScope s_Line_number_here) := ⟨rfl, rfl, rfl, by decide +kernel, rfl, by decide +kernel, by decide +kernel⟩
theorem ok_Line_number_here {P : Program} {w : World} {K : PySem.W.Frag} {mg : Str → Option Value} {base : Heap} (T : Txt w K mg) : OkD P w K mg base (L2.CX P w) 4 (He.ma K (He.ga K "Line") "number_here") ["self", "least", "most"] (sp_Line_number_here K) := by
  obtain ⟨fd_worth_of, G_worth_of, B_worth_of, K_worth_of⟩ := ok_worth_of (P := P) (w := w) (base := base) T
  obtain ⟨fd_Line_refuse, G_Line_refuse, B_Line_refuse, K_Line_refuse⟩ := ok_Line_refuse (P := P) (w := w) (base := base) T
  obtain ⟨fd_is_number, G_is_number, B_is_number, K_is_number⟩ := ok_is_number (P := P) (w := w) (base := base) T
  obtain ⟨fd_Line_word_here, G_Line_word_here, B_Line_word_here, K_Line_word_here⟩ := ok_Line_word_here (P := P) (w := w) (base := base) T
  obtain ⟨fd, F⟩ := T.f_Line_number_here
  refine ⟨fd, F.ok sc_Line_number_here (fun vs H Q E h => ?_) (fun cdv A outer s H vs Q E hr h => ?_), F.bindsN fun _ _ _ _ _ _ us hl => match us, hl with | [_, _, _], _ => rfl, F.kp⟩
  · obtain ⟨G, a, wl, ws, b, t, lo, hi, rfl, hL, hsz, k1, k3, k⟩ := h
    rfl
  · refine ⟨_, (pss_cons (ps_set (i := 3) sc_Line_number_here.nd rfl (Or.inl rfl) (pe_meth0 (pv 0) T.c_Line T.m_Line_word_here G_Line_word_here (hr.mono (by decide)) B_Line_word_here .nil pass0 )) (pss_cons (ps_if (pt_not (pt_val (pe_call G_is_number (hr.mono (by decide)) rfl T.g_is_number K_is_number B_is_number .nil pass0 (pa_cons (pv 3) pa_nil)))) (pss_one (ps_expr (pe_meth (pv 0) T.c_Line T.m_Line_refuse G_Line_refuse (hr.mono (by decide)) B_Line_refuse .nil (passes_call (E := E) (takes_of rfl rfl rfl rfl) fun _ _ _ _ h => h) (pa_cons (pe_gint T.i_WRONG_WORD) pa_nil)))) pss_nil) (pss_cons (ps_if (PW.pt (pw_or (pt_cmpR op_lt (pe_call G_worth_of (hr.mono (by decide)) rfl T.g_worth_of K_worth_of B_worth_of .nil pass0 (pa_cons (pv 3) pa_nil)) (pv 1) (nomark _)) (pw_or1 (pt_cmpR op_gt (pe_call G_worth_of (hr.mono (by decide)) rfl T.g_worth_of K_worth_of B_worth_of .nil pass0 (pa_cons (pv 3) pa_nil)) (pv 2) (nomark _))))) (pss_one (ps_expr (pe_meth (pv 0) T.c_Line T.m_Line_refuse G_Line_refuse (hr.mono (by decide)) B_Line_refuse .nil (passes_call (E := E) (takes_of rfl rfl rfl rfl) fun _ _ _ _ h => h) (pa_cons (pe_gint T.i_OUT_OF_RANGE) pa_nil)))) pss_nil) (pss_one (ps_ret (pe_call G_worth_of (hr.mono (by decide)) rfl T.g_worth_of K_worth_of B_worth_of .nil pass0 (pa_cons (pv 3) pa_nil))))))), ?_⟩
    obtain ⟨G, a, wl, ws, b, t, lo, hi, rfl, hL, hsz, k1, k3, k⟩ := h
    refine q_word hL (Ex.refl _) hL.words (ev_var rfl) fun p H1 e1 hp _ => ?_
    have hL1 := hL.ex e1
    refine q_when (b := !(Vbbtaa.natOf 6 (wordL ws t)).isSome) (et_not (et_B (ev_call (ea_cons (ev_var rfl) ea_nil) (spv_pure ⟨p, _, rfl, hp, Nat.le_trans (wordL_len hL.words hsz) (by decide), rfl⟩)))) (fun hb H2 e2 => ?_) (fun hb H2 e2 => ?_)
    · exact x_refuse (hL1.ex e2) (ev_var rfl) ev_c (k1 (by simpa using hb))
    · obtain ⟨v, hv⟩ := Option.isSome_iff_exists.mp (show (Vbbtaa.natOf 6 (wordL ws t)).isSome = true by simpa using hb)
      obtain ⟨_, n2, n3, n4⟩ := natOf_some hv
      have hL2 := hL1.ex e2
      have wo : ∀ {H3 : Hp} {x : L2.St}, Ex H2 H3 → x[3]? = some (some (.ref p)) → Ev (tCall (sp_worth_of K) [] E0 (tCons (tVar 3) tNil)) x H3 (nV v) := fun e h => ev_is (ev_call (ea_cons (ev_var h) ea_nil) (spv_pure ⟨p, _, rfl, hp.ex (e2.trans e), n2, n3, rfl⟩)) (by rw [n4])
      refine q_when (b := decide (v < lo) || decide (hi < v)) (et_or (et_is (et_test (ev_op (wo (Ex.refl _) rfl) (ev_var rfl) rv_I0)) (decide_eq_decide.mpr (by omega))) fun _ => et_is (et_test (ev_op (wo (Ex.refl _) rfl) (ev_var rfl) rv_I0)) (decide_eq_decide.mpr (by omega))) (fun hb2 H3 e3 => ?_) (fun hb2 H3 e3 => ?_)
      · refine x_refuse (hL2.ex e3) (ev_var rfl) ev_c (k3 v hv fun z => ?_)
        rw [Bool.or_eq_true, decide_eq_true_iff, decide_eq_true_iff] at hb2
        omega
      · rw [Bool.or_eq_false_iff, decide_eq_false_iff_not, decide_eq_false_iff_not] at hb2
        exact s_ret (wo e3 rfl) fun H4 e4 => k v hv (by omega) H4 (hL2.ex (e3.trans e4))
def sp_Line_read_number (K : PySem.W.Frag) : Sp := fun vs H Q E => ∃ (G : Hp) (a wl : Addr) (ws : List Vbbtaa.Word) (b t lo hi : Nat), vs = [.ref a, .int (lo : Int), .int (hi : Int)] ∧ LineSt K G H a wl ws b t ∧ (∀ w ∈ ws, w.text.length ≤ 4000) ∧
  (Vbbtaa.natOf 6 (wordL ws t) = none → Faulty K G 1 (placeL ws b t) E) ∧ (∀ v, Vbbtaa.natOf 6 (wordL ws t) = some v → ¬ (lo ≤ v ∧ v ≤ hi) → Faulty K G 3 (placeL ws b t) E) ∧
  (∀ v, Vbbtaa.natOf 6 (wordL ws t) = some v → lo ≤ v ∧ v ≤ hi → ∀ H', LineSt K G H' a wl ws b (t + 1) → Q (nV v) H')
theorem sc_Line_read_number : FnScope ["self", "least", "most", "found"] ["self", "least", "most"] (defScope s_Line_read_number) := ⟨rfl, rfl, rfl, by decide +kernel, rfl, by decide +kernel, by decide +kernel⟩
theorem ok_Line_read_number {P : Program} {w : World} {K : PySem.W.Frag} {mg : Str → Option Value} {base : Heap} (T : Txt w K mg) : OkD P w K mg base (L2.CX P w) 5 (He.ma K (He.ga K "Line") "read_number") ["self", "least", "most"] (sp_Line_read_number K) := by
  obtain ⟨fd_Line_take, G_Line_take, B_Line_take, K_Line_take⟩ := ok_Line_take (P := P) (w := w) (base := base) T
  obtain ⟨fd_Line_number_here, G_Line_number_here, B_Line_number_here, K_Line_number_here⟩ := ok_Line_number_here (P := P) (w := w) (base := base) T
  obtain ⟨fd, F⟩ := T.f_Line_read_number
  refine ⟨fd, F.ok sc_Line_read_number (fun vs H Q E h => ?_) (fun cdv A outer s H vs Q E hr h => ?_), F.bindsN fun _ _ _ _ _ _ us hl => match us, hl with | [_, _, _], _ => rfl, F.kp⟩
  · obtain ⟨G, a, wl, ws, b, t, lo, hi, rfl, hL, hsz, k1, k3, k⟩ := h
    rfl
  · refine ⟨_, (pss_cons (ps_set (i := 3) sc_Line_read_number.nd rfl (Or.inl rfl) (pe_meth (pv 0) T.c_Line T.m_Line_number_here G_Line_number_here (hr.mono (by decide)) B_Line_number_here .nil (passes_call (E := E) (takes_of rfl rfl rfl rfl) fun _ _ _ _ h => h) (pa_cons (pv 1) (pa_cons (pv 2) pa_nil)))) (pss_cons (ps_expr (pe_meth0 (pv 0) T.c_Line T.m_Line_take G_Line_take (hr.mono (by decide)) B_Line_take .nil pass0 )) (pss_one (ps_ret (pv 3))))), ?_⟩
    obtain ⟨G, a, wl, ws, b, t, lo, hi, rfl, hL, hsz, k1, k3, k⟩ := h
    obtain ⟨dx, ho⟩ := hL.obj
    refine x_meth (ev_var rfl) ho lLine_number_here (ea_cons (ev_var rfl) (ea_cons (ev_var rfl) ea_nil)) fun H1 e1 => ⟨G, a, wl, ws, b, t, lo, hi, rfl, hL.ex e1, hsz, k1, k3, fun v hv hr H2 hL2 => ?_⟩
    obtain ⟨n1, _⟩ := natOf_some hv
    refine x_take hL2 (wordL_lt n1) (ev_var rfl) fun H3 e3 hL3 => ?_
    exact s_ret (ev_var rfl) fun H4 e4 => k v hv hr H4 (hL3.ex e4)
def sp_Line_want_end (K : PySem.W.Frag) : Sp := fun vs H Q E => ∃ (G : Hp) (a wl : Addr) (ws : List Vbbtaa.Word) (b t : Nat), vs = [.ref a] ∧ LineSt K G H a wl ws b t ∧ (t ≠ ws.length → Faulty K G 1 (placeL ws b t) E) ∧ (t = ws.length → ∀ H', Ex H H' → Q .non H')
theorem sc_Line_want_end : FnScope ["self"] ["self"] (defScope s_Line_want_end) := ⟨rfl, rfl, rfl, by decide +kernel, rfl, by decide +kernel, by decide +kernel⟩
theorem ok_Line_want_end {P : Program} {w : World} {K : PySem.W.Frag} {mg : Str → Option Value} {base : Heap} (T : Txt w K mg) : OkD P w K mg base (L2.CX P w) 4 (He.ma K (He.ga K "Line") "want_end") ["self"] (sp_Line_want_end K) := by
  obtain ⟨fd_Line_is_over, G_Line_is_over, B_Line_is_over, K_Line_is_over⟩ := ok_Line_is_over (P := P) (w := w) (base := base) T
  obtain ⟨fd_Line_refuse, G_Line_refuse, B_Line_refuse, K_Line_refuse⟩ := ok_Line_refuse (P := P) (w := w) (base := base) T
  obtain ⟨fd, F⟩ := T.f_Line_want_end
  refine ⟨fd, F.ok sc_Line_want_end (fun vs H Q E h => ?_) (fun cdv A outer s H vs Q E hr h => ?_), F.bindsN fun _ _ _ _ _ _ us hl => match us, hl with | [_], _ => rfl, F.kp⟩
  · obtain ⟨G, a, wl, ws, b, t, rfl, hL, k1, k⟩ := h
    rfl
  · refine ⟨_, (pss_one (ps_if (pt_not (pt_val (pe_meth0 (pv 0) T.c_Line T.m_Line_is_over G_Line_is_over (hr.mono (by decide)) B_Line_is_over .nil pass0 ))) (pss_one (ps_expr (pe_meth (pv 0) T.c_Line T.m_Line_refuse G_Line_refuse (hr.mono (by decide)) B_Line_refuse .nil (passes_call (E := E) (takes_of rfl rfl rfl rfl) fun _ _ _ _ h => h) (pa_cons (pe_gint T.i_WRONG_WORD) pa_nil)))) pss_nil)), ?_⟩
    obtain ⟨G, a, wl, ws, b, t, rfl, hL, k1, k⟩ := h
    refine s_when (b := !decide (t = ws.length)) (et_not (et_B (ev_over hL (ev_var rfl)))) (fun hb H1 e1 => ?_) (fun hb H1 e1 => ?_)
    · exact x_refuse (hL.ex e1) (ev_var rfl) ev_c (k1 (by simpa using hb))
    · exact k (by simpa using hb) H1 e1
def sp_want_room (K : PySem.W.Frag) : Sp := fun vs H Q E => ∃ (G : Hp) (a wl l : Addr) (ws : List Vbbtaa.Word) (b t m : Nat) (xs : List V), vs = [.ref a, .ref l, .int (m : Int)] ∧ LineSt K G H a wl ws b t ∧ t < ws.length ∧ H l = some (.lst xs) ∧
  (xs.length = m → Faulty K G 7 (placeL ws b t) E) ∧ (xs.length ≠ m → ∀ H', ExBut a H H' → LineSt K G H' a wl ws b (t + 1) → Q .non H')
theorem sc_want_room : FnScope ["line", "things", "most"] ["line", "things", "most"] (defScope s_want_room) := ⟨rfl, rfl, rfl, by decide +kernel, rfl, by decide +kernel, by decide +kernel⟩
theorem ok_want_room {P : Program} {w : World} {K : PySem.W.Frag} {mg : Str → Option Value} {base : Heap} (T : Txt w K mg) : OkD P w K mg base (L2.CX P w) 4 (He.ga K "want_room") ["line", "things", "most"] (sp_want_room K) := by
  obtain ⟨fd_Line_take, G_Line_take, B_Line_take, K_Line_take⟩ := ok_Line_take (P := P) (w := w) (base := base) T
  obtain ⟨fd_Line_refuse, G_Line_refuse, B_Line_refuse, K_Line_refuse⟩ := ok_Line_refuse (P := P) (w := w) (base := base) T
  obtain ⟨fd, F⟩ := T.f_want_room
  refine ⟨fd, F.ok sc_want_room (fun vs H Q E h => ?_) (fun cdv A outer s H vs Q E hr h => ?_), F.bindsN fun _ _ _ _ _ _ us hl => match us, hl with | [_, _, _], _ => rfl, F.kp⟩
  · obtain ⟨G, a, wl, l, ws, b, t, m, xs, rfl, hL, lt, hl, k7, k⟩ := h
    rfl
  · refine ⟨_, (pss_cons (ps_if (pt_cmpR op_eq (pe_callB call_len_seq (by rfl) T.b_len PySem.boot_len (pa_cons (pv 1) pa_nil)) (pv 2) (nomark _)) (pss_one (ps_expr (pe_meth (pv 0) T.c_Line T.m_Line_refuse G_Line_refuse (hr.mono (by decide)) B_Line_refuse .nil (passes_call (E := E) (takes_of rfl rfl rfl rfl) fun _ _ _ _ h => h) (pa_cons (pe_gint T.i_NO_ROOM) pa_nil)))) pss_nil) (pss_one (ps_expr (pe_meth0 (pv 0) T.c_Line T.m_Line_take G_Line_take (hr.mono (by decide)) B_Line_take .nil pass0 )))), ?_⟩
    obtain ⟨G, a, wl, l, ws, b, t, m, xs, rfl, hL, lt, hl, k7, k⟩ := h
    refine q_when (b := decide (xs.length = m)) (et_is (et_test (ev_eqI (ev_len (ev_var rfl) (sq_of hl)) (ev_var rfl))) (decide_eq_decide.mpr (by omega))) (fun hb H1 e1 => ?_) (fun hb H1 e1 => ?_)
    · exact x_refuse (hL.ex e1) (ev_var rfl) ev_c (k7 (of_decide_eq_true hb))
    · exact x_take (E := fun _ _ _ => False) (hL.ex e1) lt (ev_var rfl) fun H2 e2 hL2 => k (of_decide_eq_false hb) H2 (fun c o hc ne => e2 _ _ (e1 _ _ hc) ne) hL2
end SJ
/-! Texts: lines that tell places, cars, departures. -/
namespace SJ
open PySem PySem.Spec PyProof.Rows L2 Evl LamX
/-! ### the specification's readings, by the word that stands next -/
section
variable {ws : List Vbbtaa.Word} {b t : Nat}
theorem rest_at {x : Vbbtaa.Word} (h : ws[t]? = some x) : restL ws b t = ⟨x :: ws.drop (t + 1), b⟩ := by
  unfold restL
  rw [dropC h]
theorem rest_end (h : ws.length ≤ t) : restL ws b t = ⟨[], b⟩ := by
  unfold restL
  rw [List.drop_eq_nil_of_le h]
theorem placeL_at {x : Vbbtaa.Word} (h : ws[t]? = some x) : placeL ws b t = x.at_ := by
  unfold placeL
  rw [rest_at h]
  rfl
theorem wordL_at {x : Vbbtaa.Word} (h : ws[t]? = some x) : wordL ws t = x.text := by
  unfold wordL
  rw [h]
  rfl
theorem next_no {α : Type} {kd : Nat} {f : List Nat → Option α} (h : f (wordL ws t) = none) : Vbbtaa.next kd f (restL ws b t) = .error ⟨kd, placeL ws b t⟩ := by
  cases e : ws[t]? with
  | none =>
    have hl : ws.length ≤ t := List.getElem?_eq_none_iff.mp e
    unfold placeL
    rw [rest_end hl]
    rfl
  | some x =>
    rw [wordL_at e] at h
    rw [placeL_at e, rest_at e]
    show (match f x.text with
      | some y => Except.ok (y, _)
      | none => Except.error _) = _
    rw [h]
theorem next_yes {α : Type} {kd : Nat} {f : List Nat → Option α} {y : α} (h : f (wordL ws t) = some y) (h0 : f [] = none) : Vbbtaa.next kd f (restL ws b t) = .ok (y, restL ws b (t + 1)) := by
  cases e : ws[t]? with
  | none =>
    unfold wordL at h
    rw [e] at h
    rw [show ((none : Option Vbbtaa.Word).map (·.text)).getD [] = [] from rfl, h0] at h
    cases h
  | some x =>
    rw [wordL_at e] at h
    rw [rest_at e]
    show (match f x.text with
      | some y => Except.ok (y, _)
      | none => Except.error _) = _
    rw [h]
theorem name_no (h : Vbbtaa.isName (wordL ws t) = false) : Vbtoad.nameIn (restL ws b t) = .error ⟨1, placeL ws b t⟩ := next_no (by rw [h]; rfl)
theorem name_yes (h : Vbbtaa.isName (wordL ws t) = true) : Vbtoad.nameIn (restL ws b t) = .ok (wordL ws t, restL ws b (t + 1)) := next_yes (by rw [h]; rfl) rfl
theorem number_no {lo hi : Nat} (h : Vbbtaa.natOf 6 (wordL ws t) = none) : Vbtoad.numberIn lo hi (restL ws b t) = .error ⟨1, placeL ws b t⟩ := by
  unfold Vbtoad.numberIn
  rw [next_no h]
theorem number_out {lo hi v : Nat} (h : Vbbtaa.natOf 6 (wordL ws t) = some v) (hr : ¬ (lo ≤ v ∧ v ≤ hi)) : Vbtoad.numberIn lo hi (restL ws b t) = .error ⟨3, placeL ws b t⟩ := by
  unfold Vbtoad.numberIn
  rw [next_yes h rfl]
  exact if_neg hr
theorem number_yes {lo hi v : Nat} (h : Vbbtaa.natOf 6 (wordL ws t) = some v) (hr : lo ≤ v ∧ v ≤ hi) : Vbtoad.numberIn lo hi (restL ws b t) = .ok (v, restL ws b (t + 1)) := by
  unfold Vbtoad.numberIn
  rw [next_yes h rfl]
  exact if_pos hr
theorem ended_no {α : Type} {x : α} (h : t < ws.length) : Vbbtaa.ended 1 x (restL ws b t) = .error ⟨1, placeL ws b t⟩ := by
  have e := List.getElem?_eq_getElem h
  rw [placeL_at e, rest_at e]
  rfl
theorem ended_yes {α : Type} {x : α} (h : t = ws.length) : Vbbtaa.ended 1 x (restL ws b t) = .ok x := by
  rw [rest_end (Nat.le_of_eq h.symm)]
  rfl
theorem place_no {n : Vbtoad.Net} (h : Vbbtaa.isName (wordL ws t) = false) : Vbtoad.placeIn n (restL ws b t) = .error ⟨1, placeL ws b t⟩ := by
  unfold Vbtoad.placeIn
  rw [name_no h]
theorem findIdx_map {α β : Type} (f : β → Bool) (g : α → β) : ∀ l : List α, (l.map g).findIdx? f = l.findIdx? fun x => f (g x)
  | [] => rfl
  | x :: l => by
    rw [List.map_cons, List.findIdx?_cons, List.findIdx?_cons, findIdx_map f g l]
theorem place_out {n : Vbtoad.Net} (h : Vbbtaa.isName (wordL ws t) = true) (hi : ((n.places.map (·.name)).findIdx? fun x => x == wordL ws t) = none) : Vbtoad.placeIn n (restL ws b t) = .error ⟨5, placeL ws b t⟩ := by
  rw [findIdx_map] at hi
  unfold Vbtoad.placeIn
  rw [name_yes h]
  show (match n.places.findIdx? fun p => p.name == wordL ws t with
    | some i => Except.ok (i, _)
    | none => Except.error _) = _
  rw [hi]
theorem place_yes {n : Vbtoad.Net} {i : Nat} (h : Vbbtaa.isName (wordL ws t) = true) (hi : ((n.places.map (·.name)).findIdx? fun x => x == wordL ws t) = some i) : Vbtoad.placeIn n (restL ws b t) = .ok (i, restL ws b (t + 1)) := by
  rw [findIdx_map] at hi
  unfold Vbtoad.placeIn
  rw [name_yes h]
  show (match n.places.findIdx? fun p => p.name == wordL ws t with
    | some i => Except.ok (i, _)
    | none => Except.error _) = _
  rw [hi]
theorem fresh_no {n : Vbtoad.Net} (h : Vbbtaa.isName (wordL ws t) = false) : Vbtoad.freshIn n (restL ws b t) = .error ⟨1, placeL ws b t⟩ := by
  unfold Vbtoad.freshIn
  rw [name_no h]
theorem any_names (n : Vbtoad.Net) (w : List Nat) : ((n.cars.map (·.name) ++ n.goes.map (·.name)).any fun x => x == w) = ((n.cars.any fun c => c.name == w) || n.goes.any fun g => g.name == w) := by
  rw [List.any_append, List.any_map, List.any_map]
  rfl
theorem fresh_old {n : Vbtoad.Net} (h : Vbbtaa.isName (wordL ws t) = true) (ha : ((n.cars.map (·.name) ++ n.goes.map (·.name)).any fun x => x == wordL ws t) = true) : Vbtoad.freshIn n (restL ws b t) = .error ⟨4, placeL ws b t⟩ := by
  rw [any_names] at ha
  unfold Vbtoad.freshIn
  rw [name_yes h]
  exact if_pos ha
theorem fresh_yes {n : Vbtoad.Net} (h : Vbbtaa.isName (wordL ws t) = true) (ha : ((n.cars.map (·.name) ++ n.goes.map (·.name)).any fun x => x == wordL ws t) = false) : Vbtoad.freshIn n (restL ws b t) = .ok (wordL ws t, restL ws b (t + 1)) := by
  rw [any_names] at ha
  unfold Vbtoad.freshIn
  rw [name_yes h]
  exact if_neg (by rw [ha]; decide)
end
/-! ### a net that is being read: its three lists alone change -/
structure NetSt (K : PySem.W.Frag) (G H : Hp) (na pl cl gl : Addr) (n : Vbtoad.Net) : Prop where
  eG : Ex G H
  fp : G pl = none
  fc : G cl = none
  fg : G gl = none
  pc : pl ≠ cl
  pg : pl ≠ gl
  cg : cl ≠ gl
  obj : ∃ dn, H na = some (.ins (cNet K) dn (FNet (.ref pl) (.ref cl) (.ref gl)))
  lp : ∃ as : List Addr, H pl = some (.lst (as.map V.ref)) ∧ Paired (PlaceAt K (noRows [pl, cl, gl] H)) as n.places
  lc : ∃ as : List Addr, H cl = some (.lst (as.map V.ref)) ∧ Paired (CarAt K (noRows [pl, cl, gl] H)) as n.cars
  lg : ∃ as : List Addr, H gl = some (.lst (as.map V.ref)) ∧ Paired (GoAt K (noRows [pl, cl, gl] H)) as n.goes
section
variable {w : World} {mg : Str → Option Value} {K : PySem.W.Frag} {G H H' : Hp} {na pl cl gl : Addr} {n : Vbtoad.Net}
theorem noRows_up {rows : List Addr} (e : Ex H H') : Ex (noRows rows H) (noRows rows H') := noRows_to e fun _ _ _ nb => nb
theorem NetSt.ex (h : NetSt K G H na pl cl gl n) (e : Ex H H') : NetSt K G H' na pl cl gl n := by
  obtain ⟨h1, h2, h3, h4, h5, h6, h7, ⟨dn, h8⟩, ⟨as, a1, a2⟩, ⟨bs, b1, b2⟩, ⟨gs, g1, g2⟩⟩ := h
  exact ⟨h1.trans e, h2, h3, h4, h5, h6, h7, ⟨dn, e _ _ h8⟩, ⟨as, e _ _ a1, paired_mono (fun _ _ z => z.ex (noRows_up e)) a2⟩, ⟨bs, e _ _ b1, paired_mono (fun _ _ z => z.ex (noRows_up e)) b2⟩, ⟨gs, e _ _ g1, paired_mono (fun _ _ z => z.ex (noRows_up e)) g2⟩⟩
theorem NetSt.at_ (h : NetSt K G H na pl cl gl n) : NetIs K H na pl cl gl n := by
  obtain ⟨h1, h2, h3, h4, h5, h6, h7, h8, ⟨as, a1, a2⟩, ⟨bs, b1, b2⟩, ⟨gs, g1, g2⟩⟩ := h
  exact ⟨h8, ⟨as, a1, paired_mono (fun _ _ z => z.ex noRows_ex) a2⟩, ⟨bs, b1, paired_mono (fun _ _ z => z.ex noRows_ex) b2⟩, ⟨gs, g1, paired_mono (fun _ _ z => z.ex noRows_ex) g2⟩⟩
theorem NetSt.na_ne (h : NetSt K G H na pl cl gl n) : na ∉ [pl, cl, gl] := fun z => by
  obtain ⟨dn, ho⟩ := h.obj
  obtain ⟨as, a1, _⟩ := h.lp
  obtain ⟨bs, b1, _⟩ := h.lc
  obtain ⟨gs, g1, _⟩ := h.lg
  simp only [List.mem_cons, List.not_mem_nil, or_false] at z
  rcases z with z | z | z
  · rw [z, a1] at ho; cases ho
  · rw [z, b1] at ho; cases ho
  · rw [z, g1] at ho; cases ho
/-- a place more -/
theorem NetSt.place {p : Addr} {x : Vbtoad.Place} {as : List Addr} (h : NetSt K G H na pl cl gl n) (e : Ex H H') (ha : H pl = some (.lst (as.map V.ref))) (hp : PlaceAt K (noRows [pl, cl, gl] H') p x) :
    NetSt K G (upd H' pl (.lst (as.map V.ref ++ [V.ref p]))) na pl cl gl { n with places := n.places ++ [x] } := by
  have nn := h.na_ne
  obtain ⟨h1, h2, h3, h4, h5, h6, h7, ⟨dn, h8⟩, ⟨as', a1, a2⟩, ⟨bs, b1, b2⟩, ⟨gs, g1, g2⟩⟩ := h
  rw [ha] at a1
  have ea : as' = as := by
    have z := HO.lst.inj (Option.some.inj a1)
    exact (List.map_inj_right (fun _ _ z => V.ref.inj z)).mp z.symm
  subst ea
  have m : Ex (noRows [pl, cl, gl] H) (noRows [pl, cl, gl] (upd H' pl (.lst (as'.map V.ref ++ [V.ref p])))) := noRows_mut e (by simp)
  have m' : Ex (noRows [pl, cl, gl] H') (noRows [pl, cl, gl] (upd H' pl (.lst (as'.map V.ref ++ [V.ref p])))) := noRows_mut (Ex.refl _) (by simp)
  refine ⟨Ex.mut (h1.trans e) h2, h2, h3, h4, h5, h6, h7, ⟨dn, (upd_ne (fun z => nn (by rw [z]; simp))).trans (e _ _ h8)⟩, ⟨as' ++ [p], by rw [List.map_append]; exact upd_same, paired_app (paired_mono (fun _ _ z => z.ex m) a2) (.cons (hp.ex m') .nil)⟩,
    ⟨bs, (upd_ne (Ne.symm h5)).trans (e _ _ b1), paired_mono (fun _ _ z => z.ex m) b2⟩, ⟨gs, (upd_ne (Ne.symm h6)).trans (e _ _ g1), paired_mono (fun _ _ z => z.ex m) g2⟩⟩
theorem NetSt.car {p : Addr} {x : Vbtoad.Car} {as : List Addr} (h : NetSt K G H na pl cl gl n) (e : Ex H H') (ha : H cl = some (.lst (as.map V.ref))) (hp : CarAt K (noRows [pl, cl, gl] H') p x) :
    NetSt K G (upd H' cl (.lst (as.map V.ref ++ [V.ref p]))) na pl cl gl { n with cars := n.cars ++ [x] } := by
  have nn := h.na_ne
  obtain ⟨h1, h2, h3, h4, h5, h6, h7, ⟨dn, h8⟩, ⟨bs, b1, b2⟩, ⟨as', a1, a2⟩, ⟨gs, g1, g2⟩⟩ := h
  rw [ha] at a1
  have ea : as' = as := by
    have z := HO.lst.inj (Option.some.inj a1)
    exact (List.map_inj_right (fun _ _ z => V.ref.inj z)).mp z.symm
  subst ea
  have m : Ex (noRows [pl, cl, gl] H) (noRows [pl, cl, gl] (upd H' cl (.lst (as'.map V.ref ++ [V.ref p])))) := noRows_mut e (by simp)
  have m' : Ex (noRows [pl, cl, gl] H') (noRows [pl, cl, gl] (upd H' cl (.lst (as'.map V.ref ++ [V.ref p])))) := noRows_mut (Ex.refl _) (by simp)
  refine ⟨Ex.mut (h1.trans e) h3, h2, h3, h4, h5, h6, h7, ⟨dn, (upd_ne (fun z => nn (by rw [z]; simp))).trans (e _ _ h8)⟩, ⟨bs, (upd_ne h5).trans (e _ _ b1), paired_mono (fun _ _ z => z.ex m) b2⟩,
    ⟨as' ++ [p], by rw [List.map_append]; exact upd_same, paired_app (paired_mono (fun _ _ z => z.ex m) a2) (.cons (hp.ex m') .nil)⟩, ⟨gs, (upd_ne (Ne.symm h7)).trans (e _ _ g1), paired_mono (fun _ _ z => z.ex m) g2⟩⟩
theorem NetSt.go {p : Addr} {x : Vbtoad.Go} {as : List Addr} (h : NetSt K G H na pl cl gl n) (e : Ex H H') (ha : H gl = some (.lst (as.map V.ref))) (hp : GoAt K (noRows [pl, cl, gl] H') p x) :
    NetSt K G (upd H' gl (.lst (as.map V.ref ++ [V.ref p]))) na pl cl gl { n with goes := n.goes ++ [x] } := by
  have nn := h.na_ne
  obtain ⟨h1, h2, h3, h4, h5, h6, h7, ⟨dn, h8⟩, ⟨bs, b1, b2⟩, ⟨gs, g1, g2⟩, ⟨as', a1, a2⟩⟩ := h
  rw [ha] at a1
  have ea : as' = as := by
    have z := HO.lst.inj (Option.some.inj a1)
    exact (List.map_inj_right (fun _ _ z => V.ref.inj z)).mp z.symm
  subst ea
  have m : Ex (noRows [pl, cl, gl] H) (noRows [pl, cl, gl] (upd H' gl (.lst (as'.map V.ref ++ [V.ref p])))) := noRows_mut e (by simp)
  have m' : Ex (noRows [pl, cl, gl] H') (noRows [pl, cl, gl] (upd H' gl (.lst (as'.map V.ref ++ [V.ref p])))) := noRows_mut (Ex.refl _) (by simp)
  refine ⟨Ex.mut (h1.trans e) h4, h2, h3, h4, h5, h6, h7, ⟨dn, (upd_ne (fun z => nn (by rw [z]; simp))).trans (e _ _ h8)⟩, ⟨bs, (upd_ne h6).trans (e _ _ b1), paired_mono (fun _ _ z => z.ex m) b2⟩,
    ⟨gs, (upd_ne h7).trans (e _ _ g1), paired_mono (fun _ _ z => z.ex m) g2⟩, ⟨as' ++ [p], by rw [List.map_append]; exact upd_same, paired_app (paired_mono (fun _ _ z => z.ex m) a2) (.cons (hp.ex m') .nil)⟩⟩
theorem places_named (T : Txt w K mg) {l : Addr} {xs : List Vbtoad.Place} (h : ThingsAt (PlaceAt K) H l xs) : ThingsAt (NamedAt K) H l (xs.map (·.name)) := by
  obtain ⟨as, h1, h2⟩ := h
  refine ⟨as, h1, ?_⟩
  clear h1
  induction h2 with
  | nil => exact .nil
  | cons r _ ih =>
    obtain ⟨dx, nm, q1, q2⟩ := r
    exact .cons ⟨_, _, _, nm, q1, T.c_Place, T.n_Place_name, lPlace_name, q2⟩ ih
theorem cars_named (T : Txt w K mg) {l : Addr} {xs : List Vbtoad.Car} (h : ThingsAt (CarAt K) H l xs) : ThingsAt (NamedAt K) H l (xs.map (·.name)) := by
  obtain ⟨as, h1, h2⟩ := h
  refine ⟨as, h1, ?_⟩
  clear h1
  induction h2 with
  | nil => exact .nil
  | cons r _ ih =>
    obtain ⟨dx, nm, q1, q2⟩ := r
    exact .cons ⟨_, _, _, nm, q1, T.c_Car, T.n_Car_name, lCar_name, q2⟩ ih
theorem goes_named (T : Txt w K mg) {l : Addr} {xs : List Vbtoad.Go} (h : ThingsAt (GoAt K) H l xs) : ThingsAt (NamedAt K) H l (xs.map (·.name)) := by
  obtain ⟨as, h1, h2⟩ := h
  refine ⟨as, h1, ?_⟩
  clear h1
  induction h2 with
  | nil => exact .nil
  | cons r _ ih =>
    obtain ⟨dx, nm, q1, q2⟩ := r
    exact .cons ⟨_, _, _, nm, q1, T.c_Departure, T.n_Departure_name, lDeparture_name, q2⟩ ih
end
end SJ
/-! Texts: the lines of places, cars, departures. -/
namespace SJ
open PySem PySem.Spec PyProof.Rows L2 Evl LamX
section
variable {ws : List Vbbtaa.Word} {b : Nat} {x : Vbbtaa.Word} {n : Vbtoad.Net}
theorem line_place (h : ws[0]? = some x) (e : x.text = Vbbtaa.chars "place") : Vbtoad.lineIn n (restL ws b 0) = if 8 ≤ n.places.length then .error ⟨7, placeL ws b 0⟩ else match Vbtoad.nameIn (restL ws b 1) with
    | .error e => .error e
    | .ok (t, y) => if n.places.any (fun p => p.name == t) = true then .error ⟨4, placeL ws b 1⟩
      else if y.words = [] then .ok { n with places := n.places ++ [⟨t, 0⟩] }
      else match Vbtoad.numberIn 0 1000 y with
        | .error e => .error e
        | .ok (h, y) => Vbbtaa.ended 1 { n with places := n.places ++ [⟨t, h⟩] } y := by
  rw [placeL_at h, rest_at h]
  unfold Vbtoad.lineIn
  show (if x.text = Vbbtaa.chars "place" then _ else _) = _
  rw [if_pos e]
  rfl
theorem line_car (h : ws[0]? = some x) (e : x.text = Vbbtaa.chars "car") : Vbtoad.lineIn n (restL ws b 0) = if 16 ≤ n.cars.length then .error ⟨7, placeL ws b 0⟩ else match Vbtoad.freshIn n (restL ws b 1) with
    | .error e => .error e
    | .ok (t, y) => match Vbtoad.placeIn n y with
      | .error e => .error e
      | .ok (a, y) => match Vbtoad.placeIn n y with
        | .error e => .error e
        | .ok (b, v) => if a = b then .error ⟨6, Vbbtaa.placeOf y⟩ else match Vbtoad.numberIn 1 10000 v with
          | .error e => .error e
          | .ok (m, v) => Vbbtaa.ended 1 { n with cars := n.cars ++ [⟨t, a, b, m⟩] } v := by
  rw [placeL_at h, rest_at h]
  unfold Vbtoad.lineIn
  show (if x.text = Vbbtaa.chars "place" then _ else if x.text = Vbbtaa.chars "car" then _ else _) = _
  rw [if_neg (by rw [e]; decide +kernel), if_pos e]
  rfl
theorem line_go (h : ws[0]? = some x) (e : x.text = Vbbtaa.chars "go") : Vbtoad.lineIn n (restL ws b 0) = if 30 ≤ n.goes.length then .error ⟨7, placeL ws b 0⟩ else match Vbtoad.freshIn n (restL ws b 1) with
    | .error e => .error e
    | .ok (t, y) => match Vbtoad.placeIn n y with
      | .error e => .error e
      | .ok (a, y) => match Vbtoad.numberIn 0 100000 y with
        | .error e => .error e
        | .ok (d, y) => match Vbtoad.placeIn n y with
          | .error e => .error e
          | .ok (b, v) => if a = b then .error ⟨6, Vbbtaa.placeOf y⟩ else match Vbtoad.numberIn 0 100000 v with
            | .error e => .error e
            | .ok (m, u) => if m ≤ d then .error ⟨8, Vbbtaa.placeOf v⟩ else Vbbtaa.ended 1 { n with goes := n.goes ++ [⟨t, a, d, b, m⟩] } u := by
  rw [placeL_at h, rest_at h]
  unfold Vbtoad.lineIn
  show (if x.text = Vbbtaa.chars "place" then _ else if x.text = Vbbtaa.chars "car" then _ else if x.text = Vbbtaa.chars "go" then _ else _) = _
  rw [if_neg (by rw [e]; decide +kernel), if_neg (by rw [e]; decide +kernel), if_pos e]
  rfl
theorem line_other (h : ws[0]? = some x) (e1 : x.text ≠ Vbbtaa.chars "place") (e2 : x.text ≠ Vbbtaa.chars "car") (e3 : x.text ≠ Vbbtaa.chars "go") : Vbtoad.lineIn n (restL ws b 0) = .error ⟨1, placeL ws b 0⟩ := by
  rw [placeL_at h, rest_at h]
  unfold Vbtoad.lineIn
  show (if x.text = Vbbtaa.chars "place" then _ else if x.text = Vbbtaa.chars "car" then _ else if x.text = Vbbtaa.chars "go" then _ else _) = _
  rw [if_neg e1, if_neg e2, if_neg e3]
end
/-- what a line's reading asks: the net, the line, what comes of it -/
structure LineJob (K : PySem.W.Frag) (G G2 H : Hp) (na pl cl gl la wl : Addr) (ws : List Vbbtaa.Word) (b : Nat) (n : Vbtoad.Net) (x : Vbbtaa.Word) (Q : VK) (E : XK) : Prop where
  net : NetSt K G G2 na pl cl gl n
  ok : NetOk n
  line : LineSt K G2 H la wl ws b 0
  words : WordsAt (noRows [pl, cl, gl] G2) wl ws
  short : ∀ w ∈ ws, w.text.length ≤ 4000
  first : ws[0]? = some x
  bad : ∀ e, Vbtoad.lineIn n (restL ws b 0) = .error e → Faulty K G e.kind e.at_ E
  good : ∀ n', Vbtoad.lineIn n (restL ws b 0) = .ok n' → ∀ H', NetSt K G H' na pl cl gl n' → Q .non H'
def spLine (K : PySem.W.Frag) (word : String) : Sp := fun vs H Q E => ∃ (G G2 : Hp) (na pl cl gl la wl : Addr) (ws : List Vbbtaa.Word) (b : Nat) (n : Vbtoad.Net) (x : Vbbtaa.Word), vs = [.ref na, .ref la] ∧ LineJob K G G2 H na pl cl gl la wl ws b n x Q E ∧ x.text = Vbbtaa.chars word
section
variable {w : World} {mg : Str → Option Value} {K : PySem.W.Frag} {G G2 H : Hp} {na pl cl gl la wl : Addr} {ws : List Vbbtaa.Word} {b t : Nat} {n : Vbtoad.Net} {σ : L2.St} {E : XK} {D : Ends} {tz : TS}
/-- line.want_end() -/
theorem qd_end {α : Type} {y : α} {f : Except Vbbtaa.Fault α} (T : Txt w K mg) (hL : LineSt K G2 H la wl ws b t) (h0 : Ev (tVar 1) σ H (.ref la)) (hf : f = Vbbtaa.ended 1 y (restL ws b t)) (kE : ∀ e, f = .error e → Faulty K G2 e.kind e.at_ E) (k : f = .ok y → ∀ H', LineSt K G2 H' la wl ws b t → tz D σ H') :
    tSeq (tDrop (tMeth (cLine K) "want_end" (sp_Line_want_end K) [] E (tVar 1) tNil)) tz D σ H := by
  obtain ⟨dx, ho⟩ := hL.obj
  refine x_meth h0 ho lLine_want_end ea_nil fun H1 e1 => ⟨G2, la, wl, ws, b, t, rfl, hL.ex e1, fun ne => kE ⟨1, _⟩ (hf.trans (ended_no (by have := hL.le; omega))), fun e H2 e2 => k (hf.trans (ended_yes e)) H2 (hL.ex (e1.trans e2))⟩
end
/-- l.append(C(..)) -/
theorem s_appI {K : PySem.W.Frag} {σ : L2.St} {H : Hp} {ta te : TE} {D : Ends} {l C : Addr} {xs : List V} {fs : List (Str × V)} (hl : H l = some (.lst xs)) (ha : Ev ta σ H (.ref l)) (h : EvI te σ H C fs) (hz : xs.length < 100000)
    (k : ∀ p dx H1, H p = none → Ex H H1 → H1 p = some (.ins C dx fs) → D.nx σ (upd H1 l (.lst (xs ++ [.ref p])))) : tDrop (tBM K "list" rAppend ta (tCons te tNil)) D σ H :=
  ha H (Ex.refl H) _ fun H1 e1 => ⟨Or.inl ⟨rfl, xs, sq_of (e1 _ _ hl)⟩, h H1 e1 _ fun p dx H2 hp e2 h2 => ⟨l, xs, .ref p, rfl, rfl, e2 _ _ (e1 _ _ hl), sz_lt hz, k p dx H2 (fresh_back e1 hp) (e1.trans e2) h2⟩⟩
theorem NetSt.old {K : PySem.W.Frag} {G H : Hp} {na pl cl gl : Addr} {n : Vbtoad.Net} (N : NetSt K G H na pl cl gl n) {H' : Hp} (e : Ex H H') {q : Addr} (hq : H' q = none) : q ∉ [pl, cl, gl] := fun z => by
  obtain ⟨as, a1, _⟩ := N.lp
  obtain ⟨bs, b1, _⟩ := N.lc
  obtain ⟨gs, g1, _⟩ := N.lg
  simp only [List.mem_cons, List.not_mem_nil, or_false] at z
  rcases z with z | z | z
  · rw [z, e _ _ a1] at hq; cases hq
  · rw [z, e _ _ b1] at hq; cases hq
  · rw [z, e _ _ g1] at hq; cases hq
abbrev sp_read_place_line (K : PySem.W.Frag) : Sp := spLine K "place"
theorem place_tail {w : World} {mg : Str → Option Value} {K : PySem.W.Frag} {G G2 H H0 : Hp} {na pl cl gl la wl p : Addr} {ws : List Vbbtaa.Word} {b t hh : Nat} {n : Vbtoad.Net} {x : Vbbtaa.Word} {E : XK} {Q : VK} {R : VK} (T : Txt w K mg)
    (J : LineJob K G G2 H0 na pl cl gl la wl ws b n x Q E) (hL : LineSt K G2 H la wl ws b t) (hp : NameAt (noRows [pl, cl, gl] G2) p (wordL ws 1)) (hf : Vbtoad.lineIn n (restL ws b 0) = Vbbtaa.ended 1 { n with places := n.places ++ [⟨wordL ws 1, hh⟩] } (restL ws b t)) :
    tSeq (tDrop (tMeth (cLine K) "want_end" (sp_Line_want_end K) [] E (tVar 1) tNil)) (tDrop (tBM K "list" rAppend (tFld K (tVar 0) "places") (tCons (tMake (cPlace K) (sp_Place_init K) [] E0 (tCons (tVar 2) (tCons (tVar 3) tNil))) tNil)))
      { nx := fun _ H' => Q .non H', rt := R } [some (.ref na), some (.ref la), some (.ref p), some (nV hh)] H := by
  refine qd_end T hL (ev_var rfl) hf (fun e he => (J.bad e he).up J.net.eG) fun hok H1 hL1 => ?_
  have N := J.net
  obtain ⟨dn, hno⟩ := N.obj
  obtain ⟨as, a1, a2⟩ := N.lp
  have g1 := hL1.eG
  refine s_appI (g1 _ _ a1) (ev_fld (ev_var rfl) (g1 _ _ hno) T.c_Net T.n_Net_places lNet_places) (ei_make (fs := FPlace (.ref p) (nV hh)) (ea_cons (ev_var rfl) (ea_cons (ev_var rfl) ea_nil)) fun H3 q dx Q' e3 h3 hq => ⟨q, dx, _, _, rfl, h3, hq⟩) (by
    rw [List.length_map, paired_len a2]
    have := J.ok.pl
    omega) fun q dq H3 hq e3 h3 => ?_
  exact J.good _ hok _ (N.place (g1.trans e3) a1 ⟨dq, p, noRows_at h3 (N.old g1 hq), hp.ex (noRows_up (g1.trans e3))⟩)
theorem sc_read_place_line : FnScope ["net", "line", "name", "handling"] ["net", "line"] (defScope s_read_place_line) := ⟨rfl, rfl, rfl, by decide +kernel, rfl, by decide +kernel, by decide +kernel⟩
theorem ok_read_place_line {P : Program} {w : World} {K : PySem.W.Frag} {mg : Str → Option Value} {base : Heap} (T : Txt w K mg) : OkD P w K mg base (L2.CX P w) 6 (He.ga K "read_place_line") ["net", "line"] (sp_read_place_line K) := by
  obtain ⟨fd_Place_init, G_Place_init, B_Place_init, K_Place_init⟩ := ok_Place_init (P := P) (w := w) (base := base) T
  obtain ⟨fd_Line_want_end, G_Line_want_end, B_Line_want_end, K_Line_want_end⟩ := ok_Line_want_end (P := P) (w := w) (base := base) T
  obtain ⟨fd_Line_is_over, G_Line_is_over, B_Line_is_over, K_Line_is_over⟩ := ok_Line_is_over (P := P) (w := w) (base := base) T
  obtain ⟨fd_Line_read_number, G_Line_read_number, B_Line_read_number, K_Line_read_number⟩ := ok_Line_read_number (P := P) (w := w) (base := base) T
  obtain ⟨fd_Line_read_name, G_Line_read_name, B_Line_read_name, K_Line_read_name⟩ := ok_Line_read_name (P := P) (w := w) (base := base) T
  obtain ⟨fd_want_room, G_want_room, B_want_room, K_want_room⟩ := ok_want_room (P := P) (w := w) (base := base) T
  obtain ⟨fd, F⟩ := T.f_read_place_line
  refine ⟨fd, F.ok sc_read_place_line (fun vs H Q E h => ?_) (fun cdv A outer s H vs Q E hr h => ?_), F.bindsN fun _ _ _ _ _ _ us hl => match us, hl with | [_, _], _ => rfl, F.kp⟩
  · obtain ⟨G, G2, na, pl, cl, gl, la, wl, ws, b, n, x, rfl, J, hx⟩ := h
    rfl
  · refine ⟨_, (pss_cons (ps_expr (pe_call G_want_room (hr.mono (by decide)) rfl T.g_want_room K_want_room B_want_room .nil (passes_call (E := E) (takes_of rfl rfl rfl rfl) fun _ _ _ _ h => h) (pa_cons (pv 1) (pa_cons (pe_fld (pv 0) rfl) (pa_cons (pe_gint T.i_MOST_PLACES) pa_nil))))) (pss_cons (ps_set (i := 2) sc_read_place_line.nd rfl (Or.inl rfl) (pe_meth (pv 1) T.c_Line T.m_Line_read_name G_Line_read_name (hr.mono (by decide)) B_Line_read_name .nil (passes_call (E := E) (takes_of rfl rfl rfl rfl) fun _ _ _ _ h => h) (pa_cons (pe_fld (pv 0) rfl) pa_nil))) (pss_cons (ps_set (i := 3) sc_read_place_line.nd rfl (Or.inl rfl) pe_int) (pss_cons (ps_if (pt_not (pt_val (pe_meth0 (pv 1) T.c_Line T.m_Line_is_over G_Line_is_over (hr.mono (by decide)) B_Line_is_over .nil pass0 ))) (pss_one (ps_set (i := 3) sc_read_place_line.nd rfl (Or.inl rfl) (pe_meth (pv 1) T.c_Line T.m_Line_read_number G_Line_read_number (hr.mono (by decide)) B_Line_read_number .nil (passes_call (E := E) (takes_of rfl rfl rfl rfl) fun _ _ _ _ h => h) (pa_cons pe_int (pa_cons (pe_gint T.i_MOST_HANDLING) pa_nil))))) pss_nil) (pss_cons (ps_expr (pe_meth0 (pv 1) T.c_Line T.m_Line_want_end G_Line_want_end (hr.mono (by decide)) B_Line_want_end .nil (passes_call (E := E) (takes_of rfl rfl rfl rfl) fun _ _ _ _ h => h) )) (pss_one (ps_expr (pe_bm PySem.F.plainAttrs_list PySem.F.slot_list_append PySem.F.type_list_append mt_append (pe_fld (pv 0) rfl) (pa_cons (pe_make T.k_Place G_Place_init (hr.mono (by decide)) rfl T.g_Place B_Place_init .nil pass0 (pa_cons (pv 2) (pa_cons (pv 3) pa_nil))) pa_nil))))))))), ?_⟩
    obtain ⟨G, G2, na, pl, cl, gl, la, wl, ws, b, n, x, rfl, J, hx⟩ := h
    have N := J.net
    have eGG := N.eG
    have hL := J.line
    have NI := N.at_
    obtain ⟨dn, hno⟩ := N.obj
    obtain ⟨as, a1, a2⟩ := N.lp
    have la_ : as.length = n.places.length := paired_len a2
    have lt0 : 0 < ws.length := (List.getElem?_eq_some_iff.mp J.first).1
    have hl := line_place (n := n) (b := b) J.first hx
    have bad : ∀ {e : Vbbtaa.Fault}, Vbtoad.lineIn n (restL ws b 0) = .error e → Faulty K G2 e.kind e.at_ E := fun {e} he => (J.bad e he).up eGG
    have opl := J.ok.pl
    refine qd_call (ea_cons (ev_var rfl) (ea_cons (ev_fld (ev_var rfl) (hL.eG _ _ hno) T.c_Net T.n_Net_places lNet_places) (ea_cons ev_c ea_nil))) fun H1 e1 => ⟨G2, la, wl, pl, ws, b, 0, 8, _, rfl, hL.ex e1, lt0, e1 _ _ (hL.eG _ _ a1), fun h8 => ?_, fun h8 H2 eb hL2 => ?_⟩
    · rw [List.length_map, la_] at h8
      exact bad (e := ⟨7, placeL ws b 0⟩) (hl.trans (if_pos (by omega)))
    rw [List.length_map, la_] at h8
    rw [if_neg (show ¬ 8 ≤ n.places.length by omega)] at hl
    obtain ⟨d2, ho2⟩ := hL2.obj
    refine x_meth (ev_var rfl) ho2 lLine_read_name (ea_cons (ev_fld (ev_var rfl) (hL2.eG _ _ hno) T.c_Net T.n_Net_places lNet_places) ea_nil) fun H3 e3 => ⟨G2, noRows [pl, cl, gl] G2, la, wl, pl, ws, b, 1, n.places.map (·.name), rfl, hL2.ex e3, noRows_ex, J.words, J.short, places_named T (NI.pl.ex (fun _ _ z => z.ex (hL2.eG.trans e3)) (hL2.eG.trans e3)), fun h => ?_, fun h ha => ?_, fun h ha p H4 hL4 hp => ?_⟩
    · rw [name_no h] at hl
      exact bad hl
    · rw [name_yes h] at hl
      rw [List.any_map] at ha
      exact bad (hl.trans (if_pos ha))
    rw [name_yes h] at hl
    rw [List.any_map] at ha
    have hl2 := hl.trans (if_neg (by
      show ¬ (n.places.any ((fun x => x == wordL ws 1) ∘ fun x => x.name)) = true
      rw [ha]
      decide))
    refine q_asg ev_c fun H5 e5 => ?_
    have hL5 := hL4.ex e5
    refine q_when (b := !decide (2 = ws.length)) (et_not (et_B (ev_over hL5 (ev_var rfl)))) (fun hb H6 e6 => ?_) (fun hb H6 e6 => ?_)
    · have ne : ¬ 2 = ws.length := by simpa using hb
      have hne : ¬ (restL ws b (1 + 1)).words = [] := fun z => by
        have := List.drop_eq_nil_iff.mp (show ws.drop 2 = [] from z)
        have := hL5.le
        omega
      rw [if_neg hne] at hl2
      have hL6 := hL5.ex e6
      obtain ⟨d6, ho6⟩ := hL6.obj
      refine x_meth (ev_var rfl) ho6 lLine_read_number (ea_cons ev_c (ea_cons ev_c ea_nil)) fun H7 e7 => ⟨G2, la, wl, ws, b, 2, 0, 1000, rfl, hL6.ex e7, J.short, fun hn => ?_, fun v hv hr => ?_, fun v hv hr H8 hL8 => ?_⟩
      · rw [number_no hn] at hl2
        exact bad hl2
      · rw [number_out hv hr] at hl2
        exact bad hl2
      · rw [number_yes hv hr] at hl2
        exact place_tail T J hL8 hp hl2
    · have e2 : 2 = ws.length := by simpa using hb
      have he : (restL ws b (1 + 1)).words = [] := List.drop_eq_nil_of_le (by omega)
      rw [if_pos he] at hl2
      exact place_tail T J (hL5.ex e6) hp (hl2.trans (ended_yes e2).symm)
section
variable {w : World} {mg : Str → Option Value} {K : PySem.W.Frag} {H : Hp} {σ : L2.St} {sp : Sp} {dvs : List V} {E : XK} {tl : TA} {ta : TE} {C a dx : Addr} {m : Str} {fs : List (Str × V)}
theorem x_methR {R : List V → Hp → Prop} (h : Ev ta σ H (.ref a)) (ho : H a = some (.ins C dx fs)) (hl : fs.lookup m = none) (ha : EvAR tl σ H R) {Q : VK} (k : ∀ vs H1, Ex H H1 → R vs H1 → sp (.ref a :: (vs ++ dvs)) H1 Q E) : tMeth C m sp dvs E ta tl σ H Q :=
  h H (Ex.refl H) _ fun H2 e2 => ⟨a, dx, fs, rfl, e2 a _ ho, hl, ha H2 e2 _ fun vs H3 e3 hR => k vs H3 (e2.trans e3) hR⟩
theorem pcar_named (T : Txt w K mg) {as : List Addr} {xs : List Vbtoad.Car} (h : Paired (CarAt K H) as xs) : Paired (NamedAt K H) as (xs.map (·.name)) := by
  induction h with
  | nil => exact .nil
  | cons r _ ih =>
    obtain ⟨dx, nm, q1, q2⟩ := r
    exact .cons ⟨_, _, _, nm, q1, T.c_Car, T.n_Car_name, lCar_name, q2⟩ ih
theorem pgo_named (T : Txt w K mg) {as : List Addr} {xs : List Vbtoad.Go} (h : Paired (GoAt K H) as xs) : Paired (NamedAt K H) as (xs.map (·.name)) := by
  induction h with
  | nil => exact .nil
  | cons r _ ih =>
    obtain ⟨dx, nm, q1, q2⟩ := r
    exact .cons ⟨_, _, _, nm, q1, T.c_Departure, T.n_Departure_name, lDeparture_name, q2⟩ ih
end
abbrev sp_read_car_line (K : PySem.W.Frag) : Sp := spLine K "car"
theorem sc_read_car_line : FnScope ["net", "line", "name", "start", "end", "long"] ["net", "line"] (defScope s_read_car_line) := ⟨rfl, rfl, rfl, by decide +kernel, rfl, by decide +kernel, by decide +kernel⟩
theorem ok_read_car_line {P : Program} {w : World} {K : PySem.W.Frag} {mg : Str → Option Value} {base : Heap} (T : Txt w K mg) : OkD P w K mg base (L2.CX P w) 6 (He.ga K "read_car_line") ["net", "line"] (sp_read_car_line K) := by
  obtain ⟨fd_Car_init, G_Car_init, B_Car_init, K_Car_init⟩ := ok_Car_init (P := P) (w := w) (base := base) T
  obtain ⟨fd_Line_want_end, G_Line_want_end, B_Line_want_end, K_Line_want_end⟩ := ok_Line_want_end (P := P) (w := w) (base := base) T
  obtain ⟨fd_Line_read_number, G_Line_read_number, B_Line_read_number, K_Line_read_number⟩ := ok_Line_read_number (P := P) (w := w) (base := base) T
  obtain ⟨fd_Line_read_place, G_Line_read_place, B_Line_read_place, K_Line_read_place⟩ := ok_Line_read_place (P := P) (w := w) (base := base) T
  obtain ⟨fd_Line_read_name, G_Line_read_name, B_Line_read_name, K_Line_read_name⟩ := ok_Line_read_name (P := P) (w := w) (base := base) T
  obtain ⟨fd_want_room, G_want_room, B_want_room, K_want_room⟩ := ok_want_room (P := P) (w := w) (base := base) T
  obtain ⟨fd, F⟩ := T.f_read_car_line
  refine ⟨fd, F.ok sc_read_car_line (fun vs H Q E h => ?_) (fun cdv A outer s H vs Q E hr h => ?_), F.bindsN fun _ _ _ _ _ _ us hl => match us, hl with | [_, _], _ => rfl, F.kp⟩
  · obtain ⟨G, G2, na, pl, cl, gl, la, wl, ws, b, n, x, rfl, J, hx⟩ := h
    rfl
  · refine ⟨_, (pss_cons (ps_expr (pe_call G_want_room (hr.mono (by decide)) rfl T.g_want_room K_want_room B_want_room .nil (passes_call (E := E) (takes_of rfl rfl rfl rfl) fun _ _ _ _ h => h) (pa_cons (pv 1) (pa_cons (pe_fld (pv 0) rfl) (pa_cons (pe_gint T.i_MOST_CARS) pa_nil))))) (pss_cons (ps_set (i := 2) sc_read_car_line.nd rfl (Or.inl rfl) (pe_meth (pv 1) T.c_Line T.m_Line_read_name G_Line_read_name (hr.mono (by decide)) B_Line_read_name .nil (passes_call (E := E) (takes_of rfl rfl rfl rfl) fun _ _ _ _ h => h) (pa_cons (pe_op op_cat (pe_fld (pv 0) rfl) (pe_fld (pv 0) rfl)) pa_nil))) (pss_cons (ps_set (i := 3) sc_read_car_line.nd rfl (Or.inl rfl) (pe_meth (pv 1) T.c_Line T.m_Line_read_place G_Line_read_place (hr.mono (by decide)) B_Line_read_place .nil (passes_call (E := E) (takes_of rfl rfl rfl rfl) fun _ _ _ _ h => h) (pa_cons (pe_fld (pv 0) rfl) (pa_cons (pe_un un_neg pe_int) pa_nil)))) (pss_cons (ps_set (i := 4) sc_read_car_line.nd rfl (Or.inl rfl) (pe_meth (pv 1) T.c_Line T.m_Line_read_place G_Line_read_place (hr.mono (by decide)) B_Line_read_place .nil (passes_call (E := E) (takes_of rfl rfl rfl rfl) fun _ _ _ _ h => h) (pa_cons (pe_fld (pv 0) rfl) (pa_cons (pv 3) pa_nil)))) (pss_cons (ps_set (i := 5) sc_read_car_line.nd rfl (Or.inl rfl) (pe_meth (pv 1) T.c_Line T.m_Line_read_number G_Line_read_number (hr.mono (by decide)) B_Line_read_number .nil (passes_call (E := E) (takes_of rfl rfl rfl rfl) fun _ _ _ _ h => h) (pa_cons pe_int (pa_cons (pe_gint T.i_MOST_LONG) pa_nil)))) (pss_cons (ps_expr (pe_meth0 (pv 1) T.c_Line T.m_Line_want_end G_Line_want_end (hr.mono (by decide)) B_Line_want_end .nil (passes_call (E := E) (takes_of rfl rfl rfl rfl) fun _ _ _ _ h => h) )) (pss_one (ps_expr (pe_bm PySem.F.plainAttrs_list PySem.F.slot_list_append PySem.F.type_list_append mt_append (pe_fld (pv 0) rfl) (pa_cons (pe_make T.k_Car G_Car_init (hr.mono (by decide)) rfl T.g_Car B_Car_init .nil pass0 (pa_cons (pv 2) (pa_cons (pv 3) (pa_cons (pv 4) (pa_cons (pv 5) pa_nil))))) pa_nil)))))))))), ?_⟩
    obtain ⟨G, G2, na, pl, cl, gl, la, wl, ws, b, n, x, rfl, J, hx⟩ := h
    have N := J.net
    have eGG := N.eG
    have hL := J.line
    have NI := N.at_
    obtain ⟨dn, hno⟩ := N.obj
    obtain ⟨cs, c1, c2⟩ := N.lc
    obtain ⟨gs, g1, g2⟩ := N.lg
    have lc_ : cs.length = n.cars.length := paired_len c2
    have lg_ : gs.length = n.goes.length := paired_len g2
    have lt0 : 0 < ws.length := (List.getElem?_eq_some_iff.mp J.first).1
    have hl := line_car (n := n) (b := b) J.first hx
    have bad : ∀ {e : Vbbtaa.Fault}, Vbtoad.lineIn n (restL ws b 0) = .error e → Faulty K G2 e.kind e.at_ E := fun {e} he => (J.bad e he).up eGG
    have ocl := J.ok.cl
    have ogl := J.ok.gl
    have fl : ∀ {σ : L2.St} {H' : Hp}, Ex G2 H' → σ[0]? = some (some (.ref na)) → Ev (tFld K (tVar 0) "places") σ H' (.ref pl) ∧ Ev (tFld K (tVar 0) "cars") σ H' (.ref cl) ∧ Ev (tFld K (tVar 0) "goes") σ H' (.ref gl) := fun e h =>
      ⟨ev_fld (ev_var h) (e _ _ hno) T.c_Net T.n_Net_places lNet_places, ev_fld (ev_var h) (e _ _ hno) T.c_Net T.n_Net_cars lNet_cars, ev_fld (ev_var h) (e _ _ hno) T.c_Net T.n_Net_goes lNet_goes⟩
    have pn : ∀ {H' : Hp}, Ex G2 H' → ThingsAt (NamedAt K) H' pl (n.places.map (·.name)) := fun e => places_named T (NI.pl.ex (fun _ _ z => z.ex e) e)
    refine qd_call (ea_cons (ev_var rfl) (ea_cons (fl hL.eG rfl).2.1 (ea_cons ev_c ea_nil))) fun H1 e1 => ⟨G2, la, wl, cl, ws, b, 0, 16, _, rfl, hL.ex e1, lt0, e1 _ _ (hL.eG _ _ c1), fun h8 => ?_, fun h8 H2 eb hL2 => ?_⟩
    · rw [List.length_map, lc_] at h8
      exact bad (e := ⟨7, placeL ws b 0⟩) (hl.trans (if_pos (by omega)))
    rw [List.length_map, lc_] at h8
    rw [if_neg (show ¬ 16 ≤ n.cars.length by omega)] at hl
    obtain ⟨d2, ho2⟩ := hL2.obj
    refine x_methR (ev_var rfl) ho2 lLine_read_name (ear_consL (el_catVV (fl hL2.eG rfl).2.1 (hL2.eG _ _ c1) (fl hL2.eG rfl).2.2 (hL2.eG _ _ g1) (by rw [List.length_map, List.length_map]; omega)) ear_nil) fun vs H3 e3 hvs => ?_
    obtain ⟨l, r, rfl, h3, rfl⟩ := hvs
    have g3 := hL2.eG.trans e3
    refine ⟨G2, noRows [pl, cl, gl] G2, la, wl, l, ws, b, 1, n.cars.map (·.name) ++ n.goes.map (·.name), rfl, hL2.ex e3, noRows_ex, J.words, J.short, ⟨cs ++ gs, by rw [List.map_append]; exact h3, paired_app (pcar_named T (paired_mono (fun _ _ z => z.ex (noRows_ex.trans g3)) c2)) (pgo_named T (paired_mono (fun _ _ z => z.ex (noRows_ex.trans g3)) g2))⟩, fun h => ?_, fun h ha => ?_, fun h ha p H4 hL4 hp => ?_⟩
    · rw [fresh_no h] at hl
      exact bad hl
    · rw [fresh_old h ha] at hl
      exact bad hl
    rw [fresh_yes h ha] at hl
    obtain ⟨d4, ho4⟩ := hL4.obj
    refine x_meth (ev_var rfl) ho4 lLine_read_place (ea_cons (fl hL4.eG rfl).1 (ea_cons (ev_un ev_c fun H5 _ Q q => ⟨1, rfl, q H5 (Ex.refl H5)⟩) ea_nil)) fun H5 e5 => ⟨G2, la, wl, pl, ws, b, 2, n.places.map (·.name), -1, rfl, hL4.ex e5, J.short, pn (hL4.eG.trans e5), fun h => ?_, fun h hi => ?_, fun i h hi hu => absurd hu (by omega), fun i1 hn1 hi1 _ H6 hL6 => ?_⟩
    · have hl' := hl
      simp only [show (1 : Nat) + 1 = 2 from rfl, place_no h] at hl'
      exact bad hl'
    · have hl' := hl
      simp only [show (1 : Nat) + 1 = 2 from rfl, place_out h hi] at hl'
      exact bad hl'
    simp only [show (1 : Nat) + 1 = 2 from rfl, place_yes hn1 hi1] at hl
    obtain ⟨d6, ho6⟩ := hL6.obj
    refine x_meth (ev_var rfl) ho6 lLine_read_place (ea_cons (fl hL6.eG rfl).1 (ea_cons (ev_var rfl) ea_nil)) fun H7 e7 => ⟨G2, la, wl, pl, ws, b, 3, n.places.map (·.name), (i1 : Int), rfl, hL6.ex e7, J.short, pn (hL6.eG.trans e7), fun h => ?_, fun h hi => ?_, fun i h hi hu => ?_, fun i2 hn2 hi2 hne H8 hL8 => ?_⟩
    · have hl' := hl
      simp only [show (2 : Nat) + 1 = 3 from rfl, place_no h] at hl'
      exact bad hl'
    · have hl' := hl
      simp only [show (2 : Nat) + 1 = 3 from rfl, place_out h hi] at hl'
      exact bad hl'
    · have hl' := hl
      simp only [show (2 : Nat) + 1 = 3 from rfl, place_yes h hi] at hl'
      exact bad (e := ⟨6, placeL ws b 3⟩) (hl'.trans (if_pos (by omega)))
    simp only [show (2 : Nat) + 1 = 3 from rfl, place_yes hn2 hi2] at hl
    rw [if_neg (show ¬ i1 = i2 by omega)] at hl
    obtain ⟨d8, ho8⟩ := hL8.obj
    refine x_meth (ev_var rfl) ho8 lLine_read_number (ea_cons ev_c (ea_cons ev_c ea_nil)) fun H9 e9 => ⟨G2, la, wl, ws, b, 4, 1, 10000, rfl, hL8.ex e9, J.short, fun hn => ?_, fun v hv hr => ?_, fun v hv hr H10 hL10 => ?_⟩
    · have hl' := hl
      simp only [show (3 : Nat) + 1 = 4 from rfl, number_no hn] at hl'
      exact bad hl'
    · have hl' := hl
      simp only [show (3 : Nat) + 1 = 4 from rfl, number_out hv hr] at hl'
      exact bad hl'
    simp only [show (3 : Nat) + 1 = 4 from rfl, number_yes hv hr] at hl
    refine qd_end T hL10 (ev_var rfl) hl (fun e he => bad he) fun hok H11 hL11 => ?_
    refine s_appI (hL11.eG _ _ c1) (fl hL11.eG rfl).2.1 (ei_make (fs := FCar (.ref p) (nV i1) (nV i2) (nV v)) (ea_cons (ev_var rfl) (ea_cons (ev_var rfl) (ea_cons (ev_var rfl) (ea_cons (ev_var rfl) ea_nil)))) fun H3 q dx Q' e3 h3 hq => ⟨q, dx, _, _, _, _, rfl, h3, hq⟩) (by
      rw [List.length_map]
      omega) fun q dq H12 hq e12 h12 => ?_
    have ge := hL11.eG.trans e12
    exact J.good _ hok _ (N.car ge c1 ⟨dq, p, noRows_at h12 (N.old hL11.eG hq), hp.ex (noRows_up ge)⟩)
end SJ
/-! Texts: the lines of departures; nets. -/
namespace SJ
open PySem PySem.Spec PyProof.Rows L2 Evl LamX
abbrev sp_read_go_line (K : PySem.W.Frag) : Sp := spLine K "go"
theorem sc_read_go_line : FnScope ["net", "line", "name", "start", "leaves", "end", "comes"] ["net", "line"] (defScope s_read_go_line) := ⟨rfl, rfl, rfl, by decide +kernel, rfl, by decide +kernel, by decide +kernel⟩
theorem ok_read_go_line {P : Program} {w : World} {K : PySem.W.Frag} {mg : Str → Option Value} {base : Heap} (T : Txt w K mg) : OkD P w K mg base (L2.CX P w) 6 (He.ga K "read_go_line") ["net", "line"] (sp_read_go_line K) := by
  obtain ⟨fd_Departure_init, G_Departure_init, B_Departure_init, K_Departure_init⟩ := ok_Departure_init (P := P) (w := w) (base := base) T
  obtain ⟨fd_Line_want_end, G_Line_want_end, B_Line_want_end, K_Line_want_end⟩ := ok_Line_want_end (P := P) (w := w) (base := base) T
  obtain ⟨fd_Line_take, G_Line_take, B_Line_take, K_Line_take⟩ := ok_Line_take (P := P) (w := w) (base := base) T
  obtain ⟨fd_Line_refuse, G_Line_refuse, B_Line_refuse, K_Line_refuse⟩ := ok_Line_refuse (P := P) (w := w) (base := base) T
  obtain ⟨fd_Line_number_here, G_Line_number_here, B_Line_number_here, K_Line_number_here⟩ := ok_Line_number_here (P := P) (w := w) (base := base) T
  obtain ⟨fd_Line_read_place, G_Line_read_place, B_Line_read_place, K_Line_read_place⟩ := ok_Line_read_place (P := P) (w := w) (base := base) T
  obtain ⟨fd_Line_read_number, G_Line_read_number, B_Line_read_number, K_Line_read_number⟩ := ok_Line_read_number (P := P) (w := w) (base := base) T
  obtain ⟨fd_Line_read_name, G_Line_read_name, B_Line_read_name, K_Line_read_name⟩ := ok_Line_read_name (P := P) (w := w) (base := base) T
  obtain ⟨fd_want_room, G_want_room, B_want_room, K_want_room⟩ := ok_want_room (P := P) (w := w) (base := base) T
  obtain ⟨fd, F⟩ := T.f_read_go_line
  refine ⟨fd, F.ok sc_read_go_line (fun vs H Q E h => ?_) (fun cdv A outer s H vs Q E hr h => ?_), F.bindsN fun _ _ _ _ _ _ us hl => match us, hl with | [_, _], _ => rfl, F.kp⟩
  · obtain ⟨G, G2, na, pl, cl, gl, la, wl, ws, b, n, x, rfl, J, hx⟩ := h
    rfl
  · refine ⟨_, (pss_cons (ps_expr (pe_call G_want_room (hr.mono (by decide)) rfl T.g_want_room K_want_room B_want_room .nil (passes_call (E := E) (takes_of rfl rfl rfl rfl) fun _ _ _ _ h => h) (pa_cons (pv 1) (pa_cons (pe_fld (pv 0) rfl) (pa_cons (pe_gint T.i_MOST_GOES) pa_nil))))) (pss_cons (ps_set (i := 2) sc_read_go_line.nd rfl (Or.inl rfl) (pe_meth (pv 1) T.c_Line T.m_Line_read_name G_Line_read_name (hr.mono (by decide)) B_Line_read_name .nil (passes_call (E := E) (takes_of rfl rfl rfl rfl) fun _ _ _ _ h => h) (pa_cons (pe_op op_cat (pe_fld (pv 0) rfl) (pe_fld (pv 0) rfl)) pa_nil))) (pss_cons (ps_set (i := 3) sc_read_go_line.nd rfl (Or.inl rfl) (pe_meth (pv 1) T.c_Line T.m_Line_read_place G_Line_read_place (hr.mono (by decide)) B_Line_read_place .nil (passes_call (E := E) (takes_of rfl rfl rfl rfl) fun _ _ _ _ h => h) (pa_cons (pe_fld (pv 0) rfl) (pa_cons (pe_un un_neg pe_int) pa_nil)))) (pss_cons (ps_set (i := 4) sc_read_go_line.nd rfl (Or.inl rfl) (pe_meth (pv 1) T.c_Line T.m_Line_read_number G_Line_read_number (hr.mono (by decide)) B_Line_read_number .nil (passes_call (E := E) (takes_of rfl rfl rfl rfl) fun _ _ _ _ h => h) (pa_cons pe_int (pa_cons (pe_gint T.i_LAST_MINUTE) pa_nil)))) (pss_cons (ps_set (i := 5) sc_read_go_line.nd rfl (Or.inl rfl) (pe_meth (pv 1) T.c_Line T.m_Line_read_place G_Line_read_place (hr.mono (by decide)) B_Line_read_place .nil (passes_call (E := E) (takes_of rfl rfl rfl rfl) fun _ _ _ _ h => h) (pa_cons (pe_fld (pv 0) rfl) (pa_cons (pv 3) pa_nil)))) (pss_cons (ps_set (i := 6) sc_read_go_line.nd rfl (Or.inl rfl) (pe_meth (pv 1) T.c_Line T.m_Line_number_here G_Line_number_here (hr.mono (by decide)) B_Line_number_here .nil (passes_call (E := E) (takes_of rfl rfl rfl rfl) fun _ _ _ _ h => h) (pa_cons pe_int (pa_cons (pe_gint T.i_LAST_MINUTE) pa_nil)))) (pss_cons (ps_if (pt_cmpR op_le (pv 6) (pv 4) (nomark _)) (pss_one (ps_expr (pe_meth (pv 1) T.c_Line T.m_Line_refuse G_Line_refuse (hr.mono (by decide)) B_Line_refuse .nil (passes_call (E := E) (takes_of rfl rfl rfl rfl) fun _ _ _ _ h => h) (pa_cons (pe_gint T.i_NOT_LATER) pa_nil)))) pss_nil) (pss_cons (ps_expr (pe_meth0 (pv 1) T.c_Line T.m_Line_take G_Line_take (hr.mono (by decide)) B_Line_take .nil pass0 )) (pss_cons (ps_expr (pe_meth0 (pv 1) T.c_Line T.m_Line_want_end G_Line_want_end (hr.mono (by decide)) B_Line_want_end .nil (passes_call (E := E) (takes_of rfl rfl rfl rfl) fun _ _ _ _ h => h) )) (pss_one (ps_expr (pe_bm PySem.F.plainAttrs_list PySem.F.slot_list_append PySem.F.type_list_append mt_append (pe_fld (pv 0) rfl) (pa_cons (pe_make T.k_Departure G_Departure_init (hr.mono (by decide)) rfl T.g_Departure B_Departure_init .nil pass0 (pa_cons (pv 2) (pa_cons (pv 3) (pa_cons (pv 4) (pa_cons (pv 5) (pa_cons (pv 6) pa_nil)))))) pa_nil))))))))))))), ?_⟩
    obtain ⟨G, G2, na, pl, cl, gl, la, wl, ws, b, n, x, rfl, J, hx⟩ := h
    have N := J.net
    have eGG := N.eG
    have hL := J.line
    have NI := N.at_
    obtain ⟨dn, hno⟩ := N.obj
    obtain ⟨cs, c1, c2⟩ := N.lc
    obtain ⟨gs, g1, g2⟩ := N.lg
    have lc_ : cs.length = n.cars.length := paired_len c2
    have lg_ : gs.length = n.goes.length := paired_len g2
    have lt0 : 0 < ws.length := (List.getElem?_eq_some_iff.mp J.first).1
    have hl := line_go (n := n) (b := b) J.first hx
    have bad : ∀ {e : Vbbtaa.Fault}, Vbtoad.lineIn n (restL ws b 0) = .error e → Faulty K G2 e.kind e.at_ E := fun {e} he => (J.bad e he).up eGG
    have ocl := J.ok.cl
    have ogl := J.ok.gl
    have fl : ∀ {σ : L2.St} {H' : Hp}, Ex G2 H' → σ[0]? = some (some (.ref na)) → Ev (tFld K (tVar 0) "places") σ H' (.ref pl) ∧ Ev (tFld K (tVar 0) "cars") σ H' (.ref cl) ∧ Ev (tFld K (tVar 0) "goes") σ H' (.ref gl) := fun e h =>
      ⟨ev_fld (ev_var h) (e _ _ hno) T.c_Net T.n_Net_places lNet_places, ev_fld (ev_var h) (e _ _ hno) T.c_Net T.n_Net_cars lNet_cars, ev_fld (ev_var h) (e _ _ hno) T.c_Net T.n_Net_goes lNet_goes⟩
    have pn : ∀ {H' : Hp}, Ex G2 H' → ThingsAt (NamedAt K) H' pl (n.places.map (·.name)) := fun e => places_named T (NI.pl.ex (fun _ _ z => z.ex e) e)
    refine qd_call (ea_cons (ev_var rfl) (ea_cons (fl hL.eG rfl).2.2 (ea_cons ev_c ea_nil))) fun H1 e1 => ⟨G2, la, wl, gl, ws, b, 0, 30, _, rfl, hL.ex e1, lt0, e1 _ _ (hL.eG _ _ g1), fun h8 => ?_, fun h8 H2 eb hL2 => ?_⟩
    · rw [List.length_map, lg_] at h8
      exact bad (e := ⟨7, placeL ws b 0⟩) (hl.trans (if_pos (by omega)))
    rw [List.length_map, lg_] at h8
    rw [if_neg (show ¬ 30 ≤ n.goes.length by omega)] at hl
    obtain ⟨d2, ho2⟩ := hL2.obj
    refine x_methR (ev_var rfl) ho2 lLine_read_name (ear_consL (el_catVV (fl hL2.eG rfl).2.1 (hL2.eG _ _ c1) (fl hL2.eG rfl).2.2 (hL2.eG _ _ g1) (by rw [List.length_map, List.length_map]; omega)) ear_nil) fun vs H3 e3 hvs => ?_
    obtain ⟨l, r, rfl, h3, rfl⟩ := hvs
    have g3 := hL2.eG.trans e3
    refine ⟨G2, noRows [pl, cl, gl] G2, la, wl, l, ws, b, 1, n.cars.map (·.name) ++ n.goes.map (·.name), rfl, hL2.ex e3, noRows_ex, J.words, J.short, ⟨cs ++ gs, by rw [List.map_append]; exact h3, paired_app (pcar_named T (paired_mono (fun _ _ z => z.ex (noRows_ex.trans g3)) c2)) (pgo_named T (paired_mono (fun _ _ z => z.ex (noRows_ex.trans g3)) g2))⟩, fun h => ?_, fun h ha => ?_, fun h ha p H4 hL4 hp => ?_⟩
    · rw [fresh_no h] at hl
      exact bad hl
    · rw [fresh_old h ha] at hl
      exact bad hl
    rw [fresh_yes h ha] at hl
    obtain ⟨d4, ho4⟩ := hL4.obj
    refine x_meth (ev_var rfl) ho4 lLine_read_place (ea_cons (fl hL4.eG rfl).1 (ea_cons (ev_un ev_c fun H5 _ Q q => ⟨1, rfl, q H5 (Ex.refl H5)⟩) ea_nil)) fun H5 e5 => ⟨G2, la, wl, pl, ws, b, 2, n.places.map (·.name), -1, rfl, hL4.ex e5, J.short, pn (hL4.eG.trans e5), fun h => ?_, fun h hi => ?_, fun i h hi hu => absurd hu (by omega), fun i1 hn1 hi1 _ H6 hL6 => ?_⟩
    · have hl' := hl
      simp only [show (1 : Nat) + 1 = 2 from rfl, place_no h] at hl'
      exact bad hl'
    · have hl' := hl
      simp only [show (1 : Nat) + 1 = 2 from rfl, place_out h hi] at hl'
      exact bad hl'
    simp only [show (1 : Nat) + 1 = 2 from rfl, place_yes hn1 hi1] at hl
    obtain ⟨d6, ho6⟩ := hL6.obj
    refine x_meth (ev_var rfl) ho6 lLine_read_number (ea_cons ev_c (ea_cons ev_c ea_nil)) fun H7 e7 => ⟨G2, la, wl, ws, b, 3, 0, 100000, rfl, hL6.ex e7, J.short, fun hn => ?_, fun v hv hr => ?_, fun v1 hv1 hr1 H8 hL8 => ?_⟩
    · have hl' := hl
      simp only [show (2 : Nat) + 1 = 3 from rfl, number_no hn] at hl'
      exact bad hl'
    · have hl' := hl
      simp only [show (2 : Nat) + 1 = 3 from rfl, number_out hv hr] at hl'
      exact bad hl'
    simp only [show (2 : Nat) + 1 = 3 from rfl, number_yes hv1 hr1] at hl
    obtain ⟨d8, ho8⟩ := hL8.obj
    refine x_meth (ev_var rfl) ho8 lLine_read_place (ea_cons (fl hL8.eG rfl).1 (ea_cons (ev_var rfl) ea_nil)) fun H9 e9 => ⟨G2, la, wl, pl, ws, b, 4, n.places.map (·.name), (i1 : Int), rfl, hL8.ex e9, J.short, pn (hL8.eG.trans e9), fun h => ?_, fun h hi => ?_, fun i h hi hu => ?_, fun i2 hn2 hi2 hne H10 hL10 => ?_⟩
    · have hl' := hl
      simp only [show (3 : Nat) + 1 = 4 from rfl, place_no h] at hl'
      exact bad hl'
    · have hl' := hl
      simp only [show (3 : Nat) + 1 = 4 from rfl, place_out h hi] at hl'
      exact bad hl'
    · have hl' := hl
      simp only [show (3 : Nat) + 1 = 4 from rfl, place_yes h hi] at hl'
      exact bad (e := ⟨6, placeL ws b 4⟩) (hl'.trans (if_pos (by omega)))
    simp only [show (3 : Nat) + 1 = 4 from rfl, place_yes hn2 hi2] at hl
    rw [if_neg (show ¬ i1 = i2 by omega)] at hl
    obtain ⟨d10, ho10⟩ := hL10.obj
    refine x_meth (ev_var rfl) ho10 lLine_number_here (ea_cons ev_c (ea_cons ev_c ea_nil)) fun H11 e11 => ⟨G2, la, wl, ws, b, 5, 0, 100000, rfl, hL10.ex e11, J.short, fun hn => ?_, fun v hv hr => ?_, fun v2 hv2 hr2 H12 hL12 => ?_⟩
    · have hl' := hl
      simp only [show (4 : Nat) + 1 = 5 from rfl, number_no hn] at hl'
      exact bad hl'
    · have hl' := hl
      simp only [show (4 : Nat) + 1 = 5 from rfl, number_out hv hr] at hl'
      exact bad hl'
    simp only [show (4 : Nat) + 1 = 5 from rfl, number_yes hv2 hr2] at hl
    refine q_when (b := decide (v2 ≤ v1)) (et_is (et_test (ev_op (ev_var rfl) (ev_var rfl) rv_I0)) (decide_eq_decide.mpr (by omega))) (fun hb H13 e13 => ?_) (fun hb H13 e13 => ?_)
    · exact x_refuse (hL12.ex e13) (ev_var rfl) ev_c (bad (e := ⟨8, placeL ws b 5⟩) (hl.trans (if_pos (of_decide_eq_true hb))))
    rw [if_neg (of_decide_eq_false hb)] at hl
    refine x_take (E := fun _ _ _ => False) (hL12.ex e13) (wordL_lt (natOf_some hv2).1) (ev_var rfl) fun H14 e14 hL14 => ?_
    refine qd_end T hL14 (ev_var rfl) hl (fun e he => bad he) fun hok H15 hL15 => ?_
    refine s_appI (hL15.eG _ _ g1) (fl hL15.eG rfl).2.2 (ei_make (fs := FDeparture (.ref p) (nV i1) (nV v1) (nV i2) (nV v2)) (ea_cons (ev_var rfl) (ea_cons (ev_var rfl) (ea_cons (ev_var rfl) (ea_cons (ev_var rfl) (ea_cons (ev_var rfl) ea_nil))))) fun H3 q dx Q' e3 h3 hq => ⟨q, dx, _, _, _, _, _, rfl, h3, hq⟩) (by
      rw [List.length_map]
      omega) fun q dq H16 hq e16 h16 => ?_
    have ge := hL15.eG.trans e16
    exact J.good _ hok _ (N.go ge g1 ⟨dq, p, noRows_at h16 (N.old hL15.eG hq), hp.ex (noRows_up ge)⟩)
end SJ
/-! Texts: a line, a net. -/
namespace SJ
open PySem PySem.Spec PyProof.Rows L2 Evl LamX
theorem LineJob.ex {K : PySem.W.Frag} {G G2 H H' : Hp} {na pl cl gl la wl : Addr} {ws : List Vbbtaa.Word} {b : Nat} {n : Vbtoad.Net} {x : Vbbtaa.Word} {Q : VK} {E : XK} (J : LineJob K G G2 H na pl cl gl la wl ws b n x Q E) (e : Ex H H') : LineJob K G G2 H' na pl cl gl la wl ws b n x Q E :=
  { J with line := J.line.ex e }
theorem LineJob.to {K : PySem.W.Frag} {G G2 H H' : Hp} {na pl cl gl la wl : Addr} {ws : List Vbbtaa.Word} {b : Nat} {n : Vbtoad.Net} {x : Vbbtaa.Word} {Q Q' : VK} {E : XK} (J : LineJob K G G2 H na pl cl gl la wl ws b n x Q E) (e : Ex H H') (q : ∀ H1, Q .non H1 → Q' .non H1) : LineJob K G G2 H' na pl cl gl la wl ws b n x Q' E :=
  ⟨J.net, J.ok, J.line.ex e, J.words, J.short, J.first, J.bad, fun n' h H1 hN => q H1 (J.good n' h H1 hN)⟩
/-- word == bytes_of("..") -/
theorem et_word {K : PySem.W.Frag} {σ : L2.St} {H : Hp} {te : TE} {p : Addr} {t u : List Nat} {z : Str} (h : Ev te σ H (.ref p)) (hp : NameAt H p t) (hz : z.cps.toList = u) (hs : z.cps.size ≤ 1000) : EvT (tTest (tOp (rEqD K) te (tCall (sp_bytes_of K) [] E0 (tCons (tC (.str z)) tNil)))) σ H (decide (t = u)) := by
  refine et_is (et_test (ev_opL h (el_call (ea_cons ev_c ea_nil) (spl_pure ⟨z, rfl, hs, rfl⟩)) fun q H1 hq e1 => rv_eqName (hp.ex e1) (u := u) (by
    rw [hz] at hq
    exact hq))) ?_
  by_cases e : t = u
  · rw [e, decide_eq_true rfl]
    simp
  · rw [decide_eq_false e]
    simp [e]
def sp_read_line (K : PySem.W.Frag) : Sp := fun vs H Q E => ∃ (G G2 : Hp) (na pl cl gl la wl : Addr) (ws : List Vbbtaa.Word) (b : Nat) (n : Vbtoad.Net) (x : Vbbtaa.Word), vs = [.ref na, .ref la] ∧ LineJob K G G2 H na pl cl gl la wl ws b n x Q E
theorem sc_read_line : FnScope ["net", "line", "word"] ["net", "line"] (defScope s_read_line) := ⟨rfl, rfl, rfl, by decide +kernel, rfl, by decide +kernel, by decide +kernel⟩
theorem ok_read_line {P : Program} {w : World} {K : PySem.W.Frag} {mg : Str → Option Value} {base : Heap} (T : Txt w K mg) : OkD P w K mg base (L2.CX P w) 7 (He.ga K "read_line") ["net", "line"] (sp_read_line K) := by
  obtain ⟨fd_bytes_of, G_bytes_of, B_bytes_of, K_bytes_of⟩ := ok_bytes_of (P := P) (w := w) (base := base) T
  obtain ⟨fd_read_place_line, G_read_place_line, B_read_place_line, K_read_place_line⟩ := ok_read_place_line (P := P) (w := w) (base := base) T
  obtain ⟨fd_read_car_line, G_read_car_line, B_read_car_line, K_read_car_line⟩ := ok_read_car_line (P := P) (w := w) (base := base) T
  obtain ⟨fd_read_go_line, G_read_go_line, B_read_go_line, K_read_go_line⟩ := ok_read_go_line (P := P) (w := w) (base := base) T
  obtain ⟨fd_Line_refuse, G_Line_refuse, B_Line_refuse, K_Line_refuse⟩ := ok_Line_refuse (P := P) (w := w) (base := base) T
  obtain ⟨fd_Line_word_here, G_Line_word_here, B_Line_word_here, K_Line_word_here⟩ := ok_Line_word_here (P := P) (w := w) (base := base) T
  obtain ⟨fd, F⟩ := T.f_read_line
  refine ⟨fd, F.ok sc_read_line (fun vs H Q E h => ?_) (fun cdv A outer s H vs Q E hr h => ?_), F.bindsN fun _ _ _ _ _ _ us hl => match us, hl with | [_, _], _ => rfl, F.kp⟩
  · obtain ⟨G, G2, na, pl, cl, gl, la, wl, ws, b, n, x, rfl, J⟩ := h
    rfl
  · refine ⟨_, (pss_cons (ps_set (i := 2) sc_read_line.nd rfl (Or.inl rfl) (pe_meth0 (pv 1) T.c_Line T.m_Line_word_here G_Line_word_here (hr.mono (by decide)) B_Line_word_here .nil pass0 )) (pss_one (ps_if (pt_cmpR (op_eqD hr.units) (pv 2) (pe_call G_bytes_of (hr.mono (by decide)) rfl T.g_bytes_of K_bytes_of B_bytes_of .nil pass0 (pa_cons pe_str pa_nil)) (nomark _)) (pss_one (ps_expr (pe_call G_read_place_line (hr.mono (by decide)) rfl T.g_read_place_line K_read_place_line B_read_place_line .nil (passes_call (E := E) (takes_of rfl rfl rfl rfl) fun _ _ _ _ h => h) (pa_cons (pv 0) (pa_cons (pv 1) pa_nil))))) (pss_one (ps_if (pt_cmpR (op_eqD hr.units) (pv 2) (pe_call G_bytes_of (hr.mono (by decide)) rfl T.g_bytes_of K_bytes_of B_bytes_of .nil pass0 (pa_cons pe_str pa_nil)) (nomark _)) (pss_one (ps_expr (pe_call G_read_car_line (hr.mono (by decide)) rfl T.g_read_car_line K_read_car_line B_read_car_line .nil (passes_call (E := E) (takes_of rfl rfl rfl rfl) fun _ _ _ _ h => h) (pa_cons (pv 0) (pa_cons (pv 1) pa_nil))))) (pss_one (ps_if (pt_cmpR (op_eqD hr.units) (pv 2) (pe_call G_bytes_of (hr.mono (by decide)) rfl T.g_bytes_of K_bytes_of B_bytes_of .nil pass0 (pa_cons pe_str pa_nil)) (nomark _)) (pss_one (ps_expr (pe_call G_read_go_line (hr.mono (by decide)) rfl T.g_read_go_line K_read_go_line B_read_go_line .nil (passes_call (E := E) (takes_of rfl rfl rfl rfl) fun _ _ _ _ h => h) (pa_cons (pv 0) (pa_cons (pv 1) pa_nil))))) (pss_one (ps_expr (pe_meth (pv 1) T.c_Line T.m_Line_refuse G_Line_refuse (hr.mono (by decide)) B_Line_refuse .nil (passes_call (E := E) (takes_of rfl rfl rfl rfl) fun _ _ _ _ h => h) (pa_cons (pe_gint T.i_WRONG_WORD) pa_nil))))))))))), ?_⟩
    obtain ⟨G, G2, na, pl, cl, gl, la, wl, ws, b, n, x, rfl, J⟩ := h
    have hw : wordL ws 0 = x.text := wordL_at J.first
    refine q_word J.line (Ex.refl _) J.line.words (ev_var rfl) fun p H1 e1 hp _ => ?_
    rw [hw] at hp
    refine s_if (et_word (ev_var rfl) hp (u := Vbbtaa.chars "place") (by decide +kernel) (by decide +kernel)) (fun hb H2 e2 => ?_) (fun hb H2 e2 => ?_)
    · exact d_call (ea_cons (ev_var rfl) (ea_cons (ev_var rfl) ea_nil)) fun H3 e3 => ⟨G, G2, na, pl, cl, gl, la, wl, ws, b, n, x, rfl, J.to (e1.trans (e2.trans e3)) (fun _ z => z), of_decide_eq_true hb⟩
    refine s_if (et_word (ev_var rfl) (hp.ex e2) (u := Vbbtaa.chars "car") (by decide +kernel) (by decide +kernel)) (fun hb2 H3 e3 => ?_) (fun hb2 H3 e3 => ?_)
    · exact d_call (ea_cons (ev_var rfl) (ea_cons (ev_var rfl) ea_nil)) fun H4 e4 => ⟨G, G2, na, pl, cl, gl, la, wl, ws, b, n, x, rfl, J.to (e1.trans (e2.trans (e3.trans e4))) (fun _ z => z), of_decide_eq_true hb2⟩
    refine s_if (et_word (ev_var rfl) (hp.ex (e2.trans e3)) (u := Vbbtaa.chars "go") (by decide +kernel) (by decide +kernel)) (fun hb3 H4 e4 => ?_) (fun hb3 H4 e4 => ?_)
    · exact d_call (ea_cons (ev_var rfl) (ea_cons (ev_var rfl) ea_nil)) fun H5 e5 => ⟨G, G2, na, pl, cl, gl, la, wl, ws, b, n, x, rfl, J.to (e1.trans (e2.trans (e3.trans (e4.trans e5)))) (fun _ z => z), of_decide_eq_true hb3⟩
    exact x_refuse (J.line.ex (e1.trans (e2.trans (e3.trans e4)))) (ev_var rfl) ev_c ((J.bad ⟨1, placeL ws b 0⟩ (line_other J.first (of_decide_eq_false hb) (of_decide_eq_false hb2) (of_decide_eq_false hb3))).up J.net.eG)
/-! ### words compared with no words -/
def wordD (w : Vbbtaa.Word) : PyData := .tuple [.list ((natsI w.text).map .int), .int (w.at_ : Int)]
theorem dp_words {K : PySem.W.Frag} {H : Hp} {l : Addr} {ws : List Vbbtaa.Word} (h : WordsAt H l ws) : Dp K H (.ref l) (.list (ws.map wordD)) := by
  obtain ⟨as, h1, h2⟩ := h
  refine .lst (sq_of h1) ?_
  clear h1
  induction h2 with
  | nil => exact .nil
  | cons r _ ih =>
    obtain ⟨na, q1, q2⟩ := r
    exact .cons (.tup (st_of q1) (.cons (.lst (sq_of q2.ints) (dp_ints _)) (.cons (.int _) .nil))) ih
theorem lay_ints (l : List Int) : PyData.canLayAll0 (l.map PyData.int) = true := by
  induction l with
  | nil => rfl
  | cons n r ih => simp only [List.map_cons, PyData.canLayAll0, PyData.canLay0, ih, Bool.and_self]
theorem depth_ints (l : List Int) : PyData.depthAll (l.map PyData.int) = 0 := by
  induction l with
  | nil => rfl
  | cons n r ih => simp only [List.map_cons, PyData.depthAll, PyData.depth, ih, Nat.max_self]
theorem shp_words (ws : List Vbbtaa.Word) : SeqAt.shaped (.list (ws.map wordD)) = true := by
  have h1 : PyData.canLayAll0 (ws.map wordD) = true := by
    induction ws with
    | nil => rfl
    | cons w r ih =>
      rw [List.map_cons]
      unfold PyData.canLayAll0
      rw [ih, Bool.and_true]
      unfold wordD
      simp only [PyData.canLay0, PyData.canLayAll0, lay_ints, Bool.and_self]
  have h2 : PyData.depthAll (ws.map wordD) ≤ 2 := by
    induction ws with
    | nil => exact Nat.zero_le _
    | cons w r ih =>
      have ih := ih (by
        have z := h1
        rw [List.map_cons] at z
        unfold PyData.canLayAll0 at z
        exact (Bool.and_eq_true_iff.mp z).2)
      rw [List.map_cons]
      have hw : PyData.depth (wordD w) ≤ 2 := by
        unfold wordD
        simp only [PyData.depth, PyData.depthAll, depth_ints]
        decide
      simp only [PyData.depthAll]
      exact Nat.max_le.mpr ⟨hw, ih⟩
  unfold SeqAt.shaped
  rw [Bool.and_eq_true]
  refine ⟨by simp only [PyData.canLay0]; exact h1, decide_eq_true ?_⟩
  simp only [PyData.depth]
  omega
theorem rv_neWords {K : PySem.W.Frag} {H : Hp} {a b : Addr} {ws : List Vbbtaa.Word} (ha : WordsAt H a ws) (hb : H b = some (.lst [])) : RV (rNeD K) (.ref a) (.ref b) H (.bl (!ws.isEmpty)) := fun H1 e Q q =>
  ⟨_, _, dp_words (ha.ex e), .lst (sq_of (e _ _ hb)) .nil, shp_words ws, by decide, by
    have z : PyData.eqv (.list (ws.map wordD)) (.list []) = ws.isEmpty := by
      cases ws with
      | nil => rfl
      | cons w r => simp only [PyData.eqv, List.map_cons, PyData.eqvAll, List.isEmpty_cons]
    rw [z]
    exact q H1 (Ex.refl H1)⟩
end SJ
/-! Texts: a net is read. -/
namespace SJ
open PySem PySem.Spec PyProof.Rows L2 Evl LamX
theorem q_asgNet {K : PySem.W.Frag} {σ : L2.St} {H : Hp} {te : TE} {xs ys zs : List V} {i : Nat} {D : Ends} {tz : TS} (h : EvNet K te σ H xs ys zs)
    (k : ∀ p dx pl cl gl H2, H p = none → New3 H pl cl gl → Ex H H2 → H2 p = some (.ins (cNet K) dx (FNet (.ref pl) (.ref cl) (.ref gl))) → H2 pl = some (.lst xs) → H2 cl = some (.lst ys) → H2 gl = some (.lst zs) → tz D (σ.set i (some (.ref p))) H2) : tSeq (tAsg te (gName i)) tz D σ H :=
  h H (Ex.refl H) _ fun p dx pl cl gl H2 h1 h2 h3 h4 h5 h6 h7 => k p dx pl cl gl H2 h1 h2 h3 h4 h5 h6 h7
theorem readLines_cons {n : Vbtoad.Net} {p : Nat} {s : List Nat} {l : List (Nat × List Nat)} : Vbbtaa.readLines Vbtoad.plainSign Vbtoad.lineIn n ((p, s) :: l) = if (Vbbtaa.wordsBy Vbtoad.plainSign p s).isEmpty = true then Vbbtaa.readLines Vbtoad.plainSign Vbtoad.lineIn n l
    else match Vbtoad.lineIn n ⟨Vbbtaa.wordsBy Vbtoad.plainSign p s, p + s.length⟩ with
      | .error e => .error e
      | .ok m => Vbbtaa.readLines Vbtoad.plainSign Vbtoad.lineIn m l := by
  rw [Vbbtaa.readLines]
  by_cases z : (Vbbtaa.wordsBy Vbtoad.plainSign p s).isEmpty = true
  · rw [if_pos z]
    exact (if_pos z).symm
  · rw [if_neg z]
    refine Eq.trans ?_ (if_neg z).symm
    have e : Vbbtaa.restOf Vbtoad.plainSign (p, s).1 (p, s).2 = ⟨Vbbtaa.wordsBy Vbtoad.plainSign p s, p + s.length⟩ := rfl
    rw [e]
    cases Vbtoad.lineIn n ⟨Vbbtaa.wordsBy Vbtoad.plainSign p s, p + s.length⟩ <;> rfl
/-- the places behind lines rise -/
theorem endsP_rise : ∀ (t : List Nat) (p i e e' : Nat), (endsP p t)[i]? = some e → (endsP p t)[i + 1]? = some e' → e + 1 ≤ e'
  | [], p, i, e, e', _, h' => by
    unfold endsP at h'
    simp at h'
  | c :: r, p, i, e, e', h, h' => by
    unfold endsP at h h'
    by_cases z : c = 10
    · rw [if_pos z] at h h'
      cases i with
      | zero =>
        cases h
        exact (endsP_ge r (p + 1) e' (List.mem_of_getElem? (i := 0) h')).1
      | succ i => exact endsP_rise r (p + 1) i e e' h h'
    · rw [if_neg z] at h h'
      exact endsP_rise r (p + 1) i e e' h h'
def sp_read_net (K : PySem.W.Frag) : Sp := fun vs H Q E => ∃ (G : Hp) (ta na : Addr) (t : List Nat) (n : Vbtoad.Net), vs = [.ref ta, .ref na] ∧ Ex G H ∧ NameAt G ta t ∧ NetAt K G na n ∧ NetOk n ∧ t.length ≤ 4000 ∧
  (∀ e, Vbtoad.readNet n t = .error e → Faulty K G e.kind e.at_ E) ∧ (∀ n', Vbtoad.readNet n t = .ok n' → NetOk n' → ∀ p H', Ex H H' → NetAt K H' p n' → Q (.ref p) H')
theorem sc_read_net : FnScope ["text", "net", "found", "start", "end", "words"] ["text", "net"] (defScope s_read_net) := ⟨rfl, rfl, rfl, by decide +kernel, rfl, by decide +kernel, by decide +kernel⟩
theorem ok_read_net {P : Program} {w : World} {K : PySem.W.Frag} {mg : Str → Option Value} {base : Heap} (T : Txt w K mg) : OkD P w K mg base (L2.CX P w) 8 (He.ga K "read_net") ["text", "net"] (sp_read_net K) := by
  obtain ⟨fd_ends_of_lines, G_ends_of_lines, B_ends_of_lines, K_ends_of_lines⟩ := ok_ends_of_lines (P := P) (w := w) (base := base) T
  obtain ⟨fd_read_line, G_read_line, B_read_line, K_read_line⟩ := ok_read_line (P := P) (w := w) (base := base) T
  obtain ⟨fd_Line_init, G_Line_init, B_Line_init, K_Line_init⟩ := ok_Line_init (P := P) (w := w) (base := base) T
  obtain ⟨fd_words_between, G_words_between, B_words_between, K_words_between⟩ := ok_words_between (P := P) (w := w) (base := base) T
  obtain ⟨fd_Net_init, G_Net_init, B_Net_init, K_Net_init⟩ := ok_Net_init (P := P) (w := w) (base := base) T
  obtain ⟨fd, F⟩ := T.f_read_net
  refine ⟨fd, F.ok sc_read_net (fun vs H Q E h => ?_) (fun cdv A outer s H vs Q E hr h => ?_), F.bindsN fun _ _ _ _ _ _ us hl => match us, hl with | [_, _], _ => rfl, F.kp⟩
  · obtain ⟨G, ta, na, t, n, rfl, eG, ht, hn, ok, hlen, bad, good⟩ := h
    rfl
  · refine ⟨_, (pss_cons (ps_set (i := 2) sc_read_net.nd rfl (Or.inl rfl) (pe_make T.k_Net G_Net_init (hr.mono (by decide)) rfl T.g_Net B_Net_init .nil pass0 (pa_cons (pe_fld (pv 1) rfl) (pa_cons (pe_fld (pv 1) rfl) (pa_cons (pe_fld (pv 1) rfl) pa_nil))))) (pss_cons (ps_set (i := 3) sc_read_net.nd rfl (Or.inl rfl) pe_int) (pss_cons (ps_for (passes_of rfl) rfl (pi_list (pe_call G_ends_of_lines (hr.mono (by decide)) rfl T.g_ends_of_lines K_ends_of_lines B_ends_of_lines .nil pass0 (pa_cons (pv 0) pa_nil))) (pg_name (i := 4) sc_read_net.nd rfl (Or.inl rfl)) (pss_cons (ps_set (i := 5) sc_read_net.nd rfl (Or.inl rfl) (pe_call G_words_between (hr.mono (by decide)) rfl T.g_words_between K_words_between B_words_between .nil pass0 (pa_cons (pv 0) (pa_cons (pv 3) (pa_cons (pv 4) pa_nil))))) (pss_cons (ps_if (pt_cmpR (op_neD hr.units) (pv 5) (pe_lst pa_nil) (nomark _)) (pss_one (ps_expr (pe_call G_read_line (hr.mono (by decide)) rfl T.g_read_line K_read_line B_read_line .nil (passes_call (E := E) (takes_of rfl rfl rfl rfl) fun _ _ _ _ h => h) (pa_cons (pv 2) (pa_cons (pe_make T.k_Line G_Line_init (hr.mono (by decide)) rfl T.g_Line B_Line_init .nil pass0 (pa_cons (pv 5) (pa_cons (pv 4) pa_nil))) pa_nil))))) pss_nil) (pss_one (ps_set (i := 3) sc_read_net.nd rfl (Or.inl rfl) (pe_op op_add (pv 4) pe_int)))))) (pss_one (ps_ret (pv 2)))))), ?_⟩
    obtain ⟨G, ta, na, t, n, rfl, eG, ht, hn, ok, hlen, bad, good⟩ := h
    obtain ⟨pl0, cl0, gl0, ⟨dn, hno⟩, ⟨ps, p1, p2⟩, ⟨cs, c1, c2⟩, ⟨gs, g1, g2⟩⟩ := id hn
    have hn0 := eG _ _ hno
    have en : EvNet K (tMake (cNet K) (sp_Net_init K) [] E0 (tCons (tFld K (tVar 1) "places") (tCons (tFld K (tVar 1) "cars") (tCons (tFld K (tVar 1) "goes") tNil)))) [some (.ref ta), some (.ref na), none, none, none, none] H (ps.map V.ref) (cs.map V.ref) (gs.map V.ref) :=
      enet_make fun H1 e1 Q' q => (ea_cons (ev_fld (ev_var rfl) hn0 T.c_Net T.n_Net_places lNet_places) (ea_cons (ev_fld (ev_var rfl) hn0 T.c_Net T.n_Net_cars lNet_cars) (ea_cons (ev_fld (ev_var rfl) hn0 T.c_Net T.n_Net_goes lNet_goes) ea_nil))) H1 e1 _ fun H2 e2 =>
        q _ H2 e2 ⟨_, _, _, rfl, sq_of ((e1.trans e2) _ _ (eG _ _ p1)), sq_of ((e1.trans e2) _ _ (eG _ _ c1)), sq_of ((e1.trans e2) _ _ (eG _ _ g1))⟩
    refine q_asgNet en fun p dx pl cl gl H2 hp hnew e2 hobj hpl hcl hgl => ?_
    have exA : Ex G (noRows [pl, cl, gl] H2) := fun b o hb => noRows_at (e2 _ _ (eG _ _ hb)) fun z => by
      have h0 := eG _ _ hb
      simp only [List.mem_cons, List.not_mem_nil, or_false] at z
      rcases z with z | z | z
      · rw [z, hnew.na] at h0; cases h0
      · rw [z, hnew.nb] at h0; cases h0
      · rw [z, hnew.nc] at h0; cases h0
    have N0 : NetSt K H H2 p pl cl gl n := ⟨e2, hnew.na, hnew.nb, hnew.nc, hnew.ab, hnew.ac, hnew.bc, ⟨dx, hobj⟩, ⟨ps, hpl, paired_mono (fun _ _ z => z.ex exA) p2⟩, ⟨cs, hcl, paired_mono (fun _ _ z => z.ex exA) c2⟩, ⟨gs, hgl, paired_mono (fun _ _ z => z.ex exA) g2⟩⟩
    refine q_asg ev_c fun H3 e3 => ?_
    have len : ∀ {i : Nat} {e : Nat}, (endsP 0 t)[i]? = some e → e ≤ t.length := fun h => by
      have := (endsP_ge t 0 _ (List.mem_of_getElem? h)).2
      omega
    have start0 : Vbtoad.readNet n t = Vbbtaa.readLines Vbtoad.plainSign Vbtoad.lineIn n (linesAt t 0 ((endsP 0 t).drop 0)) := by
      unfold Vbtoad.readNet Vbbtaa.readText
      rw [lines_eq]
      rfl
    refine q_forNLn (xs := (endsP 0 t).map nV) (el_call (ea_cons (ev_var rfl) ea_nil) (spl_pure ⟨ta, t, rfl, ht.ex (eG.trans (e2.trans e3)), hlen, rfl⟩))
      (fun l i σ' H' => ∃ (s : Nat) (m : Vbtoad.Net) (x4 x5 : Option V), σ' = [some (.ref ta), some (.ref na), some (.ref p), some (nV s), x4, x5] ∧ H3 l = none ∧ H' l = some (.lst ((endsP 0 t).map nV)) ∧ NetSt K H H' p pl cl gl m ∧ NetOk m ∧
        Vbtoad.readNet n t = Vbbtaa.readLines Vbtoad.plainSign Vbtoad.lineIn m (linesAt t s ((endsP 0 t).drop i)) ∧ (∀ e, (endsP 0 t)[i]? = some e → s ≤ e))
      (fun l H4 hl e4 h4 => ⟨0, n, _, _, rfl, hl, h4, N0.ex (e3.trans e4), ok, start0, fun e _ => Nat.zero_le _⟩) (fun l i σ' H' _ q => by
        obtain ⟨_, _, _, _, _, _, h, _⟩ := q
        exact sq_of h) ?_ ?_
    · rintro l i x σ' H' hx ⟨s, m, x4, x5, rfl, hl, hll, N, okm, hR, hsl⟩
      rw [List.getElem?_map] at hx
      obtain ⟨e, he, rfl⟩ := Option.map_eq_some_iff.mp hx
      have hse := hsl e he
      have hel := len he
      have lseg : s + (seg t s e).length = e := by
        unfold seg
        rw [List.length_take, List.length_drop]
        omega
      rw [dropC he] at hR
      have hR2 : Vbtoad.readNet n t = Vbbtaa.readLines Vbtoad.plainSign Vbtoad.lineIn m ((s, seg t s e) :: linesAt t (e + 1) ((endsP 0 t).drop (i + 1))) := hR
      rw [readLines_cons, lseg] at hR2
      have nxt : ∀ e', (endsP 0 t)[i + 1]? = some e' → e + 1 ≤ e' := fun e' h' => endsP_rise t 0 i e e' he h'
      refine x_call (ea_cons (ev_var rfl) (ea_cons (ev_var rfl) (ea_cons (ev_var rfl) ea_nil))) fun H5 e5 => ⟨H5, ta, t, s, e, rfl, Ex.refl _, ht.ex (eG.trans (N.eG.trans e5)), hse, hel, hlen, fun wl H6 e6 hwl hW => ?_⟩
      have e56 := e5.trans e6
      obtain ⟨sm1, sm2⟩ := words_small (seg t s e) s
      have lseg2 : (seg t s e).length ≤ 4000 := by omega
      generalize hws : Vbbtaa.wordsBy Vbtoad.plainSign s (seg t s e) = ws at hR2 hW sm1 sm2
      refine q_when (b := !ws.isEmpty) (et_test (ev_opL (ev_var rfl) (el_lst ea_nil (by show 0 ≤ 100000; omega)) fun q H7 hq e7 => rv_neWords ((hW.ex newIn_ex).ex e7) hq)) (fun hb H7 e7 => ?_) (fun hb H7 e7 => ?_)
      · have nemp : ¬ ws.isEmpty = true := by
          intro z
          rw [z] at hb
          cases hb
        rw [if_neg nemp] at hR2
        obtain ⟨x, hx0⟩ : ∃ x, ws[0]? = some x := by
          cases ws with
          | nil => exact absurd rfl nemp
          | cons w r => exact ⟨w, rfl⟩
        have N7 := N.ex (e56.trans e7)
        have ei : EvI (tMake (cLine K) (sp_Line_init K) [] E0 (tCons (tVar 5) (tCons (tVar 4) tNil))) [some (.ref ta), some (.ref na), some (.ref p), some (nV s), some (nV e), some (.ref wl)] H7 (cLine K) (FLine (.ref wl) (nV e) (nV 0)) :=
          ei_make (ea_cons (ev_var rfl) (ea_cons (ev_var rfl) ea_nil)) fun H8 q dq Q' e8 h8 hq => ⟨q, dq, _, _, rfl, h8, hq⟩
        refine ⟨_, rfl, ei H7 (Ex.refl _) _ fun la dla H8 hla e8 h8 => ?_⟩
        have wnew : WordsAt (noRows [pl, cl, gl] H7) wl ws := hW.ex fun b o hb => noRows_at (e7 _ _ (newIn_ex _ _ hb)) (N.old e5 (newIn_none hb))
        have lnot : l ∉ [pl, cl, gl] := fun z => by
          simp only [List.mem_cons, List.not_mem_nil, or_false] at z
          rcases z with z | z | z
          · rw [z, e3 _ _ hpl] at hl; cases hl
          · rw [z, e3 _ _ hcl] at hl; cases hl
          · rw [z, e3 _ _ hgl] at hl; cases hl
        have eHA : Ex H (noRows [pl, cl, gl] H7) := fun b o hb => noRows_at (N7.eG _ _ hb) fun z => by
          simp only [List.mem_cons, List.not_mem_nil, or_false] at z
          rcases z with z | z | z
          · rw [z, N7.fp] at hb; cases hb
          · rw [z, N7.fc] at hb; cases hb
          · rw [z, N7.fg] at hb; cases hb
        have N7A : NetSt K (noRows [pl, cl, gl] H7) H7 p pl cl gl m := ⟨noRows_ex, noRows_none (by simp), noRows_none (by simp), noRows_none (by simp), N7.pc, N7.pg, N7.cg, N7.obj, N7.lp, N7.lc, N7.lg⟩
        refine ⟨noRows [pl, cl, gl] H7, H7, p, pl, cl, gl, la, wl, ws, e, m, x, rfl, N7A, okm, ⟨e8, hla, ⟨dla, h8⟩, (hW.ex newIn_ex).ex e7, Nat.zero_le _, by omega⟩, wnew, fun w hw => by have := sm2 w hw; omega, hx0, fun er her => ?_, fun n' hn' H9 N9 => ?_⟩
        · refine ((bad er ?_).up eG).up eHA
          rw [hR2]
          have : Vbtoad.lineIn m ⟨ws, e⟩ = .error er := her
          rw [this]
        · have hn2 : Vbtoad.lineIn m ⟨ws, e⟩ = .ok n' := hn'
          rw [hn2] at hR2
          have N9H : NetSt K H H9 p pl cl gl n' := ⟨eHA.trans N9.eG, N7.fp, N7.fc, N7.fg, N9.pc, N9.pg, N9.cg, N9.obj, N9.lp, N9.lc, N9.lg⟩
          have l9 : H9 l = some (.lst ((endsP 0 t).map nV)) := N9.eG _ _ (noRows_at ((e56.trans e7) _ _ hll) lnot)
          exact s_asg (v := nV (e + 1)) (ev_is (ev_op (ev_var rfl) ev_c rv_I0) (congrArg V.int (by omega))) fun H10 e10 => ⟨e + 1, n', _, _, rfl, hl, e10 _ _ l9, N9H.ex e10, line_ok okm hn2, hR2, nxt⟩
      · have emp : ws.isEmpty = true := by
          cases z : ws.isEmpty with
          | true => rfl
          | false => rw [z] at hb; cases hb
        rw [if_pos emp] at hR2
        exact s_asg (v := nV (e + 1)) (ev_is (ev_op (ev_var rfl) ev_c rv_I0) (congrArg V.int (by omega))) fun H10 e10 => ⟨e + 1, m, _, _, rfl, hl, (e56.trans (e7.trans e10)) _ _ hll, N.ex (e56.trans (e7.trans e10)), okm, hR2, nxt⟩
    · rintro l σ' H' ⟨s, m, x4, x5, rfl, hl, hll, N, okm, hR, hsl⟩
      rw [List.length_map, List.drop_length] at hR
      refine s_ret (ev_var rfl) fun H4 e4 => good m hR okm p H4 ((N.ex e4).eG) ⟨pl, cl, gl, (N.ex e4).at_⟩
end SJ
/-! Texts: a net is written. -/
namespace SJ
open PySem PySem.Spec PyProof.Rows L2 Evl LamX
theorem spaced_cons (w : List Nat) (r : List (List Nat)) : Vbbtaa.spaced (w :: r) = w ++ r.flatMap fun x => 32 :: x := by
  induction r generalizing w with
  | nil => exact (List.append_nil w).symm
  | cons x l ih =>
    show w ++ (32 :: Vbbtaa.spaced (x :: l)) = _
    rw [ih x, List.flatMap_cons]
    rfl
theorem chars_of (s : String) : (Str.ofString s).cps.toList = Vbbtaa.chars s := by
  rw [Str.ofString_eq_toList]
  rfl
/-- list(x) -/
theorem el_listOf {K : PySem.W.Frag} {σ : L2.St} {H : Hp} {te : TE} {p : Addr} {xs : List V} (h : Ev te σ H (.ref p)) (hx : SqL K H p xs) : EvL (tCB (fun vs H Q => ∃ p ys, vs = [V.ref p] ∧ (SqL K H p ys ∨ SqT K H p ys) ∧ ∀ l, H l = none → Q (.ref l) (upd H l (.lst ys))) (tCons te tNil)) σ H xs := fun H1 e Q q =>
  h H1 e _ fun H2 e2 => ⟨p, xs, rfl, .inl (ex_l (e.trans e2) hx), fun l hl => q l _ (fresh_back e2 hl) (e2.trans (Ex.new hl)) upd_same⟩
def sp_row_of (K : PySem.W.Frag) : Sp := PureL fun vs G xs => ∃ (wl : Addr) (w : List Nat) (ws : List (List Nat)), vs = [.ref wl] ∧ ThingsAt NameAt G wl (w :: ws) ∧ ws.length ≤ 10 ∧ (∀ x ∈ w :: ws, x.length ≤ 100) ∧ xs = (Vbbtaa.spaced (w :: ws) ++ [10]).map nV
theorem sc_row_of : FnScope ["words", "found", "word"] ["words"] (defScope s_row_of) := ⟨rfl, rfl, rfl, by decide +kernel, rfl, by decide +kernel, by decide +kernel⟩
theorem ok_row_of {P : Program} {w : World} {K : PySem.W.Frag} {mg : Str → Option Value} {base : Heap} (T : Txt w K mg) : OkD P w K mg base CX0 1 (He.ga K "row_of") ["words"] (sp_row_of K) := by
  obtain ⟨fd, F⟩ := T.f_row_of
  refine ⟨fd, F.ok sc_row_of (fun vs H Q E h => ?_) (fun cdv A outer s H vs Q E hr h => ?_), F.bindsN fun _ _ _ _ _ _ us hl => match us, hl with | [_], _ => rfl, F.kp⟩
  · obtain ⟨xs, G, eG, ⟨wl, w, ws, rfl, hw, hlen, hsz, rfl⟩, k⟩ := h
    rfl
  · refine ⟨_, PSs.nox (pss_cons (ps_set (i := 1) sc_row_of.nd rfl (Or.inl rfl) (pe_callTy call_list_of (by rfl) T.b_list (by decide +kernel) (pa_cons (pe_ix ix_list (pv 0) pe_int (fun _ _ => rfl)) pa_nil))) (pss_cons (ps_for PassesOwn.never rfl (pi_list (pe_slice sl_list (pv 0) (po_some pe_int) po_none)) (pg_name (i := 2) sc_row_of.nd rfl (Or.inl rfl)) (pss_one (ps_set (i := 1) sc_row_of.nd rfl (Or.inl rfl) (pe_op op_cat (pe_op op_cat (pv 1) (pe_lst (pa_cons (pe_gint T.i_BLANK) pa_nil))) (pv 2))))) (pss_one (ps_ret (pe_op op_cat (pv 1) (pe_lst (pa_cons (pe_gint T.i_LINE_END) pa_nil))))))), ?_⟩
    obtain ⟨xs, G, eG, ⟨wl, w, ws, rfl, hw, hlen, hsz, rfl⟩, k⟩ := h
    obtain ⟨as, h1, h2⟩ := hw
    cases h2 with
    | @cons a0 _ as' _ r t =>
    have h1' := eG _ _ h1
    have la : as'.length = ws.length := paired_len t
    refine q_asgL (el_listOf (ev_ixL (i := 0) (ev_var rfl) ev_c h1' rfl) (sq_of (eG _ _ r))) fun fl H1 hfl e1 hf => ?_
    have bound : ∀ i, ((ws.take i).flatMap fun x => 32 :: x).length ≤ 101 * i := fun i => by
      induction i with
      | zero => rw [List.take_zero]; exact Nat.zero_le _
      | succ i ih =>
        rw [List.take_add_one, List.flatMap_append, List.length_append]
        cases e : ws[i]? with
        | none =>
          show _ + 0 ≤ _
          omega
        | some x =>
          have := hsz x (List.mem_cons_of_mem _ (List.mem_of_getElem? e))
          have e2 : ((some x).toList.flatMap fun x => 32 :: x).length = x.length + 1 := by
            show (32 :: x ++ []).length = _
            rw [List.append_nil, List.length_cons]
          rw [e2]
          omega
    have wl0 := hsz w (List.mem_cons_self ..)
    refine q_forNLn (xs := as'.map V.ref) (el_is (el_sl (ev_var rfl) (eo_some ev_c) eo_none (sq_of (e1 _ _ h1'))) (by
        show cutV _ (some ((1 : Nat) : Int)) none = _
        rw [cut_drop (by rw [List.length_map, List.length_cons]; omega)]
        rfl))
      (fun l i σ' H' => (∃ (f : Addr) (x2 : Option V), σ' = [some (.ref wl), some (.ref f), x2] ∧ H' f = some (.lst ((w ++ (ws.take i).flatMap fun x => 32 :: x).map nV))) ∧ Ex H1 H' ∧ H' l = some (.lst (as'.map V.ref)))
      (fun l H2 hl e2 h2 => ⟨⟨fl, _, rfl, by rw [List.take_zero, List.flatMap_nil, List.append_nil]; exact e2 _ _ hf⟩, e2, h2⟩) (fun l i σ' H' _ q => sq_of q.2.2) ?_ ?_
    · rintro l i x σ' H' hx ⟨⟨f, x2, rfl, hH⟩, eH, hl⟩
      rw [List.getElem?_map] at hx
      obtain ⟨wa, hwa, rfl⟩ := Option.map_eq_some_iff.mp hx
      have hi := (List.getElem?_eq_some_iff.mp hwa).1
      obtain ⟨y, hy⟩ : ∃ y, ws[i]? = some y := ⟨_, List.getElem?_eq_getElem (by omega)⟩
      obtain ⟨wa', q1, q2⟩ := paired_at t hy
      rw [hwa] at q1
      cases q1
      have ly := hsz y (List.mem_cons_of_mem _ (List.mem_of_getElem? hy))
      have bi := bound i
      have hname := q2.ex (eG.trans (e1.trans eH))
      refine s_asgL (xs := (w ++ (ws.take (i + 1)).flatMap fun x => 32 :: x).map nV) (el_is (el_catR (el_catV (ev_var rfl) hH (el_lst (ea_cons ev_c ea_nil) (by show 1 ≤ 100000; decide)) ?_) (ev_var rfl) hname ?_) ?_) fun f2 H2 hf2 e2 h2 => ⟨⟨f2, _, rfl, h2⟩, eH.trans e2, e2 _ _ hl⟩
      · rw [List.length_map, List.length_append]
        show _ + 1 ≤ 100000
        omega
      · rw [List.length_append, List.length_map, List.length_append, List.length_map]
        show _ + 1 + _ ≤ 100000
        omega
      · simp only [List.take_add_one, hy, List.flatMap_append, List.map_append, List.append_assoc, Option.toList_some, List.flatMap_cons, List.flatMap_nil, List.append_nil, List.map_cons, List.cons_append, List.nil_append]
        rfl
    · rintro l σ' H' ⟨⟨f, x2, rfl, hH⟩, eH, hl⟩
      rw [List.length_map, la, List.take_length] at hH
      have bi := bound ws.length
      rw [List.take_length] at bi
      refine s_retL (el_is (el_catV (ev_var rfl) hH (el_lst (ea_cons ev_c ea_nil) (by show 1 ≤ 100000; decide)) ?_) ?_) fun p H2 hp e2 h2 => k p H2 (fresh_back (e1.trans eH) hp) ((e1.trans eH).trans e2) h2
      · rw [List.length_map, List.length_append]
        show _ + 1 ≤ 100000
        omega
      · rw [spaced_cons]
        simp only [List.map_append, List.map_cons, List.map_nil]
        rfl
end SJ
/-! Texts: a net is written. -/
namespace SJ
open PySem PySem.Spec PyProof.Rows L2 Evl LamX
theorem dec_of (n : Nat) : (Str.ofString (toString ((n : Nat) : Int))).cps.toList = Vbbtaa.decimal n := chars_of _
theorem dec_len {n : Nat} (h : n < 10 ^ 6) : (Vbbtaa.decimal n).length ≤ 7 := by
  rw [← dec_of, chars_of]
  unfold Vbbtaa.chars
  rw [List.length_map]
  exact int_text_length_le10 (a := (n : Int)) (by decide) (by simpa using h)
/-- bytes_of(str(e)) -/
theorem el_dec {K : PySem.W.Frag} {σ : L2.St} {H : Hp} {te : TE} {n : Nat} (h : Ev te σ H (.int (n : Int))) (hn : n < 10 ^ 6) : EvL (tCall (sp_bytes_of K) [] E0 (tCons (tCB (fun xs H Q => ∃ i : Int, xs = [V.int i] ∧ i.natAbs.log2 < 1920 ∧ Q (.str (toString i)) H) (tCons te tNil)) tNil)) σ H ((Vbbtaa.decimal n).map nV) := by
  have ev : Ev (tCB (fun xs H Q => ∃ i : Int, xs = [V.int i] ∧ i.natAbs.log2 < 1920 ∧ Q (.str (toString i)) H) (tCons te tNil)) σ H (.str (Str.ofString (toString ((n : Nat) : Int)))) := fun H1 e Q q => h H1 e _ fun H2 e2 => ⟨(n : Int), rfl, by
    show Nat.log2 ((n : Int)).natAbs < 1920
    rw [Int.natAbs_natCast]
    by_cases z : n = 0
    · rw [z]
      decide
    · exact Nat.lt_of_lt_of_le ((Nat.log2_lt z).mpr (Nat.lt_of_lt_of_le hn (by decide : 10 ^ 6 ≤ 2 ^ 20))) (by decide), q H2 e2⟩
  refine el_call (ea_cons ev ea_nil) (spl_pure ⟨_, rfl, ?_, by rw [dec_of]⟩)
  have := dec_len hn
  rw [← dec_of, Array.length_toList] at this
  omega
/-- bytes_of("..") -/
theorem el_txt {K : PySem.W.Frag} {σ : L2.St} {H : Hp} {s : String} (h : (Vbbtaa.chars s).length ≤ 1000) : EvL (tCall (sp_bytes_of K) [] E0 (tCons (tC (.str (Str.ofString s))) tNil)) σ H ((Vbbtaa.chars s).map nV) := by
  refine el_call (ea_cons ev_c ea_nil) (spl_pure ⟨_, rfl, ?_, by rw [chars_of]⟩)
  rw [← chars_of, Array.length_toList] at h
  exact h
/-! ### lists of words that are made -/
def EvAW (ta : TA) (σ : L2.St) (H : Hp) (ws : List (List Nat)) : Prop := ∀ H1, Ex H H1 → ∀ Q : List V → Hp → Prop, (∀ as H2, Ex H1 H2 → Paired (NameAt H2) as ws → Q (as.map V.ref) H2) → ta σ H1 Q
def EvW (te : TE) (σ : L2.St) (H : Hp) (ws : List (List Nat)) : Prop := ∀ H1, Ex H H1 → ∀ Q : VK, (∀ p as H2, H1 p = none → Ex H1 H2 → H2 p = some (.lst (as.map V.ref)) → Paired (NameAt H2) as ws → p ∉ as → Q (.ref p) H2) → te σ H1 Q
theorem names_out {H : Hp} {as : List Addr} {ws : List (List Nat)} {p : Addr} (h : Paired (NameAt H) as ws) (hp : H p = none) : p ∉ as := by
  induction h with
  | nil => simp
  | cons r _ ih =>
    intro z
    rcases List.mem_cons.mp z with z | z
    · have r' : H _ = some _ := r
      rw [← z, hp] at r'
      cases r'
    · exact ih z
section
variable {K : PySem.W.Frag} {σ : L2.St} {H : Hp} {te : TE} {ta : TA} {t : List Nat} {ws us : List (List Nat)} {a : Addr} {D : Ends} {tz : TS}
theorem eaw_nil : EvAW tNil σ H [] := fun H1 _ Q q => q [] H1 (Ex.refl H1) .nil
theorem eaw_consL (h : EvL te σ H (t.map nV)) (hr : EvAW ta σ H ws) : EvAW (tCons te ta) σ H (t :: ws) := fun H1 e Q q =>
  h H1 e _ fun p H2 _ e2 h2 => hr H2 (e.trans e2) _ fun as H3 e3 hp => q (p :: as) H3 (e2.trans e3) (.cons (e3 _ _ h2) hp)
theorem eaw_consV (h : Ev te σ H (.ref a)) (ha : NameAt H a t) (hr : EvAW ta σ H ws) : EvAW (tCons te ta) σ H (t :: ws) := fun H1 e Q q =>
  h H1 e _ fun H2 e2 => hr H2 (e.trans e2) _ fun as H3 e3 hp => q (a :: as) H3 (e2.trans e3) (.cons (ha.ex ((e.trans e2).trans e3)) hp)
theorem ew_lst (h : EvAW ta σ H ws) (hl : ws.length ≤ 100) : EvW (tLst ta) σ H ws := fun H1 e Q q =>
  h H1 e _ fun as H2 e2 hp => ⟨by
    rw [List.length_map, paired_len hp]
    exact sz_of (by omega), fun p hn => q p as _ (fresh_back e2 hn) (e2.trans (Ex.new hn)) upd_same (paired_mono (fun _ _ z => z.ex (Ex.new hn)) hp) (names_out hp hn)⟩
theorem ew_cat (h : Ev te σ H (.ref a)) (ha : ThingsAt NameAt H a ws) {tb : TE} (h' : EvW tb σ H us) (hl : ws.length + us.length ≤ 100) : EvW (tOp rCat te tb) σ H (ws ++ us) := fun H1 e Q q => by
  obtain ⟨as, a1, a2⟩ := ha
  refine h H1 e _ fun H2 e2 => h' H2 (e.trans e2) _ fun m bs H3 hm e3 b1 b2 _ => ?_
  have pa : Paired (NameAt H3) (as ++ bs) (ws ++ us) := paired_app (paired_mono (fun _ _ z => z.ex ((e.trans e2).trans e3)) a2) b2
  refine ⟨a, m, as.map V.ref, bs.map V.ref, rfl, rfl, ((e.trans e2).trans e3) _ _ a1, b1, sz_of (by rw [List.length_map, List.length_map, paired_len a2, paired_len b2]; omega), fun p hp => q p (as ++ bs) _ (fresh_back (e2.trans e3) hp) ((e2.trans e3).trans (Ex.new hp)) (by rw [List.map_append]; exact upd_same) (paired_mono (fun _ _ z => z.ex (Ex.new hp)) pa) (names_out pa hp)⟩
theorem el_row {w : List Nat} (h : EvW te σ H (w :: ws)) (hl : ws.length ≤ 10) (hs : ∀ x ∈ w :: ws, x.length ≤ 100) : EvL (tCall (sp_row_of K) [] E0 (tCons te tNil)) σ H ((Vbbtaa.spaced (w :: ws) ++ [10]).map nV) := fun H1 e Q q =>
  h H1 e _ fun p as H2 _ e2 h1 h2 _ => ⟨_, H2, Ex.refl _, ⟨p, w, ws, rfl, ⟨as, h1, h2⟩, hl, hs, rfl⟩, fun r H3 hr e3 h3 => q r H3 (fresh_back e2 hr) (e2.trans e3) h3⟩
theorem el_rowV {w : List Nat} (h : Ev te σ H (.ref a)) (ha : ThingsAt NameAt H a (w :: ws)) (hl : ws.length ≤ 10) (hs : ∀ x ∈ w :: ws, x.length ≤ 100) : EvL (tCall (sp_row_of K) [] E0 (tCons te tNil)) σ H ((Vbbtaa.spaced (w :: ws) ++ [10]).map nV) := fun H1 e Q q =>
  h H1 e _ fun H2 e2 => ⟨_, H2, Ex.refl _, ⟨a, w, ws, rfl, ThingsAt.ex (fun _ _ z => z.ex (e.trans e2)) ha (e.trans e2), hl, hs, rfl⟩, fun r H3 hr e3 h3 => q r H3 (fresh_back e2 hr) (e2.trans e3) h3⟩
theorem q_asgW {i : Nat} (h : EvW te σ H ws) (k : ∀ p as H1, H p = none → Ex H H1 → H1 p = some (.lst (as.map V.ref)) → Paired (NameAt H1) as ws → p ∉ as → tz D (σ.set i (some (.ref p))) H1) : tSeq (tAsg te (gName i)) tz D σ H := h H (Ex.refl H) _ k
end
def placeRow (p : Vbtoad.Place) : List Nat := Vbbtaa.spaced ([Vbbtaa.chars "place", p.name] ++ (if p.handling = 0 then [] else [Vbbtaa.decimal p.handling])) ++ [10]
def carRow (n : Vbtoad.Net) (c : Vbtoad.Car) : List Nat := Vbbtaa.spaced [Vbbtaa.chars "car", c.name, Vbtoad.placeName n c.from_, Vbtoad.placeName n c.to_, Vbbtaa.decimal c.long] ++ [10]
def goRow (n : Vbtoad.Net) (g : Vbtoad.Go) : List Nat := Vbbtaa.spaced [Vbbtaa.chars "go", g.name, Vbtoad.placeName n g.from_, Vbbtaa.decimal g.dep, Vbtoad.placeName n g.to_, Vbbtaa.decimal g.arr] ++ [10]
theorem written_eq (n : Vbtoad.Net) : Vbtoad.written n = n.places.flatMap placeRow ++ (n.cars.flatMap (carRow n) ++ n.goes.flatMap (goRow n)) := by
  unfold Vbtoad.written
  rw [List.flatMap_append, List.flatMap_append, List.flatMap_map, List.flatMap_map, List.flatMap_map]
  rfl
theorem paired_upd {H : Hp} {as : List Addr} {ws : List (List Nat)} {p : Addr} {o : HO} (h : Paired (NameAt H) as ws) (hp : p ∉ as) : Paired (NameAt (upd H p o)) as ws := by
  induction h with
  | nil => exact .nil
  | @cons a _ _ _ r _ ih =>
    exact .cons ((upd_ne (fun z => hp (by rw [z]; exact List.mem_cons_self ..))).trans r) (ih fun z => hp (List.mem_cons_of_mem _ z))
theorem row_len {ws : List (List Nat)} (h : ws.length ≤ 6) (hs : ∀ x ∈ ws, x.length ≤ 100) : (Vbbtaa.spaced ws ++ [10]).length ≤ 700 := by
  have key : ∀ l : List (List Nat), (∀ x ∈ l, x.length ≤ 100) → (l.flatMap fun x => 32 :: x).length ≤ 101 * l.length := by
    intro l
    induction l with
    | nil => exact fun _ => Nat.le_refl _
    | cons x l ih =>
      intro hl
      have h1 := ih fun y hy => hl y (List.mem_cons_of_mem _ hy)
      have h2 := hl x (List.mem_cons_self ..)
      rw [List.flatMap_cons, List.length_append, List.length_cons, List.length_cons]
      omega
  rw [List.length_append]
  cases ws with
  | nil => exact (by decide : 0 + 1 ≤ 700)
  | cons w r =>
    rw [spaced_cons, List.length_append]
    have h1 := hs w (List.mem_cons_self ..)
    have h2 := key r fun x hx => hs x (List.mem_cons_of_mem _ hx)
    rw [List.length_cons] at h
    show _ + 1 ≤ 700
    omega
theorem flat_len {α : Type} {f : α → List Nat} {l : List α} (h : ∀ x ∈ l, (f x).length ≤ 700) : (l.flatMap f).length ≤ 700 * l.length := by
  induction l with
  | nil => exact Nat.le_refl _
  | cons x l ih =>
    have h1 := ih fun y hy => h y (List.mem_cons_of_mem _ hy)
    have h2 := h x (List.mem_cons_self ..)
    rw [List.flatMap_cons, List.length_append, List.length_cons]
    omega
theorem names_of {K : PySem.W.Frag} {G : Hp} {as : List Addr} {ps : List Vbtoad.Place} (h : Paired (PlaceAt K G) as ps) : ∃ nms : List Addr, Paired (fun (a : Addr) (nm : Addr) => ∃ dx hd, G a = some (.ins (cPlace K) dx (FPlace (.ref nm) hd))) as nms ∧ Paired (NameAt G) nms (ps.map (·.name)) := by
  induction h with
  | nil => exact ⟨[], .nil, .nil⟩
  | cons r _ ih =>
    obtain ⟨nms, h1, h2⟩ := ih
    obtain ⟨dx, na, q1, q2⟩ := r
    exact ⟨na :: nms, .cons ⟨dx, _, q1⟩ h1, .cons q2 h2⟩
theorem place_words {p : Vbtoad.Place} (ok : PlaceOk p) : ∀ x ∈ [Vbbtaa.chars "place", p.name] ++ (if p.handling = 0 then [] else [Vbbtaa.decimal p.handling]), x.length ≤ 100 := fun x hx => by
  have o1 := ok.long.2
  have o2 := ok.hand
  have d := dec_len (n := p.handling) (by omega)
  have c : (Vbbtaa.chars "place").length ≤ 100 := by decide +kernel
  rcases List.mem_append.mp hx with h | h
  · simp only [List.mem_cons, List.not_mem_nil, or_false] at h
    rcases h with rfl | rfl
    · exact c
    · omega
  · split at h
    · cases h
    · cases List.mem_singleton.mp h
      omega
theorem pname_len {n : Vbtoad.Net} (ok : NetOk n) (i : Nat) : (Vbtoad.placeName n i).length ≤ 100 := by
  unfold Vbtoad.placeName
  cases e : n.places[i]? with
  | none => exact Nat.zero_le _
  | some p =>
    have := (ok.p p (List.mem_of_getElem? e)).long.2
    show p.name.length ≤ 100
    omega
theorem car_words {n : Vbtoad.Net} (ok : NetOk n) {c : Vbtoad.Car} (oc : CarOk n.places.length c) : ∀ x ∈ [Vbbtaa.chars "car", c.name, Vbtoad.placeName n c.from_, Vbtoad.placeName n c.to_, Vbbtaa.decimal c.long], x.length ≤ 100 := fun x hx => by
  have d := dec_len (n := c.long) (by have := oc.top; omega)
  have o1 := oc.long.2
  have p1 := pname_len ok c.from_
  have p2 := pname_len ok c.to_
  have k : (Vbbtaa.chars "car").length ≤ 100 := by decide +kernel
  simp only [List.mem_cons, List.not_mem_nil, or_false] at hx
  rcases hx with rfl | rfl | rfl | rfl | rfl <;> omega
theorem go_words {n : Vbtoad.Net} (ok : NetOk n) {g : Vbtoad.Go} (og : GoOk n.places.length g) : ∀ x ∈ [Vbbtaa.chars "go", g.name, Vbtoad.placeName n g.from_, Vbbtaa.decimal g.dep, Vbtoad.placeName n g.to_, Vbbtaa.decimal g.arr], x.length ≤ 100 := fun x hx => by
  have u := og.up
  have tp := og.top
  have d1 := dec_len (n := g.dep) (by omega)
  have d2 := dec_len (n := g.arr) (by omega)
  have o1 := og.long.2
  have p1 := pname_len ok g.from_
  have p2 := pname_len ok g.to_
  have k : (Vbbtaa.chars "go").length ≤ 100 := by decide +kernel
  simp only [List.mem_cons, List.not_mem_nil, or_false] at hx
  rcases hx with rfl | rfl | rfl | rfl | rfl | rfl <;> omega
def sp_net_bytes (K : PySem.W.Frag) : Sp := PureL fun vs G xs => ∃ (na : Addr) (n : Vbtoad.Net), vs = [.ref na] ∧ NetAt K G na n ∧ NetOk n ∧ xs = (Vbtoad.written n).map nV
theorem sc_net_bytes : FnScope ["net", "place", "names", "found", "words", "car", "go"] ["net"] (defScope s_net_bytes) := ⟨rfl, rfl, rfl, by decide +kernel, rfl, by decide +kernel, by decide +kernel⟩
theorem ok_net_bytes {P : Program} {w : World} {K : PySem.W.Frag} {mg : Str → Option Value} {base : Heap} (T : Txt w K mg) : OkD P w K mg base CX0 2 (He.ga K "net_bytes") ["net"] (sp_net_bytes K) := by
  obtain ⟨fd_row_of, G_row_of, B_row_of, K_row_of⟩ := ok_row_of (P := P) (w := w) (base := base) T
  obtain ⟨fd_bytes_of, G_bytes_of, B_bytes_of, K_bytes_of⟩ := ok_bytes_of (P := P) (w := w) (base := base) T
  obtain ⟨fd, F⟩ := T.f_net_bytes
  refine ⟨fd, F.ok sc_net_bytes (fun vs H Q E h => ?_) (fun cdv A outer s H vs Q E hr h => ?_), F.bindsN fun _ _ _ _ _ _ us hl => match us, hl with | [_], _ => rfl, F.kp⟩
  · obtain ⟨xs, G, eG, ⟨na, n, rfl, hn, ok, rfl⟩, k⟩ := h
    rfl
  · refine ⟨_, PSs.nox (pss_cons (ps_setLc (i := 2) (own := [("place", 1)]) (g := (gName 1)) rfl sc_net_bytes.nd rfl rfl (sw_true rfl rfl rfl (by decide +kernel)) (pi_list (pe_fld (pv 0) rfl)) (blkOk_by (own := [("place", 1)]) (N := ["net", "place", "names", "found", "words", "car", "go"]) (sc := defScope s_net_bytes) (by decide +kernel)) (fun _ _ _ _ _ => (pg_name (i := 1) sc_net_bytes.nd rfl (Or.inl rfl))) (fun _ _ _ _ _ => pts_nil) (fun _ _ _ _ _ => (pe_fldK (K := K) rfl (pv 1) rfl))) (pss_cons (ps_set (i := 3) sc_net_bytes.nd rfl (Or.inl rfl) (pe_lst pa_nil)) (pss_cons (ps_for PassesOwn.never rfl (pi_list (pe_fld (pv 0) rfl)) (pg_name (i := 1) sc_net_bytes.nd rfl (Or.inl rfl)) (pss_cons (ps_set (i := 4) sc_net_bytes.nd rfl (Or.inl rfl) (pe_lst (pa_cons (pe_call G_bytes_of (hr.mono (by decide)) rfl T.g_bytes_of K_bytes_of B_bytes_of .nil pass0 (pa_cons pe_str pa_nil)) (pa_cons (pe_fld (pv 1) rfl) pa_nil)))) (pss_cons (ps_if (pt_cmpR op_gt (pe_fld (pv 1) rfl) pe_int (nomark _)) (pss_one (ps_expr (pe_bm PySem.F.plainAttrs_list PySem.F.slot_list_append PySem.F.type_list_append mt_append (pv 4) (pa_cons (pe_call G_bytes_of (hr.mono (by decide)) rfl T.g_bytes_of K_bytes_of B_bytes_of .nil pass0 (pa_cons (pe_callTy call_str_int (by rfl) T.b_str (by decide +kernel) (pa_cons (pe_fld (pv 1) rfl) pa_nil)) pa_nil)) pa_nil)))) pss_nil) (pss_one (ps_expr (pe_bm PySem.F.plainAttrs_list PySem.F.slot_list_extend PySem.F.type_list_extend mt_extend (pv 3) (pa_cons (pe_call G_row_of (hr.mono (by decide)) rfl T.g_row_of K_row_of B_row_of .nil pass0 (pa_cons (pv 4) pa_nil)) pa_nil))))))) (pss_cons (ps_for PassesOwn.never rfl (pi_list (pe_fld (pv 0) rfl)) (pg_name (i := 5) sc_net_bytes.nd rfl (Or.inl rfl)) (pss_one (ps_expr (pe_bm PySem.F.plainAttrs_list PySem.F.slot_list_extend PySem.F.type_list_extend mt_extend (pv 3) (pa_cons (pe_call G_row_of (hr.mono (by decide)) rfl T.g_row_of K_row_of B_row_of .nil pass0 (pa_cons (pe_lst (pa_cons (pe_call G_bytes_of (hr.mono (by decide)) rfl T.g_bytes_of K_bytes_of B_bytes_of .nil pass0 (pa_cons pe_str pa_nil)) (pa_cons (pe_fld (pv 5) rfl) (pa_cons (pe_ix ix_list (pv 2) (pe_fld (pv 5) rfl) (fun _ _ => rfl)) (pa_cons (pe_ix ix_list (pv 2) (pe_fld (pv 5) rfl) (fun _ _ => rfl)) (pa_cons (pe_call G_bytes_of (hr.mono (by decide)) rfl T.g_bytes_of K_bytes_of B_bytes_of .nil pass0 (pa_cons (pe_callTy call_str_int (by rfl) T.b_str (by decide +kernel) (pa_cons (pe_fld (pv 5) rfl) pa_nil)) pa_nil)) pa_nil)))))) pa_nil)) pa_nil))))) (pss_cons (ps_for PassesOwn.never rfl (pi_list (pe_fld (pv 0) rfl)) (pg_name (i := 6) sc_net_bytes.nd rfl (Or.inl rfl)) (pss_cons (ps_set (i := 4) sc_net_bytes.nd rfl (Or.inl rfl) (pe_lst (pa_cons (pe_call G_bytes_of (hr.mono (by decide)) rfl T.g_bytes_of K_bytes_of B_bytes_of .nil pass0 (pa_cons pe_str pa_nil)) (pa_cons (pe_fld (pv 6) rfl) (pa_cons (pe_ix ix_list (pv 2) (pe_fld (pv 6) rfl) (fun _ _ => rfl)) (pa_cons (pe_call G_bytes_of (hr.mono (by decide)) rfl T.g_bytes_of K_bytes_of B_bytes_of .nil pass0 (pa_cons (pe_callTy call_str_int (by rfl) T.b_str (by decide +kernel) (pa_cons (pe_fld (pv 6) rfl) pa_nil)) pa_nil)) (pa_cons (pe_ix ix_list (pv 2) (pe_fld (pv 6) rfl) (fun _ _ => rfl)) pa_nil))))))) (pss_one (ps_expr (pe_bm PySem.F.plainAttrs_list PySem.F.slot_list_extend PySem.F.type_list_extend mt_extend (pv 3) (pa_cons (pe_call G_row_of (hr.mono (by decide)) rfl T.g_row_of K_row_of B_row_of .nil pass0 (pa_cons (pe_op op_cat (pv 4) (pe_lst (pa_cons (pe_call G_bytes_of (hr.mono (by decide)) rfl T.g_bytes_of K_bytes_of B_bytes_of .nil pass0 (pa_cons (pe_callTy call_str_int (by rfl) T.b_str (by decide +kernel) (pa_cons (pe_fld (pv 6) rfl) pa_nil)) pa_nil)) pa_nil))) pa_nil)) pa_nil)))))) (pss_one (ps_ret (pv 3)))))))), ?_⟩
    obtain ⟨xs, G, eG, ⟨na, n, rfl, hn, ok, rfl⟩, k⟩ := h
    obtain ⟨pl, cl, gl, ⟨dn, hno⟩, ⟨as, a1, a2⟩, ⟨cs, c1, c2⟩, ⟨gs, g1, g2⟩⟩ := hn
    obtain ⟨nms, m1, m2⟩ := names_of a2
    have la : as.length = n.places.length := paired_len a2
    have lc : cs.length = n.cars.length := paired_len c2
    have lg : gs.length = n.goes.length := paired_len g2
    have lm : as.length = nms.length := paired_len m1
    have opl := ok.pl
    have ocl := ok.cl
    have ogl := ok.gl
    have fl : ∀ {σ : L2.St} {H' : Hp}, Ex G H' → σ[0]? = some (some (.ref na)) → Ev (tFld K (tVar 0) "places") σ H' (.ref pl) ∧ Ev (tFld K (tVar 0) "cars") σ H' (.ref cl) ∧ Ev (tFld K (tVar 0) "goes") σ H' (.ref gl) := fun e h =>
      ⟨ev_fld (ev_var h) (e _ _ hno) T.c_Net T.n_Net_places lNet_places, ev_fld (ev_var h) (e _ _ hno) T.c_Net T.n_Net_cars lNet_cars, ev_fld (ev_var h) (e _ _ hno) T.c_Net T.n_Net_goes lNet_goes⟩
    refine q_asgL (xs := nms.map V.ref) (el_is (el_lcL (a := pl) (xs := as.map V.ref) (fun _ => true) (fun i => V.ref (nms.getD i 0)) (fl eG rfl).1 (sq_of (eG _ _ a1)) (by rw [List.length_map]; omega) (fun x => rfl) (fun i x H1 _ _ => fun H5 e5 Q q => q H5 (Ex.refl H5)) fun i x H1 e1 hx _ => ?_) ?_) fun nl H1 hnl e1 hN => ?_
    · rw [List.getElem?_map] at hx
      obtain ⟨pa, hpa, rfl⟩ := Option.map_eq_some_iff.mp hx
      obtain ⟨nm, hnm⟩ : ∃ nm, nms[i]? = some nm := ⟨_, List.getElem?_eq_getElem (by rw [← lm]; exact (List.getElem?_eq_some_iff.mp hpa).1)⟩
      obtain ⟨pa', q1, dx, hd, q2⟩ := paired_at m1 hnm
      rw [hpa] at q1
      cases q1
      rw [List.getD_eq_getElem?_getD, hnm]
      exact ev_fld (ev_var rfl) (e1 _ _ (eG _ _ q2)) T.c_Place T.n_Place_name lPlace_name
    · rw [given_all, List.length_map, lm]
      exact range_getD V.ref 0 nms
    have nameAt : ∀ {i : Nat}, i < n.places.length → ∃ nm, (nms.map V.ref)[i]? = some (.ref nm) ∧ NameAt G nm (Vbtoad.placeName n i) := fun {i} hi => by
      obtain ⟨p, hp⟩ : ∃ p, n.places[i]? = some p := ⟨_, List.getElem?_eq_getElem hi⟩
      obtain ⟨nm, q1, q2⟩ := paired_at m2 (show (n.places.map (·.name))[i]? = some p.name by rw [List.getElem?_map, hp]; rfl)
      refine ⟨nm, by rw [List.getElem?_map, q1]; rfl, ?_⟩
      unfold Vbtoad.placeName
      rw [hp]
      exact q2
    refine q_asgL (el_lst ea_nil (by show 0 ≤ 100000; omega)) fun fd_ H2 hfd e2 hF => ?_
    have e12 := e1.trans e2
    have bp : ∀ i, ((n.places.take i).flatMap placeRow).length ≤ 5600 := fun i => by
      have := flat_len (f := placeRow) (l := n.places.take i) fun p hp => row_len (by split <;> simp) (place_words (ok.p p (List.mem_of_mem_take hp)))
      have h2 : (n.places.take i).length ≤ n.places.length := List.length_take_le' ..
      omega
    have bc : ∀ i, ((n.cars.take i).flatMap (carRow n)).length ≤ 11200 := fun i => by
      have := flat_len (f := carRow n) (l := n.cars.take i) fun c hc => row_len (by simp) (car_words ok (ok.c c (List.mem_of_mem_take hc)))
      have h2 : (n.cars.take i).length ≤ n.cars.length := List.length_take_le' ..
      omega
    have bg : ∀ i, ((n.goes.take i).flatMap (goRow n)).length ≤ 21000 := fun i => by
      have := flat_len (f := goRow n) (l := n.goes.take i) fun g hg => row_len (by simp) (go_words ok (ok.g g (List.mem_of_mem_take hg)))
      have h2 : (n.goes.take i).length ≤ n.goes.length := List.length_take_le' ..
      omega
    refine q_forLn (a := pl) (xs := as.map V.ref) (fl (eG.trans e12) rfl).1 (sq_of ((eG.trans e12) _ _ a1))
      (fun i σ' H' => (∃ x1 x4 x5 x6, σ' = [some (.ref na), x1, some (.ref nl), some (.ref fd_), x4, x5, x6]) ∧ Ex H1 H' ∧ H' fd_ = some (.lst (((n.places.take i).flatMap placeRow).map nV)))
      (fun H3 e3 => ⟨⟨_, _, _, _, rfl⟩, e2.trans e3, by rw [List.take_zero]; exact e3 _ _ hF⟩) (fun i σ' H' _ q => sq_of ((eG.trans (e1.trans q.2.1)) _ _ a1)) ?_ ?_
    · rintro i x σ' H' hx ⟨⟨x1, x4, x5, x6, rfl⟩, eH, hH⟩
      rw [List.getElem?_map] at hx
      obtain ⟨pa, hpa, rfl⟩ := Option.map_eq_some_iff.mp hx
      obtain ⟨p, hp⟩ : ∃ p, n.places[i]? = some p := ⟨_, List.getElem?_eq_getElem (by rw [← la]; exact (List.getElem?_eq_some_iff.mp hpa).1)⟩
      obtain ⟨pa', q1, dp, nm, q2, q3⟩ := paired_at a2 hp
      rw [hpa] at q1
      cases q1
      have op := ok.p p (List.mem_of_getElem? hp)
      have eG' := eG.trans (e1.trans eH)
      have bi := bp i
      have pw := place_words op
      have more : (n.places.take (i + 1)).flatMap placeRow = (n.places.take i).flatMap placeRow ++ placeRow p := by
        rw [List.take_add_one, hp, List.flatMap_append]
        show _ ++ (placeRow p ++ []) = _
        rw [List.append_nil]
      have fin : ∀ {te : TE} {σ : L2.St} {H3 : Hp} {y1 y4 y5 y6 : Option V}, σ = [some (.ref na), y1, some (.ref nl), some (.ref fd_), y4, y5, y6] → Ex H' H3 → EvL te σ H3 ((placeRow p).map nV) → tDrop (tBM K "list" rExtend (tVar 3) (tCons te tNil)) { nx := fun σ2 H2 => (∃ x1 x4 x5 x6, σ2 = [some (.ref na), x1, some (.ref nl), some (.ref fd_), x4, x5, x6]) ∧ Ex H1 H2 ∧ H2 fd_ = some (.lst (((n.places.take (i + 1)).flatMap placeRow).map nV)), rt := Q } σ H3 := fun {te σ H3 y1 y4 y5 y6} hσ e3 hrow => by
        subst hσ
        have rl := row_len (by split <;> simp) pw
        refine s_ext (e3 _ _ hH) (ev_var rfl) hrow (by
          rw [List.length_map, List.length_map]
          have : (placeRow p).length ≤ 700 := rl
          omega) fun H4 e4 => ⟨⟨_, _, _, _, rfl⟩, Ex.mut ((eH.trans e3).trans e4) hfd, ?_⟩
        rw [upd_same, more, List.map_append]
      refine q_asgW (ew_lst (eaw_consL (el_txt (s := "place") (by decide +kernel)) (eaw_consV (ev_fld (ev_var rfl) (eG' _ _ q2) T.c_Place T.n_Place_name lPlace_name) (q3.ex eG') eaw_nil)) (by show 2 ≤ 100; decide)) fun wp wa H3 hwp e3 h3 h4 nin => ?_
      have hand : ∀ {σ : L2.St} {H4 : Hp}, Ex H3 H4 → σ[1]? = some (some (.ref pa)) → Ev (tFld K (tVar 1) "handling") σ H4 (nV p.handling) := fun e h => ev_fld (ev_var h) ((eG'.trans (e3.trans e)) _ _ q2) T.c_Place T.n_Place_handling lPlace_handling
      refine q_when (b := !decide (p.handling = 0)) (et_is (et_test (ev_op (hand (Ex.refl _) rfl) ev_c rv_I0)) ?_) (fun hb H4 e4 => ?_) (fun hb H4 e4 => ?_)
      · rw [← decide_not]
        exact decide_eq_decide.mpr (by omega)
      · have hz : ¬ p.handling = 0 := by simpa using hb
        refine s_appL (e4 _ _ h3) (ev_var rfl) (el_dec (hand e4 rfl) (by have := op.hand; omega)) (by rw [List.length_map, paired_len h4]; show 2 < 100000; decide) fun q H5 hq e5 h5 => ?_
        have nq : wp ≠ q := ne_of_none (e4 _ _ h3) hq
        have T5 : ThingsAt NameAt (upd H5 wp (.lst (wa.map V.ref ++ [V.ref q]))) wp (Vbbtaa.chars "place" :: [p.name, Vbbtaa.decimal p.handling]) := ⟨wa ++ [q], by rw [List.map_append]; exact upd_same, paired_app (r := [Vbbtaa.chars "place", p.name]) (paired_upd (paired_mono (fun _ _ z => z.ex (e4.trans e5)) h4) nin) (.cons ((upd_ne (Ne.symm nq)).trans h5) .nil)⟩
        have pw' := pw
        rw [if_neg hz] at pw'
        refine fin rfl (Ex.mut (e3.trans (e4.trans e5)) hwp) (el_is (el_rowV (ev_var rfl) T5 (by show 2 ≤ 10; decide) pw') ?_)
        unfold placeRow
        rw [if_neg hz]
        rfl
      · have hz : p.handling = 0 := by simpa using hb
        have pw' := pw
        rw [if_pos hz] at pw'
        refine fin rfl (e3.trans e4) (el_is (el_rowV (ev_var rfl) ⟨wa, e4 _ _ h3, paired_mono (fun _ _ z => z.ex e4) h4⟩ (by show 1 ≤ 10; decide) pw') ?_)
        unfold placeRow
        rw [if_pos hz]
        rfl
    · rintro σ' H' ⟨⟨x1, x4, x5, x6, rfl⟩, eH, hH⟩
      rw [List.length_map, la, List.take_length] at hH
      have bp0 := bp n.places.length
      rw [List.take_length] at bp0
      refine q_forLn (a := cl) (xs := cs.map V.ref) (fl (eG.trans (e1.trans eH)) rfl).2.1 (sq_of ((eG.trans (e1.trans eH)) _ _ c1))
        (fun i σ' H' => (∃ x1 x4 x5 x6, σ' = [some (.ref na), x1, some (.ref nl), some (.ref fd_), x4, x5, x6]) ∧ Ex H1 H' ∧ H' fd_ = some (.lst ((n.places.flatMap placeRow ++ (n.cars.take i).flatMap (carRow n)).map nV)))
        (fun H3 e3 => ⟨⟨_, _, _, _, rfl⟩, eH.trans e3, by rw [List.take_zero, List.flatMap_nil, List.append_nil]; exact e3 _ _ hH⟩) (fun i σ' H' _ q => sq_of ((eG.trans (e1.trans q.2.1)) _ _ c1)) ?_ ?_
      · rintro i x σ' H' hx ⟨⟨x1, x4, x5, x6, rfl⟩, eH, hH⟩
        rw [List.getElem?_map] at hx
        obtain ⟨ca, hca, rfl⟩ := Option.map_eq_some_iff.mp hx
        obtain ⟨c, hc⟩ : ∃ c, n.cars[i]? = some c := ⟨_, List.getElem?_eq_getElem (by rw [← lc]; exact (List.getElem?_eq_some_iff.mp hca).1)⟩
        obtain ⟨ca', q1, dc, nm, q2, q3⟩ := paired_at c2 hc
        rw [hca] at q1
        cases q1
        have oc := ok.c c (List.mem_of_getElem? hc)
        have eG' := eG.trans (e1.trans eH)
        obtain ⟨n1, s1, s2⟩ := nameAt oc.fr
        obtain ⟨n2, t1, t2⟩ := nameAt oc.to
        have bi := bc i
        have rl := row_len (by simp) (car_words ok oc)
        have q2' := eG' _ _ q2
        refine s_ext (ys := (carRow n c).map nV) hH (ev_var rfl) (el_row (ew_lst (eaw_consL (el_txt (s := "car") (by decide +kernel)) (eaw_consV (ev_fld (ev_var rfl) q2' T.c_Car T.n_Car_name lCar_name) (q3.ex eG')
          (eaw_consV (ev_ixL (ev_var rfl) (ev_fld (ev_var rfl) q2' T.c_Car T.n_Car_start lCar_start) (eH _ _ hN) s1) (s2.ex eG') (eaw_consV (ev_ixL (ev_var rfl) (ev_fld (ev_var rfl) q2' T.c_Car T.n_Car_end lCar_end) (eH _ _ hN) t1) (t2.ex eG')
            (eaw_consL (el_dec (ev_fld (ev_var rfl) q2' T.c_Car T.n_Car_long lCar_long) (by have := oc.top; omega)) eaw_nil))))) (by show 5 ≤ 100; decide)) (by show 4 ≤ 10; decide) (car_words ok oc)) (by
          rw [List.length_map, List.length_map, List.length_append]
          have : (carRow n c).length ≤ 700 := rl
          omega) fun H4 e4 => ⟨⟨_, _, _, _, rfl⟩, Ex.mut (eH.trans e4) hfd, ?_⟩
        rw [upd_same, List.take_add_one, hc, List.flatMap_append, ← List.append_assoc, List.map_append (l₁ := n.places.flatMap placeRow ++ (n.cars.take i).flatMap (carRow n))]
        show some (HO.lst (_ ++ (carRow n c).map nV)) = some (HO.lst (_ ++ (carRow n c ++ []).map nV))
        rw [List.append_nil]
      · rintro σ' H' ⟨⟨x1, x4, x5, x6, rfl⟩, eH, hH⟩
        rw [List.length_map, lc, List.take_length] at hH
        have bc0 := bc n.cars.length
        rw [List.take_length] at bc0
        refine q_forLn (a := gl) (xs := gs.map V.ref) (fl (eG.trans (e1.trans eH)) rfl).2.2 (sq_of ((eG.trans (e1.trans eH)) _ _ g1))
          (fun i σ' H' => (∃ x1 x4 x5 x6, σ' = [some (.ref na), x1, some (.ref nl), some (.ref fd_), x4, x5, x6]) ∧ Ex H1 H' ∧ H' fd_ = some (.lst (((n.places.flatMap placeRow ++ n.cars.flatMap (carRow n)) ++ (n.goes.take i).flatMap (goRow n)).map nV)))
          (fun H3 e3 => ⟨⟨_, _, _, _, rfl⟩, eH.trans e3, by rw [List.take_zero, List.flatMap_nil, List.append_nil]; exact e3 _ _ hH⟩) (fun i σ' H' _ q => sq_of ((eG.trans (e1.trans q.2.1)) _ _ g1)) ?_ ?_
        · rintro i x σ' H' hx ⟨⟨x1, x4, x5, x6, rfl⟩, eH, hH⟩
          rw [List.getElem?_map] at hx
          obtain ⟨ga, hga, rfl⟩ := Option.map_eq_some_iff.mp hx
          obtain ⟨g, hg⟩ : ∃ g, n.goes[i]? = some g := ⟨_, List.getElem?_eq_getElem (by rw [← lg]; exact (List.getElem?_eq_some_iff.mp hga).1)⟩
          obtain ⟨ga', q1, dg, nm, q2, q3⟩ := paired_at g2 hg
          rw [hga] at q1
          cases q1
          have og := ok.g g (List.mem_of_getElem? hg)
          have eG' := eG.trans (e1.trans eH)
          obtain ⟨n1, s1, s2⟩ := nameAt og.fr
          obtain ⟨n2, t1, t2⟩ := nameAt og.to
          have bi := bg i
          have gw := go_words ok og
          have rl := row_len (by simp) gw
          have q2' := eG' _ _ q2
          have u1 := og.up
          have u2 := og.top
          refine q_asgW (ew_lst (eaw_consL (el_txt (s := "go") (by decide +kernel)) (eaw_consV (ev_fld (ev_var rfl) q2' T.c_Departure T.n_Departure_name lDeparture_name) (q3.ex eG')
            (eaw_consV (ev_ixL (ev_var rfl) (ev_fld (ev_var rfl) q2' T.c_Departure T.n_Departure_start lDeparture_start) (eH _ _ hN) s1) (s2.ex eG') (eaw_consL (el_dec (ev_fld (ev_var rfl) q2' T.c_Departure T.n_Departure_leaves lDeparture_leaves) (by omega))
              (eaw_consV (ev_ixL (ev_var rfl) (ev_fld (ev_var rfl) q2' T.c_Departure T.n_Departure_end lDeparture_end) (eH _ _ hN) t1) (t2.ex eG') eaw_nil))))) (by show 5 ≤ 100; decide)) fun wp wa H3 hwp e3 h3 h4 nin => ?_
          refine s_ext (ys := (goRow n g).map nV) (e3 _ _ hH) (ev_var rfl) (el_row (ew_cat (ev_var rfl) ⟨wa, h3, h4⟩ (ew_lst (eaw_consL (el_dec (ev_fld (ev_var rfl) (e3 _ _ q2') T.c_Departure T.n_Departure_comes lDeparture_comes) (by omega)) eaw_nil) (by show 1 ≤ 100; decide)) (by show 6 ≤ 100; decide)) (by show 5 ≤ 10; decide) gw) (by
            rw [List.length_map, List.length_map, List.length_append, List.length_append]
            have : (goRow n g).length ≤ 700 := rl
            omega) fun H4 e4 => ⟨⟨_, _, _, _, rfl⟩, Ex.mut ((eH.trans e3).trans e4) hfd, ?_⟩
          rw [upd_same, List.take_add_one, hg, List.flatMap_append, ← List.append_assoc, List.map_append (l₁ := (n.places.flatMap placeRow ++ n.cars.flatMap (carRow n)) ++ (n.goes.take i).flatMap (goRow n))]
          show some (HO.lst (_ ++ (goRow n g).map nV)) = some (HO.lst (_ ++ (goRow n g ++ []).map nV))
          rw [List.append_nil]
        · rintro σ' H' ⟨⟨x1, x4, x5, x6, rfl⟩, eH, hH⟩
          rw [List.length_map, lg, List.take_length, List.append_assoc, ← written_eq] at hH
          exact s_ret (ev_var rfl) fun H4 e4 => k fd_ H4 (fresh_back e1 hfd) (e1.trans (eH.trans e4)) (e4 _ _ hH)
end SJ
/-! Calls: whether one is as told. -/
namespace SJ
open PySem PySem.Spec PyProof.Rows L2 Evl LamX
section
variable {w : World} {K : PySem.W.Frag} {mg : Str → Option Value} (T : Txt w K mg)
include T
theorem Txt.ranges (H : Hp) {p : Str × Int × Int} (hp : p ∈ rangeL) : KDct K w (He.ga K "RANGES") p.1 (.ref (keA K "RANGES" p.1)) ∧ SqT K H (keA K "RANGES" p.1) [.int p.2.1, .int p.2.2] := by
  obtain ⟨h, X, G, c⟩ := T
  exact says_ranges c H hp
theorem Txt.rows (H : Hp) {p : Str × Int × Int} (hp : p ∈ rowsL) : KDct K w (He.ga K "ROWS") p.1 (.ref (keA K "ROWS" p.1)) ∧ SqT K H (keA K "ROWS" p.1) [.int p.2.1, .int p.2.2] := by
  obtain ⟨h, X, G, c⟩ := T
  exact says_rows c H hp
theorem Txt.shapes (H : Hp) : SqT K H (He.ga K "SHAPES") ((List.range shapeL.length).map fun i => V.ref (itA K "SHAPES" i)) ∧ ∀ i p, shapeL[i]? = some p → SqT K H (itA K "SHAPES" i) [.str p.1, .str p.2] := by
  obtain ⟨h, X, G, c⟩ := T
  exact says_shapes c H
end
theorem walk_zipS {K : PySem.W.Frag} {z : Str} {b : Addr} {ys : List V} (hl : z.cps.size = ys.length) : Walk (Itzs K z b) ys.length (fun H => SqL K H b ys) (YPair (fun i => (z.cps[i]?).map fun c => V.str ⟨#[c]⟩) (fun i => ys[i]?)) := by
  refine ⟨fun i H hi q => ⟨ys, ys[i], by omega, q, List.getElem?_eq_getElem hi⟩, fun H q => ⟨ys, q, by omega, Nat.le_refl _, .inr rfl⟩, fun i H v H' _ q y => ?_⟩
  obtain ⟨T, c, y, h1, h2, h3, h4, h5⟩ := y
  exact ⟨T, _, y, h1, h2, h3, by simp only [h4]; rfl, h5 ys q⟩
section
variable {K : PySem.W.Frag} {σ : L2.St} {H : Hp} {tl : TA} {b : Addr} {z : Str} {ys : List V} {D : Ends} {tu tz : TS} {i j : Nat}
/-- for x, y in zip(a text, ys), of one length -/
theorem q_forZS (h : EvA tl σ H [.str z, .ref b]) (hy : H b = some (.lst ys)) (hl : z.cps.size = ys.length) (W : Nat → L2.St → Prop) (h0 : W 0 σ)
    (hs : ∀ n c y σ' H', Ex H H' → z.cps[n]? = some c → ys[n]? = some y → W n σ' → tu { D with nx := fun σ2 H2 => Ex H H2 ∧ W (n + 1) σ2, ct := fun σ2 H2 => Ex H H2 ∧ W (n + 1) σ2, bk := tz D } ((σ'.set i (some (.str ⟨#[c]⟩))).set j (some y)) H')
    (hd : ∀ σ' H', Ex H H' → W ys.length σ' → tz D σ' H') : tSeq (tFor (iZipS K tl) (gPair K i j) tu) tz D σ H :=
  h H (Ex.refl H) _ fun H1 e => ⟨z, b, ys, rfl, sq_of (e _ _ hy), for_it (D := { D with nx := tz D }) (walk_zipS hl) (fun n σ' H' => Ex H H' ∧ W n σ') ⟨e, h0⟩ (fun n σ' H' _ p => sq_of (p.1 _ _ hy)) (fun n v σ' H' H2 hn p y => by
    obtain ⟨T, x, y, rfl, hT, rfl, hx', hy'⟩ := y
    obtain ⟨c, hc, rfl⟩ := Option.map_eq_some_iff.mp hx'
    exact g_pair (st_of upd_same) (hs n c y σ' _ (p.1.trans (Ex.new hT)) hc hy' p.2)) fun σ' H' p => hd σ' H' p.1 p.2⟩
/-- a dict of the module at a text -/
theorem ev_ixD {w : World} {ta tb : TE} {p : Addr} {v : V} {x : Str} (ha : Ev ta σ H (.ref p)) (hb : Ev tb σ H (.str x)) (h : KDct K w p x v) : Ev (tOp (rIxD K w) ta tb) σ H v := ev_op ha hb fun H1 _ Q q => ⟨p, x, v, rfl, rfl, h, q H1 (Ex.refl H1)⟩
end
/-! ### what is as told, plain -/
def rangeOf (c : Nat) : Int × Int := if c = 107 then (0, 3) else if c = 116 then (0, 100000) else if c = 108 then (0, 100000) else if c = 112 then (0, 7) else if c = 100 then (0, 7) else (-100000, 100000)
def numOk (c : Nat) (n : Int) : Bool := decide ((rangeOf c).1 ≤ n) && decide (n ≤ (rangeOf c).2)
def numsOk (cs : List Nat) (ns : List Int) : Bool := (cs.zip ns).all fun q => numOk q.1 q.2
def boundOf (s : Str) : Int × Int := if s = ("text" : Str) then (4000, 255) else if s = ("name" : Str) then (12, 255) else (30, 29)
def listOk (s : Str) (row : List Int) : Bool := decide (s = ("" : Str)) || (decide ((row.length : Int) ≤ (boundOf s).1) && row.all fun x => decide (0 ≤ x) && decide (x ≤ (boundOf s).2))
theorem shape_letters : ∀ p ∈ shapeL, ∀ c ∈ p.1.cps.toList, (((⟨#[c]⟩ : Str), (rangeOf c).1, (rangeOf c).2) : Str × Int × Int) ∈ rangeL := by decide +kernel
theorem shape_row : ∀ p ∈ shapeL, p.2 = ("" : Str) ∨ ((p.2, (boundOf p.2).1, (boundOf p.2).2) : Str × Int × Int) ∈ rowsL := by decide +kernel
theorem all_zip_take {α β : Type} (f : α × β → Bool) (cs : List α) (ns : List β) (i : Nat) (c : α) (n : β) (hc : cs[i]? = some c) (hn : ns[i]? = some n) : ((cs.zip ns).take (i + 1)).all f = (((cs.zip ns).take i).all f && f (c, n)) := by
  have e : (cs.zip ns)[i]? = some (c, n) := (List.getElem?_zip_eq_some (z := (c, n))).mpr ⟨hc, hn⟩
  rw [List.take_add_one, e, List.all_append]
  simp
/-- [f(x) for x in a list of ints] -/
theorem el_flagsI {K : PySem.W.Frag} {σ : L2.St} {H : Hp} {te tl : TE} {a : Addr} {t : List Int} {j : Nat} {vs : List Nat} (f : Int → Bool) (h : Ev tl σ H (.ref a)) (ha : IntsAt H a t) (hz : t.length ≤ 40000) (hw : ∀ x, wipe ((wipe σ vs).set j (some x)) vs = wipe σ vs)
    (he : ∀ (c : Int) H1, Ex H H1 → c ∈ t → Ev te ((wipe σ vs).set j (some (.int c))) H1 (.bl (f c))) : EvL (tLc (iList K tl) (gName j) tYes te vs) σ H ((t.map f).map V.bl) := by
  refine el_is (el_lcL (a := a) (xs := t.map V.int) (fun _ => true) (fun i => V.bl (f (t.getD i 0))) h (sq_of ha) (by rw [List.length_map]; exact hz) hw (fun i x H1 _ _ => fun H5 e5 Q q => q H5 (Ex.refl H5)) fun i x H1 e1 hx _ => ?_) ?_
  · rw [List.getElem?_map] at hx
    obtain ⟨c, hc, rfl⟩ := Option.map_eq_some_iff.mp hx
    have e : t.getD i 0 = c := by
      rw [List.getD_eq_getElem?_getD, hc]
      rfl
    rw [e]
    exact he c H1 e1 (List.mem_of_getElem? hc)
  · rw [given_all, List.length_map, List.map_map]
    exact range_getD (fun c => V.bl (f c)) 0 t
def sp_is_as_told (K : PySem.W.Frag) : Sp := PureSp fun vs G z => ∃ (p : Str × Str) (na ra : Addr) (ns row : List Int), vs = [.str p.1, .ref na, .str p.2, .ref ra] ∧ p ∈ shapeL ∧ IntsAt G na ns ∧ p.1.cps.size = ns.length ∧ IntsAt G ra row ∧ row.length ≤ 4000 ∧ z = .bl (numsOk p.1.cps.toList ns && listOk p.2 row)
theorem sc_is_as_told : FnScope ["letters", "numbers", "sort", "row", "letter", "number", "least", "most", "many"] ["letters", "numbers", "sort", "row"] (defScope s_is_as_told) := ⟨rfl, rfl, rfl, by decide +kernel, rfl, by decide +kernel, by decide +kernel⟩
theorem ok_is_as_told {P : Program} {w : World} {K : PySem.W.Frag} {mg : Str → Option Value} {base : Heap} (T : Txt w K mg) : OkD P w K mg base CX0 1 (He.ga K "is_as_told") ["letters", "numbers", "sort", "row"] (sp_is_as_told K) := by
  obtain ⟨fd, F⟩ := T.f_is_as_told
  refine ⟨fd, F.ok sc_is_as_told (fun vs H Q E h => ?_) (fun cdv A outer s H vs Q E hr h => ?_), F.bindsN fun _ _ _ _ _ _ us hl => match us, hl with | [_, _, _, _], _ => rfl, F.kp⟩
  · obtain ⟨z, G, eG, ⟨p, na, ra, ns, row, rfl, hp, hn, hl, hr2, hlen, rfl⟩, k⟩ := h
    rfl
  · refine ⟨_, PSs.nox (pss_cons (ps_for PassesOwn.never rfl (pi_zipS rfl T.b_zip (pa_cons (pv 0) (pa_cons (pv 1) pa_nil))) (pg_tup rfl (pgs_cons (pg_name (i := 4) sc_is_as_told.nd rfl (Or.inl rfl)) (pgs_cons (pg_name (i := 5) sc_is_as_told.nd rfl (Or.inl rfl)) pgs_nil))) (pss_cons (ps_asg (pe_ix ix_kdict (pe_glob rfl T.g_RANGES (show L2.RelV (V.ref (He.ga K "RANGES")) _ from rfl)) (pv 4) (fun _ _ => rfl)) (pg_tup rfl (pgs_cons (pg_name (i := 6) sc_is_as_told.nd rfl (Or.inl rfl)) (pgs_cons (pg_name (i := 7) sc_is_as_told.nd rfl (Or.inr rfl)) pgs_nil)))) (pss_one (ps_if (PW.pt (pw_or (pt_cmpR op_lt (pv 5) (pv 6) (nomark _)) (pw_or1 (pt_cmpR op_gt (pv 5) (pv 7) (nomark _))))) (pss_one (ps_ret pe_bl)) pss_nil)))) (pss_cons (ps_if (pt_cmpR op_eq (pv 2) pe_str (nomark _)) (pss_one (ps_ret pe_bl)) pss_nil) (pss_cons (ps_asg (pe_ix ix_kdict (pe_glob rfl T.g_ROWS (show L2.RelV (V.ref (He.ga K "ROWS")) _ from rfl)) (pv 2) (fun _ _ => rfl)) (pg_tup rfl (pgs_cons (pg_name (i := 8) sc_is_as_told.nd rfl (Or.inl rfl)) (pgs_cons (pg_name (i := 7) sc_is_as_told.nd rfl (Or.inr rfl)) pgs_nil)))) (pss_one (ps_ret (pe_and (pe_cmpR op_le (pe_callB call_len_seq (by rfl) T.b_len PySem.boot_len (pa_cons (pv 3) pa_nil)) (pv 8) (nomark _)) (pe_one (pe_callB (cr_all rfl) (by rfl) T.b_all (by decide +kernel) (pa_cons (pe_lc (own := [("number", 5)]) (g := (gName 5)) rfl sc_is_as_told.nd (pi_list (pv 3)) (blkOk_by (own := [("number", 5)]) (N := ["letters", "numbers", "sort", "row", "letter", "number", "least", "most", "many"]) (sc := defScope s_is_as_told) (by decide +kernel)) (fun _ _ _ _ _ => (pg_name (i := 5) sc_is_as_told.nd rfl (Or.inl rfl))) (fun _ _ _ _ _ => pts_nil) (fun _ _ _ _ _ => (pe_and (pe_cmpR op_le pe_int (pv 5) (nomark _)) (pe_one (pe_cmpR op_le (pv 5) (pv 7) (nomark _)))))) pa_nil))))))))), ?_⟩
    obtain ⟨z, G, eG, ⟨p, na, ra, ns, row, rfl, hp, hn, hl, hr2, hlen, rfl⟩, k⟩ := h
    have H0 : ∀ {H1 : Hp}, Ex H H1 → Q (.bl (numsOk p.1.cps.toList ns && listOk p.2 row)) H1 := fun e => k _ e
    refine q_forZS (z := p.1) (ys := ns.map V.int) (ea_cons (ev_var rfl) (ea_cons (ev_var rfl) ea_nil)) (eG _ _ hn) (by rw [List.length_map]; exact hl)
      (fun i σ' => (∃ x4 x5 x6 x7, σ' = [some (.str p.1), some (.ref na), some (.str p.2), some (.ref ra), x4, x5, x6, x7, none]) ∧ (((p.1.cps.toList.zip ns).take i).all fun q => numOk q.1 q.2) = true) ⟨⟨_, _, _, _, rfl⟩, rfl⟩ ?_ ?_
    · rintro i c y σ' H' e hc hy ⟨⟨x4, x5, x6, x7, rfl⟩, hW⟩
      rw [List.getElem?_map] at hy
      obtain ⟨m, hm, rfl⟩ := Option.map_eq_some_iff.mp hy
      have hcl : p.1.cps.toList[i]? = some c := by rw [Array.getElem?_toList]; exact hc
      have step := all_zip_take (fun q => numOk q.1 q.2) p.1.cps.toList ns i c m hcl hm
      rw [hW, Bool.true_and] at step
      obtain ⟨kd, st⟩ := T.ranges H' (shape_letters p hp c (List.mem_of_getElem? hcl))
      refine q_pairT (ev_ixD ev_c (ev_var rfl) kd) st fun H1 e1 => ?_
      refine s_when (b := decide (m < (rangeOf c).1) || decide (m > (rangeOf c).2)) (et_or (et_test (ev_op (ev_var rfl) (ev_var rfl) rv_I0)) fun _ => et_test (ev_op (ev_var rfl) (ev_var rfl) rv_I0)) (fun hb H2 e2 => ?_) (fun hb H2 e2 => ?_)
      · refine s_ret ev_c fun H3 e3 => bl_eq (H0 (e.trans (e1.trans (e2.trans e3)))) ?_
        have no : numOk c m = false := by
          unfold numOk
          rw [Bool.or_eq_true, decide_eq_true_iff, decide_eq_true_iff] at hb
          rw [Bool.and_eq_false_iff, decide_eq_false_iff_not, decide_eq_false_iff_not]
          omega
        have : numsOk p.1.cps.toList ns = false := by
          unfold numsOk
          rw [List.all_eq_false]
          refine ⟨(c, m), List.mem_of_getElem? ((List.getElem?_zip_eq_some (z := (c, m))).mpr ⟨hcl, hm⟩), ?_⟩
          show ¬ numOk c m = true
          rw [no]
          exact Bool.false_ne_true
        rw [this, Bool.false_and]
      · refine ⟨e.trans (e1.trans e2), ⟨_, _, _, _, rfl⟩, ?_⟩
        rw [step]
        show numOk c m = true
        unfold numOk
        rw [Bool.or_eq_false_iff, decide_eq_false_iff_not, decide_eq_false_iff_not] at hb
        rw [Bool.and_eq_true, decide_eq_true_iff, decide_eq_true_iff]
        omega
    · rintro σ' H' e ⟨⟨x4, x5, x6, x7, rfl⟩, hW⟩
      have all1 : numsOk p.1.cps.toList ns = true := by
        unfold numsOk
        rw [List.length_map] at hW
        rw [List.take_of_length_le (by rw [List.length_zip]; omega)] at hW
        exact hW
      rw [all1, Bool.true_and] at H0
      refine q_when (b := decide (V.str p.2 = V.str "")) (et_test (ev_op (ev_var rfl) ev_c (rv_eq rfl))) (fun hb H1 e1 => ?_) (fun hb H1 e1 => ?_)
      · refine s_ret ev_c fun H2 e2 => bl_eq (H0 (e.trans (e1.trans e2))) ?_
        have : p.2 = ("" : Str) := V.str.inj (of_decide_eq_true hb)
        unfold listOk
        rw [decide_eq_true this, Bool.true_or]
      · have ne : ¬ p.2 = ("" : Str) := fun z => of_decide_eq_false hb (by rw [z])
        obtain ⟨kd, st⟩ := T.rows H1 ((shape_row p hp).resolve_left ne)
        refine q_pairT (ev_ixD ev_c (ev_var rfl) kd) st fun H2 e2 => ?_
        have hr2' : IntsAt H2 ra row := (e.trans (e1.trans e2)) _ _ (eG _ _ hr2)
        refine s_ret (ev_andV (ev_op (ev_len (ev_var rfl) (sq_of hr2')) (ev_var rfl) rv_I0) fun _ => ev_all (bs := row.map fun x => decide (0 ≤ x) && decide (x ≤ (boundOf p.2).2)) ?_) fun H3 e3 => bl_eq (H0 (e.trans (e1.trans (e2.trans e3)))) ?_
        · refine el_flagsI (fun x => decide (0 ≤ x) && decide (x ≤ (boundOf p.2).2)) (ev_var rfl) hr2' (by omega) (fun x => rfl) fun x H3 e3 _ => ?_
          exact ev_andV (ev_op ev_c (ev_var rfl) rv_I0) fun _ => ev_op (ev_var rfl) (ev_var rfl) rv_I0
        · unfold listOk
          rw [decide_eq_false ne, Bool.false_or, List.length_map]
          congr 1
          rw [List.all_map]
          rfl
end SJ
/-! Calls: answers of what's sure. -/
namespace SJ
open PySem PySem.Spec PyProof.Rows L2 Evl LamX
/-! ### promises of defs that make what knows what's sure -/
def TabL (K : PySem.W.Frag) (P : List V → Hp → List V → Prop) : Sp := fun vs H Q _ => ∃ xs G, Ex G H ∧ NoT G ∧ Tabs (tS K) H ∧ P vs G xs ∧ ∀ p H', G p = none → Ex G H' → Tabs (tS K) H' → H' p = some (.lst xs) → Q (.ref p) H'
section
variable {K : PySem.W.Frag} {σ : L2.St} {G H : Hp} {E : XK} {tl : TA} {na : Addr} {n : Vbtoad.Net} {d : Nat} {D : Ends} {tz : TS} {i : Nat}
theorem x_makeS (h : EvA tl σ H [.ref na, .int (d : Int)]) (eG : Ex G H) (nT : NoT G) (hT : Tabs (tS K) H) (hn : NetAt K G na n) (ok : NetOk n) (hd : d < n.places.length) {Q : VK}
    (k : ∀ p H', G p = none → Ex G H' → Tabs (tS K) H' → SurK K H' p n d → Q (.ref p) H') : tMake (cSur K) (sp_Sureness_init K) [] E tl σ H Q :=
  x_make h fun H1 p dp e hne hp => by
    have gp : G p = none := by
      cases z : G p with
      | none => rfl
      | some o => exact absurd rfl (hne p o (eG _ _ z))
    exact ⟨G, p, dp, na, n, d, rfl, eG.trans e, nT, gp, hp, hn, ok, hd, hT.ext e, fun H' e' t' s' => ⟨rfl, k p H' gp e' t' s'⟩⟩
theorem q_asgS (h : EvA tl σ H [.ref na, .int (d : Int)]) (eG : Ex G H) (nT : NoT G) (hT : Tabs (tS K) H) (hn : NetAt K G na n) (ok : NetOk n) (hd : d < n.places.length)
    (k : ∀ p H', G p = none → Ex G H' → Tabs (tS K) H' → SurK K H' p n d → tz D (σ.set i (some (.ref p))) H') : tSeq (tAsg (tMake (cSur K) (sp_Sureness_init K) [] E tl) (gName i)) tz D σ H :=
  x_makeS h eG nT hT hn ok hd (Q := fun v H2 => gName i v σ H2 fun σ2 H3 => tz D σ2 H3) k
theorem x_tabL {P : List V → Hp → List V → Prop} {vs xs dvs : List V} (h : EvA tl σ H vs) (eG : Ex G H) (nT : NoT G) (hT : Tabs (tS K) H) (hp : P (vs ++ dvs) G xs) {Q : VK}
    (k : ∀ p H', G p = none → Ex G H' → Tabs (tS K) H' → H' p = some (.lst xs) → Q (.ref p) H') : tCall (TabL K P) dvs E tl σ H Q := x_call h fun H1 e => ⟨xs, G, eG.trans e, nT, hT.ext e, hp, k⟩
theorem ev_dget {ta tb : TE} {a : Addr} {kvs : List (Key × V)} {x : Str} {v : V} (ha : Ev ta σ H (.ref a)) (hb : Ev tb σ H (.str x)) (h : H a = some (.dK kvs)) (hv : valV kvs (.inr x) = some v) : Ev (tDGet ta tb) σ H v := fun H1 e Q q =>
  ha H1 e _ fun H2 e2 => hb H2 (e.trans e2) _ fun H3 e3 => ⟨a, v, rfl, by rw [← hv]; exact DGet.k (k := .inr x) (((e.trans e2).trans e3) _ _ h), q H3 (e2.trans e3)⟩
end
def sp_state_answer (K : PySem.W.Frag) : Sp := PureL fun vs G xs => ∃ (na : Addr) (n : Vbtoad.Net), vs = [.ref na] ∧ NetAt K G na n ∧ xs = [nV 0, nV n.places.length, nV n.cars.length, nV n.goes.length]
theorem sc_state_answer : FnScope ["net"] ["net"] (defScope s_state_answer) := ⟨rfl, rfl, rfl, by decide +kernel, rfl, by decide +kernel, by decide +kernel⟩
theorem ok_state_answer {P : Program} {w : World} {K : PySem.W.Frag} {mg : Str → Option Value} {base : Heap} (T : Txt w K mg) : OkD P w K mg base CX0 1 (He.ga K "state_answer") ["net"] (sp_state_answer K) := by
  obtain ⟨fd, F⟩ := T.f_state_answer
  refine ⟨fd, F.ok sc_state_answer (fun vs H Q E h => ?_) (fun cdv A outer s H vs Q E hr h => ?_), F.bindsN fun _ _ _ _ _ _ us hl => match us, hl with | [_], _ => rfl, F.kp⟩
  · obtain ⟨xs, G, eG, ⟨na, n, rfl, hn, rfl⟩, k⟩ := h
    rfl
  · refine ⟨_, PSs.nox (pss_one (ps_ret (pe_lst (pa_cons pe_int (pa_cons (pe_callB call_len_seq (by rfl) T.b_len PySem.boot_len (pa_cons (pe_fld (pv 0) rfl) pa_nil)) (pa_cons (pe_callB call_len_seq (by rfl) T.b_len PySem.boot_len (pa_cons (pe_fld (pv 0) rfl) pa_nil)) (pa_cons (pe_callB call_len_seq (by rfl) T.b_len PySem.boot_len (pa_cons (pe_fld (pv 0) rfl) pa_nil)) pa_nil))))))), ?_⟩
    obtain ⟨xs, G, eG, ⟨na, n, rfl, hn, rfl⟩, k⟩ := h
    obtain ⟨pl, cl, gl, ⟨dn, ho⟩, ⟨ps, p1, p2⟩, ⟨cs, c1, c2⟩, ⟨gs, g1, g2⟩⟩ := hn
    have l1 : ps.length = n.places.length := paired_len p2
    have l2 : cs.length = n.cars.length := paired_len c2
    have l3 : gs.length = n.goes.length := paired_len g2
    refine s_retL (el_lst (ea_cons ev_c (ea_cons (ev_len (ev_fld (ev_var rfl) (eG _ _ ho) T.c_Net T.n_Net_places lNet_places) (sq_of (eG _ _ p1))) (ea_cons (ev_len (ev_fld (ev_var rfl) (eG _ _ ho) T.c_Net T.n_Net_cars lNet_cars) (sq_of (eG _ _ c1)))
      (ea_cons (ev_len (ev_fld (ev_var rfl) (eG _ _ ho) T.c_Net T.n_Net_goes lNet_goes) (sq_of (eG _ _ g1))) ea_nil)))) (by show 4 ≤ 100000; decide)) fun p H1 hp e h1 => k p H1 hp e ?_
    rw [h1, List.length_map, List.length_map, List.length_map, l1, l2, l3]
    rfl
def sp_sure_answer (K : PySem.W.Frag) : Sp := PureL fun vs G xs => ∃ a : Option Nat, vs = [.int (Vbtoad.orNone a)] ∧ xs = (Vbtoad.toldOr a).map V.int
theorem sc_sure_answer : FnScope ["sure"] ["sure"] (defScope s_sure_answer) := ⟨rfl, rfl, rfl, by decide +kernel, rfl, by decide +kernel, by decide +kernel⟩
theorem ok_sure_answer {P : Program} {w : World} {K : PySem.W.Frag} {mg : Str → Option Value} {base : Heap} (T : Txt w K mg) : OkD P w K mg base CX0 1 (He.ga K "sure_answer") ["sure"] (sp_sure_answer K) := by
  obtain ⟨fd, F⟩ := T.f_sure_answer
  refine ⟨fd, F.ok sc_sure_answer (fun vs H Q E h => ?_) (fun cdv A outer s H vs Q E hr h => ?_), F.bindsN fun _ _ _ _ _ _ us hl => match us, hl with | [_], _ => rfl, F.kp⟩
  · obtain ⟨xs, G, eG, ⟨a, rfl, rfl⟩, k⟩ := h
    rfl
  · refine ⟨_, PSs.nox (pss_cons (ps_if (pt_cmpR op_eq (pv 0) (pe_gint T.i_NONE) (nomark _)) (pss_one (ps_ret (pe_lst (pa_cons (pe_gint T.i_NOTHING_SURE) pa_nil)))) pss_nil) (pss_one (ps_ret (pe_lst (pa_cons pe_int (pa_cons (pv 0) pa_nil)))))), ?_⟩
    obtain ⟨xs, G, eG, ⟨a, rfl, rfl⟩, k⟩ := h
    refine q_when (et_test (ev_eqI (ev_var rfl) ev_c)) (fun hb H1 e1 => ?_) (fun hb H1 e1 => ?_)
    · have e : a = none := orNone_none.mp (of_decide_eq_true hb)
      rw [e] at k
      exact s_retL (el_lst (ea_cons ev_c ea_nil) (by show 1 ≤ 100000; decide)) fun p H2 hp e2 h2 => k p H2 (fresh_back e1 hp) (e1.trans e2) h2
    · cases a with
      | none => exact absurd rfl (of_decide_eq_false hb)
      | some m => exact s_retL (el_lst (ea_cons ev_c (ea_cons (ev_var rfl) ea_nil)) (by show 2 ≤ 100000; decide)) fun p H2 hp e2 h2 => k p H2 (fresh_back e1 hp) (e1.trans e2) h2
def nextL (a : Option Vbtoad.Act) : List Int := match a with
  | none => [-7]
  | some .there => [0, 0, 0]
  | some (.drive c) => [0, 1, (c : Int)]
  | some (.wait g) => [0, 2, (g : Int)]
def sp_next_answer (K : PySem.W.Frag) : Sp := TabL K fun vs G xs => ∃ (na g : Addr) (kvs : List (Key × V)) (n : Vbtoad.Net) (kk t p d : Nat), vs = [.ref na, .ref g] ∧ NetAt K G na n ∧ NetOk n ∧ G g = some (.dK kvs) ∧
  valV kvs (.inr "k") = some (nV kk) ∧ valV kvs (.inr "t") = some (nV t) ∧ valV kvs (.inr "p") = some (nV p) ∧ valV kvs (.inr "d") = some (nV d) ∧ kk < 4 ∧ p < n.places.length ∧ d < n.places.length ∧ xs = (nextL (Vbtoad.toDo n (Vbtoad.roadsOf n) d kk p t)).map V.int
theorem sc_next_answer : FnScope ["net", "given", "sureness", "what", "number"] ["net", "given"] (defScope s_next_answer) := ⟨rfl, rfl, rfl, by decide +kernel, rfl, by decide +kernel, by decide +kernel⟩
theorem ok_next_answer {P : Program} {w : World} {K : PySem.W.Frag} {mg : Str → Option Value} {base : Heap} (T : Txt w K mg) (TB : TabB base mg (cS K) (pS K)) : OkD P w K mg base CX0 9 (He.ga K "next_answer") ["net", "given"] (sp_next_answer K) := by
  obtain ⟨fd_Sureness_to_do, G_Sureness_to_do, B_Sureness_to_do, K_Sureness_to_do⟩ := ok_Sureness_to_do (P := P) (w := w) (base := base) T
  obtain ⟨fd_Sureness_init, G_Sureness_init, B_Sureness_init, K_Sureness_init⟩ := ok_Sureness_init (P := P) (w := w) (base := base) T TB
  obtain ⟨fd, F⟩ := T.f_next_answer
  refine ⟨fd, F.ok sc_next_answer (fun vs H Q E h => ?_) (fun cdv A outer s H vs Q E hr h => ?_), F.bindsN fun _ _ _ _ _ _ us hl => match us, hl with | [_, _], _ => rfl, F.kp⟩
  · obtain ⟨xs, G, eG, nT, hT, ⟨na, g, kvs, n, kk, t, p, d, rfl, hn, ok, hg, vk, vt, vp, vd, hk, hp, hd, rfl⟩, k⟩ := h
    rfl
  · refine ⟨_, PSs.nox (pss_cons (ps_set (i := 2) sc_next_answer.nd rfl (Or.inl rfl) (pe_make T.k_Sureness G_Sureness_init (hr.mono (by decide)) rfl T.g_Sureness B_Sureness_init .nil pass0 (pa_cons (pv 0) (pa_cons (pe_dget (hu_of hr) (pv 1) pe_str (fun _ _ => rfl)) pa_nil)))) (pss_cons (ps_asg (pe_meth (pv 2) T.c_Sureness T.m_Sureness_to_do G_Sureness_to_do (hr.mono (by decide)) B_Sureness_to_do .nil pass0 (pa_cons (pe_dget (hu_of hr) (pv 1) pe_str (fun _ _ => rfl)) (pa_cons (pe_dget (hu_of hr) (pv 1) pe_str (fun _ _ => rfl)) (pa_cons (pe_dget (hu_of hr) (pv 1) pe_str (fun _ _ => rfl)) pa_nil)))) (pg_tup rfl (pgs_cons (pg_name (i := 3) sc_next_answer.nd rfl (Or.inl rfl)) (pgs_cons (pg_name (i := 4) sc_next_answer.nd rfl (Or.inl rfl)) pgs_nil)))) (pss_cons (ps_if (pt_cmpR op_eq (pv 3) (pe_gint T.i_NONE) (nomark _)) (pss_one (ps_ret (pe_lst (pa_cons (pe_gint T.i_NOTHING_SURE) pa_nil)))) pss_nil) (pss_one (ps_ret (pe_lst (pa_cons pe_int (pa_cons (pv 3) (pa_cons (pv 4) pa_nil))))))))), ?_⟩
    obtain ⟨xs, G, eG, nT, hT, ⟨na, g, kvs, n, kk, t, p, d, rfl, hn, ok, hg, vk, vt, vp, vd, hk, hp, hd, rfl⟩, k⟩ := h
    refine q_asgS (ea_cons (ev_var rfl) (ea_cons (ev_dget (ev_var rfl) ev_c (eG _ _ hg) vd) ea_nil)) eG nT hT hn ok hd fun sa H1 gs e1 t1 hS => ?_
    obtain ⟨na', pl, cl, gl, cm, wm, rows, wrows, cs, gs', ⟨⟨dx, ho⟩, -, -, -, -, -, -, -⟩⟩ := hS.view
    have hg1 := e1 _ _ hg
    refine q_pair (eu_meth (ev_var rfl) ho lSureness_to_do (ea_cons (ev_dget (ev_var rfl) ev_c hg1 vk) (ea_cons (ev_dget (ev_var rfl) ev_c hg1 vt) (ea_cons (ev_dget (ev_var rfl) ev_c hg1 vp) ea_nil)))
      (spu_pure ⟨sa, n, d, kk, t, p, rfl, hS, hk, hp, rfl⟩)) fun H2 e2 => ?_
    have back : ∀ {q : Addr} {H3 : Hp}, Ex H1 H3 → H3 q = none → G q = none := fun e h => fresh_back e1 (fresh_back e h)
    refine q_when (et_test (ev_eqI (ev_var rfl) ev_c)) (fun hb H3 e3 => ?_) (fun hb H3 e3 => ?_)
    · refine s_retL (el_lst (ea_cons ev_c ea_nil) (by show 1 ≤ 100000; decide)) fun q H4 hq e4 h4 => k q H4 (back (e2.trans e3) hq) (e1.trans (e2.trans (e3.trans e4))) (t1.ext (e2.trans (e3.trans e4))) ?_
      rw [h4]
      have z := of_decide_eq_true hb
      cases h : Vbtoad.toDo n (Vbtoad.roadsOf n) d kk p t with
      | none => rfl
      | some a =>
        rw [h] at z
        cases a <;> (simp [actI] at z <;> omega)
    · refine s_retL (el_lst (ea_cons ev_c (ea_cons (ev_var rfl) (ea_cons (ev_var rfl) ea_nil))) (by show 3 ≤ 100000; decide)) fun q H4 hq e4 h4 => k q H4 (back (e2.trans e3) hq) (e1.trans (e2.trans (e3.trans e4))) (t1.ext (e2.trans (e3.trans e4))) ?_
      rw [h4]
      have z := of_decide_eq_false hb
      cases h : Vbtoad.toDo n (Vbtoad.roadsOf n) d kk p t with
      | none => rw [h] at z; exact absurd rfl z
      | some a => cases a <;> rfl
end SJ
/-! Calls: journeys, profiles, worst cases, tables. -/
namespace SJ
open PySem PySem.Spec PyProof.Rows L2 Evl LamX
section
variable {K : PySem.W.Frag} {σ : L2.St} {G H : Hp} {E E' : XK} {tl tr : TA} {na : Addr} {n : Vbtoad.Net} {d : Nat} {D : Ends} {tz : TS} {i : Nat}
/-- a call whose first argument is made on the way -/
theorem x_callS {sp : Sp} {vs dvs : List V} (h : EvA tl σ H [.ref na, .int (d : Int)]) (eG : Ex G H) (nT : NoT G) (hT : Tabs (tS K) H) (hn : NetAt K G na n) (ok : NetOk n) (hd : d < n.places.length) {Q : VK}
    (hr : ∀ H', Ex G H' → EvA tr σ H' vs) (k : ∀ p H', G p = none → Ex G H' → Tabs (tS K) H' → SurK K H' p n d → sp (.ref p :: (vs ++ dvs)) H' Q E) :
    tCall sp dvs E (tCons (tMake (cSur K) (sp_Sureness_init K) [] E' tl) tr) σ H Q :=
  x_makeS (Q := fun x H1 => tr σ H1 fun ws H2 => sp ((x :: ws) ++ dvs) H2 Q E) h eG nT hT hn ok hd fun p H' gp e t s => hr H' e H' (Ex.refl _) _ fun H2 e2 => k p H2 gp (e.trans e2) (t.ext e2) (s.ex e2)
theorem q_callS {sp : Sp} {vs dvs : List V} {g : TG} (h : EvA tl σ H [.ref na, .int (d : Int)]) (eG : Ex G H) (nT : NoT G) (hT : Tabs (tS K) H) (hn : NetAt K G na n) (ok : NetOk n) (hd : d < n.places.length)
    (hr : ∀ H', Ex G H' → EvA tr σ H' vs) (k : ∀ p H', G p = none → Ex G H' → Tabs (tS K) H' → SurK K H' p n d → sp (.ref p :: (vs ++ dvs)) H' (fun v H2 => g v σ H2 fun σ2 H3 => tz D σ2 H3) E) :
    tSeq (tAsg (tCall sp dvs E (tCons (tMake (cSur K) (sp_Sureness_init K) [] E' tl) tr)) g) tz D σ H := x_callS h eG nT hT hn ok hd hr k
end
def playL (r : List Vbtoad.Step × Option Nat) : List Int := 0 :: Vbtoad.orNone r.2 :: (r.1.length : Int) :: r.1.flatMap fun s => Vbtoad.ints [s.kind, s.which, s.at_]
theorem stepsV_ints (l : List Vbtoad.Step) : stepsV l = (l.flatMap fun s => Vbtoad.ints [s.kind, s.which, s.at_]).map V.int := by
  unfold stepsV
  rw [List.map_flatMap]
  rfl
def sp_play_answer (K : PySem.W.Frag) : Sp := TabL K fun vs G xs => ∃ (na g ca : Addr) (kvs : List (Key × V)) (n : Vbtoad.Net) (kk t p d : Nat) (out : List Nat), vs = [.ref na, .ref g, .ref ca] ∧ NetAt K G na n ∧ NetOk n ∧ G g = some (.dK kvs) ∧ NameAt G ca out ∧
  valV kvs (.inr "k") = some (nV kk) ∧ valV kvs (.inr "t") = some (nV t) ∧ valV kvs (.inr "p") = some (nV p) ∧ valV kvs (.inr "d") = some (nV d) ∧ kk < 4 ∧ p < n.places.length ∧ d < n.places.length ∧
  xs = (playL (Vbtoad.play n (Vbtoad.roadsOf n) d out Vbtoad.FUEL kk p t)).map V.int
theorem sc_play_answer : FnScope ["net", "given", "cancelled", "comes", "steps"] ["net", "given", "cancelled"] (defScope s_play_answer) := ⟨rfl, rfl, rfl, by decide +kernel, rfl, by decide +kernel, by decide +kernel⟩
theorem ok_play_answer {P : Program} {w : World} {K : PySem.W.Frag} {mg : Str → Option Value} {base : Heap} (T : Txt w K mg) (TB : TabB base mg (cS K) (pS K)) : OkD P w K mg base CX0 9 (He.ga K "play_answer") ["net", "given", "cancelled"] (sp_play_answer K) := by
  obtain ⟨fd_played, G_played, B_played, K_played⟩ := ok_played (P := P) (w := w) (base := base) T
  obtain ⟨fd_Sureness_init, G_Sureness_init, B_Sureness_init, K_Sureness_init⟩ := ok_Sureness_init (P := P) (w := w) (base := base) T TB
  obtain ⟨fd, F⟩ := T.f_play_answer
  refine ⟨fd, F.ok sc_play_answer (fun vs H Q E h => ?_) (fun cdv A outer s H vs Q E hr h => ?_), F.bindsN fun _ _ _ _ _ _ us hl => match us, hl with | [_, _, _], _ => rfl, F.kp⟩
  · obtain ⟨xs, G, eG, nT, hT, ⟨na, g, ca, kvs, n, kk, t, p, d, out, rfl, hn, ok, hg, hca, vk, vt, vp, vd, hk, hp, hd, rfl⟩, k⟩ := h
    rfl
  · refine ⟨_, PSs.nox (pss_cons (ps_asg (pe_call G_played (hr.mono (by decide)) rfl T.g_played K_played B_played .nil pass0 (pa_cons (pe_make T.k_Sureness G_Sureness_init (hr.mono (by decide)) rfl T.g_Sureness B_Sureness_init .nil pass0 (pa_cons (pv 0) (pa_cons (pe_dget (hu_of hr) (pv 1) pe_str (fun _ _ => rfl)) pa_nil))) (pa_cons (pe_dget (hu_of hr) (pv 1) pe_str (fun _ _ => rfl)) (pa_cons (pe_dget (hu_of hr) (pv 1) pe_str (fun _ _ => rfl)) (pa_cons (pe_dget (hu_of hr) (pv 1) pe_str (fun _ _ => rfl)) (pa_cons (pv 2) pa_nil)))))) (pg_tup rfl (pgs_cons (pg_name (i := 3) sc_play_answer.nd rfl (Or.inl rfl)) (pgs_cons (pg_name (i := 4) sc_play_answer.nd rfl (Or.inl rfl)) pgs_nil)))) (pss_one (ps_ret (pe_op op_cat (pe_lst (pa_cons pe_int (pa_cons (pv 3) (pa_cons (pe_op op_fdiv (pe_callB call_len_seq (by rfl) T.b_len PySem.boot_len (pa_cons (pv 4) pa_nil)) pe_int) pa_nil)))) (pv 4))))), ?_⟩
    obtain ⟨xs, G, eG, nT, hT, ⟨na, g, ca, kvs, n, kk, t, p, d, out, rfl, hn, ok, hg, hca, vk, vt, vp, vd, hk, hp, hd, rfl⟩, k⟩ := h
    refine q_callS (vs := [nV kk, nV t, nV p, .ref ca]) (ea_cons (ev_var rfl) (ea_cons (ev_dget (ev_var rfl) ev_c (eG _ _ hg) vd) ea_nil)) eG nT hT hn ok hd (fun H' e => ea_cons (ev_dget (ev_var rfl) ev_c (e _ _ hg) vk) (ea_cons (ev_dget (ev_var rfl) ev_c (e _ _ hg) vt) (ea_cons (ev_dget (ev_var rfl) ev_c (e _ _ hg) vp) (ea_cons (ev_var rfl) ea_nil))))
      fun sa H1 gs e1 t1 hS => ⟨H1, sa, n, d, kk, t, p, ca, out, rfl, Ex.refl _, hS, hk, hp, hca.ex e1, fun q l H2 hq hl e2 h2 h2l => ?_⟩
    have lp := play_len n (Vbtoad.roadsOf n) d out Vbtoad.FUEL kk p t
    generalize hr2 : Vbtoad.play n (Vbtoad.roadsOf n) d out Vbtoad.FUEL kk p t = r at h2 h2l k lp
    have lp2 : r.1.length ≤ 400 := lp
    refine g_pair (st_of h2) ?_
    refine s_retL (el_catR (el_lst (ea_cons ev_c (ea_cons (ev_var rfl) (ea_cons (ev_op (ev_len (ev_var rfl) (sq_of h2l)) ev_c (rv_I ⟨by decide, by decide⟩)) ea_nil))) (by show 3 ≤ 100000; decide)) (ev_var rfl) h2l (by rw [stepsV_len]; show 3 + _ ≤ 100000; omega)) fun z H3 hz e3 h3 =>
      k z H3 (fresh_back e1 (fresh_back e2 hz)) (e1.trans (e2.trans e3)) (t1.ext (e2.trans e3)) ?_
    rw [h3, stepsV_len, stepsV_ints]
    have e : ((3 * r.1.length : Nat) : Int) / 3 = (r.1.length : Int) := by omega
    show some (HO.lst ([V.int 0, V.int (Vbtoad.orNone r.2), V.int (((3 * r.1.length : Nat) : Int) / 3)] ++ _)) = _
    rw [e]
    rfl
def profL (l : List (Nat × Nat)) : List Int := 0 :: (l.length : Int) :: l.flatMap fun x => Vbtoad.ints [x.1, x.2]
theorem profV_ints (l : List (Nat × Nat)) : profV l = (l.flatMap fun x => Vbtoad.ints [x.1, x.2]).map V.int := by
  unfold profV
  rw [List.map_flatMap]
  rfl
def sp_profile_answer (K : PySem.W.Frag) : Sp := TabL K fun vs G xs => ∃ (na g : Addr) (kvs : List (Key × V)) (n : Vbtoad.Net) (kk p d : Nat), vs = [.ref na, .ref g] ∧ NetAt K G na n ∧ NetOk n ∧ G g = some (.dK kvs) ∧
  valV kvs (.inr "k") = some (nV kk) ∧ valV kvs (.inr "p") = some (nV p) ∧ valV kvs (.inr "d") = some (nV d) ∧ kk < 4 ∧ p < n.places.length ∧ d < n.places.length ∧ xs = (profL (Vbtoad.profile n (Vbtoad.roadsOf n) d kk p)).map V.int
theorem sc_profile_answer : FnScope ["net", "given", "found"] ["net", "given"] (defScope s_profile_answer) := ⟨rfl, rfl, rfl, by decide +kernel, rfl, by decide +kernel, by decide +kernel⟩
theorem ok_profile_answer {P : Program} {w : World} {K : PySem.W.Frag} {mg : Str → Option Value} {base : Heap} (T : Txt w K mg) (TB : TabB base mg (cS K) (pS K)) : OkD P w K mg base CX0 9 (He.ga K "profile_answer") ["net", "given"] (sp_profile_answer K) := by
  obtain ⟨fd_profile_of, G_profile_of, B_profile_of, K_profile_of⟩ := ok_profile_of (P := P) (w := w) (base := base) T
  obtain ⟨fd_Sureness_init, G_Sureness_init, B_Sureness_init, K_Sureness_init⟩ := ok_Sureness_init (P := P) (w := w) (base := base) T TB
  obtain ⟨fd, F⟩ := T.f_profile_answer
  refine ⟨fd, F.ok sc_profile_answer (fun vs H Q E h => ?_) (fun cdv A outer s H vs Q E hr h => ?_), F.bindsN fun _ _ _ _ _ _ us hl => match us, hl with | [_, _], _ => rfl, F.kp⟩
  · obtain ⟨xs, G, eG, nT, hT, ⟨na, g, kvs, n, kk, p, d, rfl, hn, ok, hg, vk, vp, vd, hk, hp, hd, rfl⟩, k⟩ := h
    rfl
  · refine ⟨_, PSs.nox (pss_cons (ps_set (i := 2) sc_profile_answer.nd rfl (Or.inl rfl) (pe_call G_profile_of (hr.mono (by decide)) rfl T.g_profile_of K_profile_of B_profile_of .nil pass0 (pa_cons (pe_make T.k_Sureness G_Sureness_init (hr.mono (by decide)) rfl T.g_Sureness B_Sureness_init .nil pass0 (pa_cons (pv 0) (pa_cons (pe_dget (hu_of hr) (pv 1) pe_str (fun _ _ => rfl)) pa_nil))) (pa_cons (pe_dget (hu_of hr) (pv 1) pe_str (fun _ _ => rfl)) (pa_cons (pe_dget (hu_of hr) (pv 1) pe_str (fun _ _ => rfl)) pa_nil))))) (pss_one (ps_ret (pe_op op_cat (pe_lst (pa_cons pe_int (pa_cons (pe_op op_fdiv (pe_callB call_len_seq (by rfl) T.b_len PySem.boot_len (pa_cons (pv 2) pa_nil)) pe_int) pa_nil))) (pv 2))))), ?_⟩
    obtain ⟨xs, G, eG, nT, hT, ⟨na, g, kvs, n, kk, p, d, rfl, hn, ok, hg, vk, vp, vd, hk, hp, hd, rfl⟩, k⟩ := h
    refine q_callS (vs := [nV kk, nV p]) (ea_cons (ev_var rfl) (ea_cons (ev_dget (ev_var rfl) ev_c (eG _ _ hg) vd) ea_nil)) eG nT hT hn ok hd (fun H' e => ea_cons (ev_dget (ev_var rfl) ev_c (e _ _ hg) vk) (ea_cons (ev_dget (ev_var rfl) ev_c (e _ _ hg) vp) ea_nil))
      fun sa H1 gs e1 t1 hS => ⟨_, H1, Ex.refl _, ⟨sa, n, d, kk, p, rfl, hS, hk, hp, rfl⟩, fun l H2 hl e2 h2 => ?_⟩
    have lp := profile_len n (Vbtoad.roadsOf n) d kk p
    have lg := ok.gl
    generalize hr2 : Vbtoad.profile n (Vbtoad.roadsOf n) d kk p = r at h2 k lp
    refine s_retL (el_catR (el_lst (ea_cons ev_c (ea_cons (ev_op (ev_len (ev_var rfl) (sq_of h2)) ev_c (rv_I ⟨by decide, by decide⟩)) ea_nil)) (by show 2 ≤ 100000; decide)) (ev_var rfl) h2 (by rw [profV_len]; show 2 + _ ≤ 100000; omega)) fun z H3 hz e3 h3 =>
      k z H3 (fresh_back e1 (fresh_back e2 hz)) (e1.trans (e2.trans e3)) (t1.ext (e2.trans e3)) ?_
    rw [h3, profV_len, profV_ints]
    have e : ((2 * r.length : Nat) : Int) / 2 = (r.length : Int) := by omega
    show some (HO.lst ([V.int 0, V.int (((2 * r.length : Nat) : Int) / 2)] ++ _)) = _
    rw [e]
    rfl
def worstL (a : Option Nat) (l : List Nat) : List Int := match a with
  | none => [-7]
  | some a => 0 :: (a : Int) :: (l.length : Int) :: Vbtoad.ints l
def sp_worst_answer (K : PySem.W.Frag) : Sp := TabL K fun vs G xs => ∃ (na g : Addr) (kvs : List (Key × V)) (n : Vbtoad.Net) (kk t p d : Nat), vs = [.ref na, .ref g] ∧ NetAt K G na n ∧ NetOk n ∧ G g = some (.dK kvs) ∧
  valV kvs (.inr "k") = some (nV kk) ∧ valV kvs (.inr "t") = some (nV t) ∧ valV kvs (.inr "p") = some (nV p) ∧ valV kvs (.inr "d") = some (nV d) ∧ kk < 4 ∧ p < n.places.length ∧ d < n.places.length ∧
  xs = (worstL (sureK n d kk p t) (Vbtoad.worst n (Vbtoad.roadsOf n) d Vbtoad.FUEL kk p t)).map V.int
theorem sc_worst_answer : FnScope ["net", "given", "sureness", "sure", "found"] ["net", "given"] (defScope s_worst_answer) := ⟨rfl, rfl, rfl, by decide +kernel, rfl, by decide +kernel, by decide +kernel⟩
theorem ok_worst_answer {P : Program} {w : World} {K : PySem.W.Frag} {mg : Str → Option Value} {base : Heap} (T : Txt w K mg) (TB : TabB base mg (cS K) (pS K)) : OkD P w K mg base CX0 9 (He.ga K "worst_answer") ["net", "given"] (sp_worst_answer K) := by
  obtain ⟨fd_worst_case, G_worst_case, B_worst_case, K_worst_case⟩ := ok_worst_case (P := P) (w := w) (base := base) T
  obtain ⟨fd_Sureness_sure, G_Sureness_sure, B_Sureness_sure, K_Sureness_sure⟩ := ok_Sureness_sure (P := P) (w := w) (base := base) T
  obtain ⟨fd_Sureness_init, G_Sureness_init, B_Sureness_init, K_Sureness_init⟩ := ok_Sureness_init (P := P) (w := w) (base := base) T TB
  obtain ⟨fd, F⟩ := T.f_worst_answer
  refine ⟨fd, F.ok sc_worst_answer (fun vs H Q E h => ?_) (fun cdv A outer s H vs Q E hr h => ?_), F.bindsN fun _ _ _ _ _ _ us hl => match us, hl with | [_, _], _ => rfl, F.kp⟩
  · obtain ⟨xs, G, eG, nT, hT, ⟨na, g, kvs, n, kk, t, p, d, rfl, hn, ok, hg, vk, vt, vp, vd, hk, hp, hd, rfl⟩, k⟩ := h
    rfl
  · refine ⟨_, PSs.nox (pss_cons (ps_set (i := 2) sc_worst_answer.nd rfl (Or.inl rfl) (pe_make T.k_Sureness G_Sureness_init (hr.mono (by decide)) rfl T.g_Sureness B_Sureness_init .nil pass0 (pa_cons (pv 0) (pa_cons (pe_dget (hu_of hr) (pv 1) pe_str (fun _ _ => rfl)) pa_nil)))) (pss_cons (ps_set (i := 3) sc_worst_answer.nd rfl (Or.inl rfl) (pe_meth (pv 2) T.c_Sureness T.m_Sureness_sure G_Sureness_sure (hr.mono (by decide)) B_Sureness_sure .nil pass0 (pa_cons (pe_dget (hu_of hr) (pv 1) pe_str (fun _ _ => rfl)) (pa_cons (pe_dget (hu_of hr) (pv 1) pe_str (fun _ _ => rfl)) (pa_cons (pe_dget (hu_of hr) (pv 1) pe_str (fun _ _ => rfl)) pa_nil))))) (pss_cons (ps_if (pt_cmpR op_eq (pv 3) (pe_gint T.i_NONE) (nomark _)) (pss_one (ps_ret (pe_lst (pa_cons (pe_gint T.i_NOTHING_SURE) pa_nil)))) pss_nil) (pss_cons (ps_set (i := 4) sc_worst_answer.nd rfl (Or.inl rfl) (pe_call G_worst_case (hr.mono (by decide)) rfl T.g_worst_case K_worst_case B_worst_case .nil pass0 (pa_cons (pv 2) (pa_cons (pe_dget (hu_of hr) (pv 1) pe_str (fun _ _ => rfl)) (pa_cons (pe_dget (hu_of hr) (pv 1) pe_str (fun _ _ => rfl)) (pa_cons (pe_dget (hu_of hr) (pv 1) pe_str (fun _ _ => rfl)) pa_nil)))))) (pss_one (ps_ret (pe_op op_cat (pe_lst (pa_cons pe_int (pa_cons (pv 3) (pa_cons (pe_callB call_len_seq (by rfl) T.b_len PySem.boot_len (pa_cons (pv 4) pa_nil)) pa_nil)))) (pv 4)))))))), ?_⟩
    obtain ⟨xs, G, eG, nT, hT, ⟨na, g, kvs, n, kk, t, p, d, rfl, hn, ok, hg, vk, vt, vp, vd, hk, hp, hd, rfl⟩, k⟩ := h
    refine q_asgS (ea_cons (ev_var rfl) (ea_cons (ev_dget (ev_var rfl) ev_c (eG _ _ hg) vd) ea_nil)) eG nT hT hn ok hd fun sa H1 gs e1 t1 hS => ?_
    have vk' : ∀ {σ : L2.St} {H2 : Hp}, Ex H1 H2 → σ[1]? = some (some (V.ref g)) → Ev (tDGet (tVar 1) (tC (.str "k"))) σ H2 (nV kk) := fun e h => ev_dget (ev_var h) ev_c ((e1.trans e) _ _ hg) vk
    have vt' : ∀ {σ : L2.St} {H2 : Hp}, Ex H1 H2 → σ[1]? = some (some (V.ref g)) → Ev (tDGet (tVar 1) (tC (.str "t"))) σ H2 (nV t) := fun e h => ev_dget (ev_var h) ev_c ((e1.trans e) _ _ hg) vt
    have vp' : ∀ {σ : L2.St} {H2 : Hp}, Ex H1 H2 → σ[1]? = some (some (V.ref g)) → Ev (tDGet (tVar 1) (tC (.str "p"))) σ H2 (nV p) := fun e h => ev_dget (ev_var h) ev_c ((e1.trans e) _ _ hg) vp
    refine q_asg (ev_sure hS (Ex.refl _) (ev_var rfl) (vk' (Ex.refl _) rfl) (vt' (Ex.refl _) rfl) (vp' (Ex.refl _) rfl) hk hp) fun H2 e2 => ?_
    have back : ∀ {q : Addr} {H3 : Hp}, Ex H1 H3 → H3 q = none → G q = none := fun e h => fresh_back e1 (fresh_back e h)
    refine q_when (et_test (ev_eqI (ev_var rfl) ev_c)) (fun hb H3 e3 => ?_) (fun hb H3 e3 => ?_)
    · have e : sureK n d kk p t = none := orNone_none.mp (of_decide_eq_true hb)
      rw [e] at k
      exact s_retL (el_lst (ea_cons ev_c ea_nil) (by show 1 ≤ 100000; decide)) fun q H4 hq e4 h4 => k q H4 (back (e2.trans e3) hq) (e1.trans (e2.trans (e3.trans e4))) (t1.ext (e2.trans (e3.trans e4))) h4
    · have e23 := e2.trans e3
      refine q_asgL (el_call (ea_cons (ev_var rfl) (ea_cons (vk' e23 rfl) (ea_cons (vt' e23 rfl) (ea_cons (vp' e23 rfl) ea_nil)))) (spl_pure ⟨sa, n, d, kk, t, p, rfl, hS.ex e23, hk, hp, rfl⟩)) fun f H4 hf e4 h4 => ?_
      have lw := worst_len n (Vbtoad.roadsOf n) d Vbtoad.FUEL kk p t
      generalize hr2 : Vbtoad.worst n (Vbtoad.roadsOf n) d Vbtoad.FUEL kk p t = r at h4 k lw
      have lw2 : r.length ≤ 400 := lw
      cases hs : sureK n d kk p t with
      | none =>
        rw [hs] at hb
        exact absurd rfl (of_decide_eq_false hb)
      | some a =>
        rw [hs] at k
        refine s_retL (el_catR (el_lst (ea_cons ev_c (ea_cons (ev_var (v := nV a) rfl) (ea_cons (ev_len (ev_var rfl) (sq_of h4)) ea_nil))) (by show 3 ≤ 100000; decide)) (ev_var rfl) h4 (by rw [List.length_map]; show 3 + _ ≤ 100000; omega)) fun z H5 hz e5 h5 =>
          k z H5 (back (e23.trans e4) hz) (e1.trans (e23.trans (e4.trans e5))) (t1.ext (e23.trans (e4.trans e5))) ?_
        rw [h5, List.length_map]
        unfold worstL Vbtoad.ints
        rw [List.map_cons, List.map_cons, List.map_cons, List.map_map]
        rfl
end SJ
/-! Calls: tables, who, stands. -/
namespace SJ
open PySem PySem.Spec PyProof.Rows L2 Evl LamX
theorem tabs_lst {T : List (Addr × Str)} {H : Hp} {p : Addr} {xs : List V} {o : HO} (t : Tabs T H) (hp : H p = some (.lst xs)) : Tabs T (upd H p o) := fun q hq => by
  obtain ⟨ps, h1, h2, h3⟩ := t q hq
  have ne : ∀ {b : Addr} {u : HO}, H b = some u → (∀ ys, u ≠ .lst ys) → upd H p o b = some u := fun {b u} hb hu => by
    rw [upd_ne fun z => by rw [z, hp] at hb; exact hu xs (Option.some.inj hb).symm]
    exact hb
  refine ⟨ps, ne h1 fun _ z => (by cases z), h2, fun pos cv hc => ?_⟩
  obtain ⟨c, e1, e2⟩ := h3 pos cv hc
  exact ⟨c, e1, ne e2 fun _ z => by unfold CodeO at z; cases z⟩
theorem NoT.put {G : Hp} {p : Addr} {xs : List V} (n : NoT G) : NoT (upd G p (.lst xs)) := fun b ps z => by
  unfold upd at z
  split at z
  · cases z
  · exact n b ps z
theorem NoT.of {G H : Hp} {p : Addr} (e : Ex G H) (h : H p = none) : G p = none := fresh_back e h
/-- what stays with a list that is known, too -/
theorem ex_put {G H : Hp} {p : Addr} {xs : List V} (e : Ex G H) (h : H p = some (.lst xs)) : Ex (upd G p (.lst xs)) H := fun b o hb => by
  by_cases z : b = p
  · rw [z, upd_same] at hb
    rw [z, h, hb]
  · rw [upd_ne z] at hb
    exact e b o hb
theorem ex_upd {G : Hp} {p : Addr} {o : HO} (h : G p = none) : Ex G (upd G p o) := Ex.new h
section
variable {K : PySem.W.Frag} {σ : L2.St} {G H : Hp} {T : List (Addr × Str)} {te : TE} {ta : TA} {j : Nat} {vs : List Nat} {n : Nat}
/-- a comprehension over a range whose items are made with tables of code objects filled -/
theorem x_lcT (f : Nat → V) (h : EvA ta σ H [.int (n : Int)]) (hn : n ≤ 40000) (hw : ∀ x, wipe ((wipe σ vs).set j (some x)) vs = wipe σ vs) (eG : Ex G H) (nT : NoT G) (hT : Tabs T H)
    (he : ∀ (i : Nat) (G' H1 : Hp), Ex G G' → NoT G' → Ex G' H1 → Tabs T H1 → i < n → ∀ Q : VK, (∀ H2, Ex G' H2 → Tabs T H2 → Q (f i) H2) → te ((wipe σ vs).set j (some (.int (i : Int)))) H1 Q)
    {Q : VK} (k : ∀ p H', H p = none → Ex G H' → Tabs T H' → H' p = some (.lst ((List.range n).map f)) → Q (.ref p) H') : tLc (iRng1 ta) (gName j) tYes te vs σ H Q := by
  refine h H (Ex.refl H) _ fun H1 e1 => ?_
  refine ⟨(n : Int), rfl, by omega, by omega, fun Dl hD => lc_range (lo := 0) (n := ((n : Int)).toNat) (fun i H' => Ex G H' ∧ Tabs T H' ∧ H' Dl = some (.lst ((List.range i).map f))) ⟨eG.trans (e1.trans (Ex.new hD)), hT.ext (e1.trans (Ex.new hD)), upd_same⟩ (fun i H' hi p => ?_) fun H' p => ?_⟩
  · have e0 : (0 : Int) + (i : Int) = (i : Int) := Int.zero_add _
    show wipe ((wipe σ vs).set j (some (.int ((0 : Int) + (i : Int))))) vs = wipe σ vs ∧ tYes ((wipe σ vs).set j (some (.int ((0 : Int) + (i : Int))))) H' fun b H3 => if b = true then te ((wipe σ vs).set j (some (.int ((0 : Int) + (i : Int))))) H3 fun y H4 => ∃ acc, H4 Dl = some (.lst acc) ∧ acc.length < sizeLine ∧ (Ex G (upd H4 Dl (.lst (acc ++ [y]))) ∧ Tabs T (upd H4 Dl (.lst (acc ++ [y]))) ∧ upd H4 Dl (.lst (acc ++ [y])) Dl = some (.lst ((List.range (i + 1)).map f))) else Ex G H3 ∧ Tabs T H3 ∧ H3 Dl = some (.lst ((List.range (i + 1)).map f))
    rw [e0]
    obtain ⟨p1, p2, p3⟩ := p
    refine ⟨hw _, ?_⟩
    show te ((wipe σ vs).set j (some (.int (i : Int)))) H' _
    have gD : G Dl = none := fresh_back (eG.trans e1) hD
    refine he i (upd G Dl (.lst ((List.range i).map f))) H' (ex_upd gD) nT.put (ex_put p1 p3) p2 (by omega) _ fun H2 e2 t2 => ?_
    have h2 := e2 _ _ (upd_same (H := G) (a := Dl) (o := .lst ((List.range i).map f)))
    refine ⟨_, h2, ?_, Ex.mut ((ex_upd gD).trans e2) gD, tabs_lst t2 h2, ?_⟩
    · rw [List.length_map, List.length_range]
      exact sz_lt (by omega)
    · rw [upd_same, List.range_succ, List.map_append]
      rfl
  · obtain ⟨p1, p2, p3⟩ := p
    exact k Dl H' (fresh_back e1 hD) p1 p2 p3
theorem r_opL {r : R2} {ta' tb : TE} {xs : List V} {D : Ends} (h : EvL ta' σ H xs) (k : ∀ l H1, H l = none → Ex H H1 → H1 l = some (.lst xs) → tb σ H1 fun y H2 => r (.ref l) y H2 D.rt) : tRet (tOp r ta' tb) D σ H := h H (Ex.refl H) _ k
/-- a method of what knows what's sure, at what has just been made -/
theorem call_sure {E : XK} {p : Addr} {m : Vbtoad.Net} {d kk t q : Nat} {tl : TA} (hS : SurK K H p m d) (h : EvA tl σ H [.int (kk : Int), .int (t : Int), .int (q : Int)]) (hk : kk < 4) (hp : q < m.places.length) {Q : VK} (k : ∀ H1, Ex H H1 → Q (.int (Vbtoad.orNone (sureK m d kk q t))) H1) :
    ∃ a dx fs, V.ref p = .ref a ∧ H a = some (.ins (cSur K) dx fs) ∧ fs.lookup ("sure" : Str) = none ∧ tl σ H fun vs H1 => sp_Sureness_sure K (.ref p :: (vs ++ [])) H1 Q E := by
  obtain ⟨⟨na, cm, wm, rows, wrows, ⟨⟨dx, ho⟩, -, -, -⟩⟩, -⟩ := id hS
  refine ⟨p, dx, _, rfl, ho, lSureness_sure, h H (Ex.refl H) _ fun H1 e1 => ⟨_, H1, Ex.refl _, ⟨p, m, d, _, kk, t, q, rfl, hS.ex e1, hk, hp, rfl⟩, fun H2 e2 => ?_⟩⟩
  rw [tabK_row hk, sureI_K]
  exact k H2 (e1.trans e2)
theorem x_sureOf {E E' : XK} {na : Addr} {m : Vbtoad.Net} {d kk t q : Nat} {tl tr : TA} (h : EvA tl σ H [.ref na, .int (d : Int)]) (eG : Ex G H) (nT : NoT G) (hT : Tabs (tS K) H) (hn : NetAt K G na m) (ok : NetOk m) (hd : d < m.places.length)
    (hr : ∀ H', Ex G H' → EvA tr σ H' [.int (kk : Int), .int (t : Int), .int (q : Int)]) (hk : kk < 4) (hp : q < m.places.length) {Q : VK} (k : ∀ H', Ex G H' → Tabs (tS K) H' → Q (.int (Vbtoad.orNone (sureK m d kk q t))) H') :
    tMeth (cSur K) "sure" (sp_Sureness_sure K) [] E (tMake (cSur K) (sp_Sureness_init K) [] E' tl) tr σ H Q :=
  x_makeS (Q := fun x H1 => ∃ a dx fs, x = .ref a ∧ H1 a = some (.ins (cSur K) dx fs) ∧ fs.lookup ("sure" : Str) = none ∧ tr σ H1 fun vs H2 => sp_Sureness_sure K (x :: (vs ++ [])) H2 Q E) h eG nT hT hn ok hd
    fun p H' gp e t s => call_sure s (hr H' e) hk hp fun H1 e1 => k H1 (e.trans e1) (t.ext e1)
end
def tableV (n : Vbtoad.Net) (kk t p : Nat) : List Int := (List.range n.places.length).map fun d => Vbtoad.orNone (sureK n d kk p t)
def sp_table_answer (K : PySem.W.Frag) : Sp := TabL K fun vs G xs => ∃ (na : Addr) (n : Vbtoad.Net) (kk t p : Nat), vs = [.ref na, .int (kk : Int), .int (t : Int), .int (p : Int)] ∧ NetAt K G na n ∧ NetOk n ∧ kk < 4 ∧ p < n.places.length ∧ xs = ((0 : Int) :: tableV n kk t p).map V.int
theorem sc_table_answer : FnScope ["net", "k", "minute", "place", "goal"] ["net", "k", "minute", "place"] (defScope s_table_answer) := ⟨rfl, rfl, rfl, by decide +kernel, rfl, by decide +kernel, by decide +kernel⟩
theorem ok_table_answer {P : Program} {w : World} {K : PySem.W.Frag} {mg : Str → Option Value} {base : Heap} (T : Txt w K mg) (TB : TabB base mg (cS K) (pS K)) : OkD P w K mg base CX0 9 (He.ga K "table_answer") ["net", "k", "minute", "place"] (sp_table_answer K) := by
  obtain ⟨fd_Sureness_sure, G_Sureness_sure, B_Sureness_sure, K_Sureness_sure⟩ := ok_Sureness_sure (P := P) (w := w) (base := base) T
  obtain ⟨fd_Sureness_init, G_Sureness_init, B_Sureness_init, K_Sureness_init⟩ := ok_Sureness_init (P := P) (w := w) (base := base) T TB
  obtain ⟨fd, F⟩ := T.f_table_answer
  refine ⟨fd, F.ok sc_table_answer (fun vs H Q E h => ?_) (fun cdv A outer s H vs Q E hr h => ?_), F.bindsN fun _ _ _ _ _ _ us hl => match us, hl with | [_, _, _, _], _ => rfl, F.kp⟩
  · obtain ⟨xs, G, eG, nT, hT, ⟨na, n, kk, t, p, rfl, hn, ok, hk, hp, rfl⟩, k⟩ := h
    rfl
  · refine ⟨_, PSs.nox (pss_one (ps_ret (pe_op op_cat (pe_lst (pa_cons pe_int pa_nil)) (pe_lc (own := [("goal", 4)]) (g := (gName 4)) rfl sc_table_answer.nd (pi_range1 rfl T.b_range (pa_cons (pe_callB call_len_seq (by rfl) T.b_len PySem.boot_len (pa_cons (pe_fld (pv 0) rfl) pa_nil)) pa_nil)) (blkOk_by (own := [("goal", 4)]) (N := ["net", "k", "minute", "place", "goal"]) (sc := defScope s_table_answer) (by decide +kernel)) (fun _ _ _ _ _ => (pg_name (i := 4) sc_table_answer.nd rfl (Or.inl rfl))) (fun _ _ _ _ _ => pts_nil) (fun _ _ _ _ _ => (pe_meth (pe_make T.k_Sureness G_Sureness_init (hr.mono (by decide)) rfl T.g_Sureness B_Sureness_init .nil pass0 (pa_cons (pv 0) (pa_cons (pv 4) pa_nil))) T.c_Sureness T.m_Sureness_sure G_Sureness_sure (hr.mono (by decide)) B_Sureness_sure .nil pass0 (pa_cons (pv 1) (pa_cons (pv 2) (pa_cons (pv 3) pa_nil))))))))), ?_⟩
    obtain ⟨xs, G, eG, nT, hT, ⟨na, n, kk, t, p, rfl, hn, ok, hk, hp, rfl⟩, k⟩ := h
    obtain ⟨pl, cl, gl, ⟨dn, hno⟩, ⟨ps, p1, p2⟩, -, -⟩ := id hn
    have l1 : ps.length = n.places.length := paired_len p2
    have opl := ok.pl
    refine r_opL (el_lst (ea_cons ev_c ea_nil) (by show 1 ≤ 100000; decide)) fun l H1 hl e1 h1 => ?_
    have gl : G l = none := fresh_back eG hl
    have eG1 := eG.trans e1
    refine x_lcT (G := upd G l (.lst [V.int 0])) (n := n.places.length) (fun d => .int (Vbtoad.orNone (sureK n d kk p t))) (ea_cons (ev_is (ev_len (ev_fld (ev_var rfl) (eG1 _ _ hno) T.c_Net T.n_Net_places lNet_places) (sq_of (eG1 _ _ p1))) (by rw [List.length_map, l1])) ea_nil) (by omega) (fun x => rfl)
      (ex_put eG1 h1) nT.put (hT.ext e1) (fun i G' H2 eG' nT' e2 t2 hi Q' q => ?_) fun m H2 hm e2 t2 h2 => ⟨l, m, _, _, rfl, rfl, e2 _ _ upd_same, h2, ?_, fun q hq => k q _ (fresh_back ((ex_upd gl).trans e2) hq) (((ex_upd gl).trans e2).trans (Ex.new hq)) (t2.ext (Ex.new hq)) ?_⟩
    · exact x_sureOf (G := G') (ea_cons (ev_var rfl) (ea_cons (ev_var rfl) ea_nil)) e2 nT' t2 (hn.ex ((ex_upd gl).trans eG')) ok hi (fun H3 e3 => ea_cons (ev_var rfl) (ea_cons (ev_var rfl) (ea_cons (ev_var rfl) ea_nil))) hk hp fun H4 e4 t4 => q H4 e4 t4
    · rw [List.length_map, List.length_range]
      show 1 + _ ≤ sizeLine
      exact sz_of (by omega)
    · rw [upd_same]
      unfold tableV
      rw [List.map_cons, List.map_map]
      rfl
end SJ
/-! Calls: who, stands. -/
namespace SJ
open PySem PySem.Spec PyProof.Rows L2 Evl LamX
section
variable {K : PySem.W.Frag} {σ : L2.St} {H : Hp} {te : TE} {t : TT} {tl ta : TA} {i j : Nat} {vs : List Nat} {a : Addr} {xs : List V} {D : Ends} {tu tz : TS}
/-- a comprehension over enumerate -/
theorem el_lcE (f : Nat → Bool) (v : Nat → V) (h : EvA tl σ H [.ref a]) (hx : H a = some (.lst xs)) (hz : xs.length ≤ 40000) (hw : ∀ x y, wipe (((wipe σ vs).set i (some x)).set j (some y)) vs = wipe σ vs)
    (ht : ∀ (k : Nat) (x : V) H1, Ex H H1 → xs[k]? = some x → EvT t (((wipe σ vs).set i (some (.int (k : Int)))).set j (some x)) H1 (f k)) (he : ∀ (k : Nat) (x : V) H1, Ex H H1 → xs[k]? = some x → f k = true → Ev te (((wipe σ vs).set i (some (.int (k : Int)))).set j (some x)) H1 (v k)) :
    EvL (tLc (iEnum K tl) (gPair K i j) t te vs) σ H (given xs.length f v) := fun H0 e Q q => h H0 e _ fun H1 e1 => ⟨a, xs, rfl, sq_of ((e.trans e1) _ _ hx), fun Dl hD =>
  lc_it (walk_enum (xs := xs)) (Cw H1 f v Dl) ⟨hD, Ex.new hD, upd_same⟩ (fun k H' _ p => sq_of (p.2.1 _ _ ((e.trans e1) _ _ hx))) (fun k x H' H2 hi p y => by
    obtain ⟨T, x, y, rfl, hT, rfl, hx', hy⟩ := y
    cases hx'
    have p' : Cw H1 f v Dl k (upd H' T (.tup [.int (k : Int), y])) := ⟨p.1, p.2.1.trans (Ex.new hT), by rw [upd_ne (ne_of_none p.2.2 hT)]; exact p.2.2⟩
    exact g_pair (st_of upd_same) ⟨hw _ _, cw_turn p' (by omega) (ht k y H1 (e.trans e1) hy) fun hf => he k y H1 (e.trans e1) hy hf⟩) fun H' p => q Dl H' (fresh_back e1 p.1) (e1.trans p.2.1) p.2.2⟩
/-- for k in range(lo, hi, c), nothing changed -/
theorem q_forR3 {lo hi c : Int} {n : Nat} (h : EvA ta σ H [.int lo, .int hi, .int c]) (hr : RgC lo hi c n) (W : Nat → L2.St → Prop) (h0 : W 0 σ)
    (hs : ∀ k σ' H', Ex H H' → k < n → W k σ' → tu { D with nx := fun σ2 H2 => Ex H H2 ∧ W (k + 1) σ2, ct := fun σ2 H2 => Ex H H2 ∧ W (k + 1) σ2, bk := tz D } (σ'.set j (some (.int (lo + (k : Nat) * c)))) H')
    (hd : ∀ σ' H', Ex H H' → W n σ' → tz D σ' H') : tSeq (tFor (iRng3 ta) (gName j) tu) tz D σ H :=
  h H (Ex.refl H) _ fun H1 e => ⟨lo, hi, c, n, rfl, hr, for_it (D := { D with nx := tz D }) walk_rangeC (fun k σ' H' => Ex H H' ∧ W k σ') ⟨e, h0⟩ (fun _ _ _ _ _ => True.intro) (fun k v σ' H' H2 hk p y => by
    obtain ⟨rfl, rfl⟩ := y
    exact hs k σ' _ p.1 hk p.2) fun σ' H' p => hd σ' H' p.1 p.2⟩
theorem et_atMost {ta tb tc : TE} {a : Option Nat} {l : Nat} (h1 : Ev ta σ H (.int (Vbtoad.orNone a))) (h2 : Ev tb σ H (.int (-1))) (h3 : Ev tc σ H (.int (Vbtoad.orNone a))) {td : TE} (h4 : Ev td σ H (.int (l : Int))) :
    EvT (tAnd (tTest (tOp rNe ta tb)) (tTest (tOp (rI0 fun i j => .bl (decide (i ≤ j))) tc td))) σ H (a.any fun m => decide (m ≤ l)) := by
  refine et_is (et_and (et_test (ev_neI h1 h2)) fun _ => et_test (ev_op h3 h4 rv_I0)) ?_
  cases a with
  | none => rfl
  | some m =>
    have e1 : decide ((m : Int) = -1) = false := decide_eq_false (by omega)
    show (!decide ((m : Int) = -1) && decide ((m : Int) ≤ (l : Int))) = decide (m ≤ l)
    rw [e1]
    simp
/-- a slice of what a def gives that fills tables of code objects -/
theorem x_slT {G : Hp} {E : XK} {P : List V → Hp → List V → Prop} {vs xs dvs : List V} {lo hi : Option Int} {tlo thi : TO} (h : EvA tl σ H vs) (eG : Ex G H) (nT : NoT G) (hT : Tabs (tS K) H) (hp : P (vs ++ dvs) G xs) (h1 : ∀ H', EvO tlo σ H' lo) (h2 : ∀ H', EvO thi σ H' hi) {Q : VK}
    (k : ∀ p H', G p = none → Ex G H' → Tabs (tS K) H' → H' p = some (.lst (cutV xs lo hi)) → Q (.ref p) H') : tSl (rSlL K) (tCall (TabL K P) dvs E tl) tlo thi σ H Q :=
  x_tabL (Q := fun x H1 => tlo σ H1 fun l H2 => thi σ H2 fun u H3 => rSlL K x l u H3 Q) h eG nT hT hp fun p H2 gp e2 t2 h3 => (el_sl (K := K) (te := tC (.ref p)) (tl := tlo) (th := thi) (σ := σ) ev_c (h1 _) (h2 _) (sq_of h3)) H2 (Ex.refl _) _ fun q H3 hq e3 h4 => k q H3 (fresh_back e2 hq) (e2.trans e3) (t2.ext e3) h4
theorem q_slT {G : Hp} {E : XK} {P : List V → Hp → List V → Prop} {vs xs dvs : List V} {lo hi : Option Int} {tlo thi : TO} (h : EvA tl σ H vs) (eG : Ex G H) (nT : NoT G) (hT : Tabs (tS K) H) (hp : P (vs ++ dvs) G xs) (h1 : ∀ H', EvO tlo σ H' lo) (h2 : ∀ H', EvO thi σ H' hi)
    (k : ∀ p H', G p = none → Ex G H' → Tabs (tS K) H' → H' p = some (.lst (cutV xs lo hi)) → tz D (σ.set i (some (.ref p))) H') : tSeq (tAsg (tSl (rSlL K) (tCall (TabL K P) dvs E tl) tlo thi) (gName i)) tz D σ H :=
  x_slT (Q := fun v H2 => gName i v σ H2 fun σ2 H3 => tz D σ2 H3) h eG nT hT hp h1 h2 k
end
def whoK (n : Vbtoad.Net) (kk t l p : Nat) : List Nat := (List.range n.places.length).filter fun d => (sureK n d kk p t).any fun a => decide (a ≤ l)
def sp_who_answer (K : PySem.W.Frag) : Sp := TabL K fun vs G xs => ∃ (na g : Addr) (kvs : List (Key × V)) (n : Vbtoad.Net) (kk t l p : Nat), vs = [.ref na, .ref g] ∧ NetAt K G na n ∧ NetOk n ∧ G g = some (.dK kvs) ∧
  valV kvs (.inr "k") = some (nV kk) ∧ valV kvs (.inr "t") = some (nV t) ∧ valV kvs (.inr "l") = some (nV l) ∧ valV kvs (.inr "p") = some (nV p) ∧ kk < 4 ∧ p < n.places.length ∧
  xs = ((0 : Int) :: ((whoK n kk t l p).length : Int) :: Vbtoad.ints (whoK n kk t l p)).map V.int
theorem sc_who_answer : FnScope ["net", "given", "sures", "found", "place", "sure"] ["net", "given"] (defScope s_who_answer) := ⟨rfl, rfl, rfl, by decide +kernel, rfl, by decide +kernel, by decide +kernel⟩
theorem ok_who_answer {P : Program} {w : World} {K : PySem.W.Frag} {mg : Str → Option Value} {base : Heap} (T : Txt w K mg) (TB : TabB base mg (cS K) (pS K)) : OkD P w K mg base CX0 10 (He.ga K "who_answer") ["net", "given"] (sp_who_answer K) := by
  obtain ⟨fd_table_answer, G_table_answer, B_table_answer, K_table_answer⟩ := ok_table_answer (P := P) (w := w) (base := base) T TB
  obtain ⟨fd, F⟩ := T.f_who_answer
  refine ⟨fd, F.ok sc_who_answer (fun vs H Q E h => ?_) (fun cdv A outer s H vs Q E hr h => ?_), F.bindsN fun _ _ _ _ _ _ us hl => match us, hl with | [_, _], _ => rfl, F.kp⟩
  · obtain ⟨xs, G, eG, nT, hT, ⟨na, g, kvs, n, kk, t, l, p, rfl, hn, ok, hg, vk, vt, vl, vp, hk, hp, rfl⟩, k⟩ := h
    rfl
  · refine ⟨_, PSs.nox (pss_cons (ps_set (i := 2) sc_who_answer.nd rfl (Or.inl rfl) (pe_slice sl_list (pe_call G_table_answer (hr.mono (by decide)) rfl T.g_table_answer K_table_answer B_table_answer .nil pass0 (pa_cons (pv 0) (pa_cons (pe_dget (hu_of hr) (pv 1) pe_str (fun _ _ => rfl)) (pa_cons (pe_dget (hu_of hr) (pv 1) pe_str (fun _ _ => rfl)) (pa_cons (pe_dget (hu_of hr) (pv 1) pe_str (fun _ _ => rfl)) pa_nil))))) (po_some pe_int) po_none)) (pss_cons (ps_setLc (i := 3) (own := [("place", 4), ("sure", 5)]) (g := (gPair K 4 5)) rfl sc_who_answer.nd rfl rfl (sw_true rfl rfl rfl (by decide +kernel)) (pi_enum rfl T.b_enumerate (pa_cons (pv 2) pa_nil)) (blkOk_by (own := [("place", 4), ("sure", 5)]) (N := ["net", "given", "sures", "found", "place", "sure"]) (sc := defScope s_who_answer) (by decide +kernel)) (fun _ _ _ _ _ => (pg_tup rfl (pgs_cons (pg_name (i := 4) sc_who_answer.nd rfl (Or.inl rfl)) (pgs_cons (pg_name (i := 5) sc_who_answer.nd rfl (Or.inl rfl)) pgs_nil)))) (fun _ _ _ _ _ => (pts_one (PW.pt (pw_and (pt_cmpR op_ne (pv 5) (pe_gint T.i_NONE) (nomark _)) (pw_and1 (pt_cmpR op_le (pv 5) (pe_dget (hu_of hr) (pv 1) pe_str (fun _ _ => rfl)) (nomark _))))))) (fun _ _ _ _ _ => (pv 4))) (pss_one (ps_ret (pe_op op_cat (pe_lst (pa_cons pe_int (pa_cons (pe_callB call_len_seq (by rfl) T.b_len PySem.boot_len (pa_cons (pv 3) pa_nil)) pa_nil))) (pv 3)))))), ?_⟩
    obtain ⟨xs, G, eG, nT, hT, ⟨na, g, kvs, n, kk, t, l, p, rfl, hn, ok, hg, vk, vt, vl, vp, hk, hp, rfl⟩, k⟩ := h
    refine q_slT (lo := some ((1 : Nat) : Int)) (hi := none) (ea_cons (ev_var rfl) (ea_cons (ev_dget (ev_var rfl) ev_c (eG _ _ hg) vk) (ea_cons (ev_dget (ev_var rfl) ev_c (eG _ _ hg) vt) (ea_cons (ev_dget (ev_var rfl) ev_c (eG _ _ hg) vp) ea_nil)))) eG nT hT ⟨na, n, kk, t, p, rfl, hn, ok, hk, hp, rfl⟩ (fun H' => eo_some ev_c) (fun H' => eo_none) fun s H1 gs e1 t1 h1 => ?_
    have opl := ok.pl
    have lt : (tableV n kk t p).length = n.places.length := by
      unfold tableV
      rw [List.length_map, List.length_range]
    have hs : H1 s = some (.lst ((tableV n kk t p).map V.int)) := by
      rw [h1, List.map_cons, cut_drop (by rw [List.length_cons]; omega)]
      rfl
    have tg : ∀ {i : Nat} {x : V}, ((tableV n kk t p).map V.int)[i]? = some x → i < n.places.length ∧ x = .int (Vbtoad.orNone (sureK n i kk p t)) := fun {i x} h => by
      rw [List.getElem?_map] at h
      obtain ⟨y, hy, rfl⟩ := Option.map_eq_some_iff.mp h
      have hi := (List.getElem?_eq_some_iff.mp hy).1
      rw [lt] at hi
      unfold tableV at hy
      rw [List.getElem?_map, List.getElem?_range hi] at hy
      exact ⟨hi, by cases hy; rfl⟩
    refine q_asgL (el_is (ys := (whoK n kk t l p).map nV) (el_lcE (fun d => (sureK n d kk p t).any fun a => decide (a ≤ l)) (fun d => nV d) (ea_cons (ev_var rfl) ea_nil) hs (by rw [List.length_map, lt]; omega) (fun x y => rfl) (fun i x H2 e2 hx => ?_) (fun i x H2 e2 hx _ => ev_var rfl)) ?_) fun f H2 hf e2 h2 => ?_
    · obtain ⟨hi, rfl⟩ := tg hx
      exact et_atMost (ev_var rfl) ev_c (ev_var rfl) (ev_dget (ev_var rfl) ev_c ((e1.trans e2) _ _ hg) vl)
    · rw [List.length_map, lt]
      rfl
    · have lw : (whoK n kk t l p).length ≤ n.places.length := by
        unfold whoK
        exact Nat.le_trans (List.length_filter_le _ _) (Nat.le_of_eq List.length_range)
      refine s_retL (el_catR (el_lst (ea_cons ev_c (ea_cons (ev_len (ev_var rfl) (sq_of h2)) ea_nil)) (by show 2 ≤ 100000; decide)) (ev_var rfl) h2 (by rw [List.length_map]; show 2 + _ ≤ 100000; omega)) fun z H3 hz e3 h3 =>
        k z H3 (fresh_back e1 (fresh_back e2 hz)) (e1.trans (e2.trans e3)) (t1.ext (e2.trans e3)) ?_
      rw [h3, List.length_map]
      unfold Vbtoad.ints
      rw [List.map_cons, List.map_cons, List.map_map]
      rfl
def standsK (n : Vbtoad.Net) (t l p d : Nat) : Option Nat := [3, 2, 1, 0].find? fun k => (sureK n d k p t).any fun a => decide (a ≤ l)
def sp_stands_answer (K : PySem.W.Frag) : Sp := TabL K fun vs G xs => ∃ (na g : Addr) (kvs : List (Key × V)) (n : Vbtoad.Net) (t l p d : Nat), vs = [.ref na, .ref g] ∧ NetAt K G na n ∧ NetOk n ∧ G g = some (.dK kvs) ∧
  valV kvs (.inr "t") = some (nV t) ∧ valV kvs (.inr "l") = some (nV l) ∧ valV kvs (.inr "p") = some (nV p) ∧ valV kvs (.inr "d") = some (nV d) ∧ p < n.places.length ∧ d < n.places.length ∧
  xs = (Vbtoad.toldOr (standsK n t l p d)).map V.int
theorem sc_stands_answer : FnScope ["net", "given", "sureness", "k", "sure"] ["net", "given"] (defScope s_stands_answer) := ⟨rfl, rfl, rfl, by decide +kernel, rfl, by decide +kernel, by decide +kernel⟩
theorem ok_stands_answer {P : Program} {w : World} {K : PySem.W.Frag} {mg : Str → Option Value} {base : Heap} (T : Txt w K mg) (TB : TabB base mg (cS K) (pS K)) : OkD P w K mg base CX0 9 (He.ga K "stands_answer") ["net", "given"] (sp_stands_answer K) := by
  obtain ⟨fd_Sureness_sure, G_Sureness_sure, B_Sureness_sure, K_Sureness_sure⟩ := ok_Sureness_sure (P := P) (w := w) (base := base) T
  obtain ⟨fd_Sureness_init, G_Sureness_init, B_Sureness_init, K_Sureness_init⟩ := ok_Sureness_init (P := P) (w := w) (base := base) T TB
  obtain ⟨fd, F⟩ := T.f_stands_answer
  refine ⟨fd, F.ok sc_stands_answer (fun vs H Q E h => ?_) (fun cdv A outer s H vs Q E hr h => ?_), F.bindsN fun _ _ _ _ _ _ us hl => match us, hl with | [_, _], _ => rfl, F.kp⟩
  · obtain ⟨xs, G, eG, nT, hT, ⟨na, g, kvs, n, t, l, p, d, rfl, hn, ok, hg, vt, vl, vp, vd, hp, hd, rfl⟩, k⟩ := h
    rfl
  · refine ⟨_, PSs.nox (pss_cons (ps_set (i := 2) sc_stands_answer.nd rfl (Or.inl rfl) (pe_make T.k_Sureness G_Sureness_init (hr.mono (by decide)) rfl T.g_Sureness B_Sureness_init .nil pass0 (pa_cons (pv 0) (pa_cons (pe_dget (hu_of hr) (pv 1) pe_str (fun _ _ => rfl)) pa_nil)))) (pss_cons (ps_for PassesOwn.never rfl (pi_range3 rfl T.b_range (pa_cons (pe_gint T.i_MOST_CANCELLED) (pa_cons (pe_un un_neg pe_int) (pa_cons (pe_un un_neg pe_int) pa_nil)))) (pg_name (i := 3) sc_stands_answer.nd rfl (Or.inl rfl)) (pss_cons (ps_set (i := 4) sc_stands_answer.nd rfl (Or.inl rfl) (pe_meth (pv 2) T.c_Sureness T.m_Sureness_sure G_Sureness_sure (hr.mono (by decide)) B_Sureness_sure .nil pass0 (pa_cons (pv 3) (pa_cons (pe_dget (hu_of hr) (pv 1) pe_str (fun _ _ => rfl)) (pa_cons (pe_dget (hu_of hr) (pv 1) pe_str (fun _ _ => rfl)) pa_nil))))) (pss_one (ps_if (PW.pt (pw_and (pt_cmpR op_ne (pv 4) (pe_gint T.i_NONE) (nomark _)) (pw_and1 (pt_cmpR op_le (pv 4) (pe_dget (hu_of hr) (pv 1) pe_str (fun _ _ => rfl)) (nomark _))))) (pss_one (ps_ret (pe_lst (pa_cons pe_int (pa_cons (pv 3) pa_nil))))) pss_nil)))) (pss_one (ps_ret (pe_lst (pa_cons (pe_gint T.i_NOTHING_SURE) pa_nil)))))), ?_⟩
    obtain ⟨xs, G, eG, nT, hT, ⟨na, g, kvs, n, t, l, p, d, rfl, hn, ok, hg, vt, vl, vp, vd, hp, hd, rfl⟩, k⟩ := h
    refine q_asgS (ea_cons (ev_var rfl) (ea_cons (ev_dget (ev_var rfl) ev_c (eG _ _ hg) vd) ea_nil)) eG nT hT hn ok hd fun sa H1 gs e1 t1 hS => ?_
    have back : ∀ {q : Addr} {H3 : Hp}, Ex H1 H3 → H3 q = none → G q = none := fun e h => fresh_back e1 (fresh_back e h)
    refine q_forR3 (n := 4) (ea_cons ev_c (ea_cons (ev_un ev_c ru_neg) (ea_cons (ev_un ev_c ru_neg) ea_nil))) (RgC.neg (i := 3) (j := -1) (by decide) (by decide) (by decide) (by decide))
      (fun i σ' => (∃ x3 x4, σ' = [some (.ref na), some (.ref g), some (.ref sa), x3, x4]) ∧ ∀ j, j < i → (sureK n d (3 - j) p t).any (fun a => decide (a ≤ l)) = false) ⟨⟨_, _, rfl⟩, fun j hj => absurd hj (Nat.not_lt_zero j)⟩ ?_ ?_
    · rintro i σ' H2 e2 hi ⟨⟨x3, x4, rfl⟩, hW⟩
      have ei : (3 : Int) + (i : Int) * (-1) = ((3 - i : Nat) : Int) := by omega
      rw [ei]
      refine q_asg (ev_sure hS e2 (ev_var rfl) (ev_var rfl) (ev_dget (ev_var rfl) ev_c ((e1.trans e2) _ _ hg) vt) (ev_dget (ev_var rfl) ev_c ((e1.trans e2) _ _ hg) vp) (by omega) hp) fun H3 e3 => ?_
      refine s_when (et_atMost (ev_var rfl) ev_c (ev_var rfl) (ev_dget (ev_var rfl) ev_c ((e1.trans (e2.trans e3)) _ _ hg) vl)) (fun hb H4 e4 => ?_) (fun hb H4 e4 => ?_)
      · have e24 := e2.trans (e3.trans e4)
        refine s_retL (el_lst (ea_cons ev_c (ea_cons (ev_var rfl) ea_nil)) (by show 2 ≤ 100000; decide)) fun q H5 hq e5 h5 => k q H5 (back e24 hq) (e1.trans (e24.trans e5)) (t1.ext (e24.trans e5)) ?_
        have es : standsK n t l p d = some (3 - i) := by
          unfold standsK
          have f : ∀ j, j < i → (sureK n d (3 - j) p t).any (fun a => decide (a ≤ l)) = false := hW
          match i, hi, hb, f with
          | 0, _, hb, _ => exact List.find?_cons_of_pos hb
          | 1, _, hb, f => exact (List.find?_cons_of_neg (by rw [f 0 (by omega)]; exact Bool.false_ne_true)).trans (List.find?_cons_of_pos hb)
          | 2, _, hb, f => exact (List.find?_cons_of_neg (by rw [f 0 (by omega)]; exact Bool.false_ne_true)).trans ((List.find?_cons_of_neg (by rw [f 1 (by omega)]; exact Bool.false_ne_true)).trans (List.find?_cons_of_pos hb))
          | 3, _, hb, f => exact (List.find?_cons_of_neg (by rw [f 0 (by omega)]; exact Bool.false_ne_true)).trans ((List.find?_cons_of_neg (by rw [f 1 (by omega)]; exact Bool.false_ne_true)).trans ((List.find?_cons_of_neg (by rw [f 2 (by omega)]; exact Bool.false_ne_true)).trans (List.find?_cons_of_pos hb)))
          | i + 4, hi, _, _ => omega
        rw [h5, es]
        rfl
      · refine ⟨e2.trans (e3.trans e4), ⟨_, _, rfl⟩, fun j hj => ?_⟩
        by_cases z : j = i
        · rw [z]
          exact hb
        · exact hW j (by omega)
    · rintro σ' H2 e2 ⟨⟨x3, x4, rfl⟩, hW⟩
      refine s_retL (el_lst (ea_cons ev_c ea_nil) (by show 1 ≤ 100000; decide)) fun q H5 hq e5 h5 => k q H5 (back e2 hq) (e1.trans (e2.trans e5)) (t1.ext (e2.trans e5)) ?_
      have es : standsK n t l p d = none := by
        unfold standsK
        rw [List.find?_eq_none]
        intro x hx
        have := hW (3 - x) (by simp at hx; omega)
        have e : 3 - (3 - x) = x := by simp at hx; omega
        rw [e] at this
        rw [this]
        exact Bool.false_ne_true
      rw [h5, es]
      rfl
end SJ
/-! Calls: what a name stands for; calls that ask what's sure. -/
namespace SJ
open PySem PySem.Spec PyProof.Rows L2 Evl LamX
section
variable {K : PySem.W.Frag} {σ : L2.St} {H : Hp} {te : TE} {i j : Nat} {xs : List V} {D : Ends} {tu tz : TS}
/-- for i, x in enumerate([..]), nothing changed -/
theorem q_forEN (h : EvL te σ H xs) (W : Nat → L2.St → Prop) (h0 : W 0 σ)
    (hs : ∀ H1, Ex H H1 → ∀ n y σ' H', Ex H1 H' → xs[n]? = some y → W n σ' → tu { D with nx := fun σ2 H2 => Ex H1 H2 ∧ W (n + 1) σ2, ct := fun σ2 H2 => Ex H1 H2 ∧ W (n + 1) σ2, bk := tz D } ((σ'.set i (some (.int (n : Int)))).set j (some y)) H')
    (hd : ∀ σ' H', Ex H H' → W xs.length σ' → tz D σ' H') : tSeq (tFor (iEnum K (tCons te tNil)) (gPair K i j) tu) tz D σ H :=
  h H (Ex.refl H) _ fun a H1 ha e hx => ⟨a, xs, rfl, sq_of hx, for_it (D := { D with nx := tz D }) (walk_enum (xs := xs)) (fun n σ' H' => Ex H1 H' ∧ W n σ') ⟨Ex.refl _, h0⟩ (fun n σ' H' _ p => sq_of (p.1 _ _ hx)) (fun n v σ' H' H2 hn p y => by
    obtain ⟨T, x, y, rfl, hT, rfl, hx', hy⟩ := y
    cases hx'
    exact g_pair (st_of upd_same) (hs H1 e n y σ' _ (p.1.trans (Ex.new hT)) hy p.2)) fun σ' H' p => hd σ' H' (e.trans p.1) p.2⟩
theorem r_tabL {G : Hp} {E : XK} {tl : TA} {P : List V → Hp → List V → Prop} {vs ys dvs : List V} (h : EvA tl σ H vs) (eG : Ex G H) (nT : NoT G) (hT : Tabs (tS K) H) (hp : P (vs ++ dvs) G ys)
    (k : ∀ p H', G p = none → Ex G H' → Tabs (tS K) H' → H' p = some (.lst ys) → D.rt (.ref p) H') : tRet (tCall (TabL K P) dvs E tl) D σ H := x_tabL (Q := D.rt) h eG nT hT hp k
end
theorem idx_names {α : Type} (f : α → List Nat) (t : List Nat) (l : List α) : idxI (fun x => x == t) (l.map f) = Vbtoad.orNone (l.findIdx? fun x => f x == t) := by
  unfold idxI
  rw [List.findIdx?_map]
  show (match l.findIdx? fun x => f x == t with
    | some i => (i : Int)
    | none => -1) = _
  cases l.findIdx? fun x => f x == t <;> rfl
def findL (n : Vbtoad.Net) (t : List Nat) : List Int := match n.places.findIdx? fun p => p.name == t with
  | some i => [0, 0, (i : Int)]
  | none => match n.cars.findIdx? fun c => c.name == t with
    | some i => [0, 1, (i : Int)]
    | none => match Vbtoad.goAt n t with
      | some i => [0, 2, (i : Int)]
      | none => [-5]
def sp_find_answer (K : PySem.W.Frag) : Sp := PureL fun vs G xs => ∃ (na ra : Addr) (n : Vbtoad.Net) (t : List Nat), vs = [.ref na, .ref ra] ∧ NetAt K G na n ∧ NameAt G ra t ∧ xs = (findL n t).map V.int
theorem sc_find_answer : FnScope ["net", "name", "sort", "things", "number"] ["net", "name"] (defScope s_find_answer) := ⟨rfl, rfl, rfl, by decide +kernel, rfl, by decide +kernel, by decide +kernel⟩
theorem ok_find_answer {P : Program} {w : World} {K : PySem.W.Frag} {mg : Str → Option Value} {base : Heap} (T : Txt w K mg) : OkD P w K mg base CX0 2 (He.ga K "find_answer") ["net", "name"] (sp_find_answer K) := by
  obtain ⟨fd_number_of, G_number_of, B_number_of, K_number_of⟩ := ok_number_of (P := P) (w := w) (base := base) T
  obtain ⟨fd, F⟩ := T.f_find_answer
  refine ⟨fd, F.ok sc_find_answer (fun vs H Q E h => ?_) (fun cdv A outer s H vs Q E hr h => ?_), F.bindsN fun _ _ _ _ _ _ us hl => match us, hl with | [_, _], _ => rfl, F.kp⟩
  · obtain ⟨xs, G, eG, ⟨na, ra, n, t, rfl, hn, hr2, rfl⟩, k⟩ := h
    rfl
  · refine ⟨_, PSs.nox (pss_cons (ps_for PassesOwn.never rfl (pi_enum rfl T.b_enumerate (pa_cons (pe_lst (pa_cons (pe_fld (pv 0) rfl) (pa_cons (pe_fld (pv 0) rfl) (pa_cons (pe_fld (pv 0) rfl) pa_nil)))) pa_nil)) (pg_tup rfl (pgs_cons (pg_name (i := 2) sc_find_answer.nd rfl (Or.inl rfl)) (pgs_cons (pg_name (i := 3) sc_find_answer.nd rfl (Or.inl rfl)) pgs_nil))) (pss_cons (ps_set (i := 4) sc_find_answer.nd rfl (Or.inl rfl) (pe_call G_number_of (hr.mono (by decide)) rfl T.g_number_of K_number_of B_number_of .nil pass0 (pa_cons (pv 3) (pa_cons (pv 1) pa_nil)))) (pss_one (ps_if (pt_cmpR op_ge (pv 4) pe_int (nomark _)) (pss_one (ps_ret (pe_lst (pa_cons pe_int (pa_cons (pv 2) (pa_cons (pv 4) pa_nil)))))) pss_nil)))) (pss_one (ps_ret (pe_lst (pa_cons (pe_gint T.i_NO_NAME) pa_nil))))), ?_⟩
    obtain ⟨xs, G, eG, ⟨na, ra, n, t, rfl, hn, hr2, rfl⟩, k⟩ := h
    obtain ⟨pl, cl, gl, ⟨dn, hno⟩, hpl, hcl, hgl⟩ := id hn
    have n1 := places_named T hpl
    have n2 := cars_named T hcl
    have n3 := goes_named T hgl
    generalize h0 : (n.places.findIdx? fun p => p.name == t) = o0
    generalize h1 : (n.cars.findIdx? fun c => c.name == t) = o1
    generalize h2 : (n.goes.findIdx? fun g => g.name == t) = o2
    refine q_forEN (xs := [.ref pl, .ref cl, .ref gl]) (el_lst (ea_cons (ev_fld (ev_var rfl) (eG _ _ hno) T.c_Net T.n_Net_places lNet_places) (ea_cons (ev_fld (ev_var rfl) (eG _ _ hno) T.c_Net T.n_Net_cars lNet_cars) (ea_cons (ev_fld (ev_var rfl) (eG _ _ hno) T.c_Net T.n_Net_goes lNet_goes) ea_nil))) (by show 3 ≤ 100000; decide))
      (fun m σ' => (∃ x2 x3 x4, σ' = [some (.ref na), some (.ref ra), x2, x3, x4]) ∧ (0 < m → o0 = none) ∧ (1 < m → o1 = none) ∧ (2 < m → o2 = none)) ⟨⟨_, _, _, rfl⟩, fun h => absurd h (by decide), fun h => absurd h (by decide), fun h => absurd h (by decide)⟩ ?_ ?_
    · rintro H0 e0 m y σ' H1 e1 hy ⟨⟨x2, x3, x4, rfl⟩, w0, w1, w2⟩
      rcases m with _ | _ | _ | m
      · cases hy
        refine q_asg (v := .int (Vbtoad.orNone o0)) (ev_is (ev_call (ea_cons (ev_var rfl) (ea_cons (ev_var rfl) ea_nil)) (spv_pure ⟨pl, ra, _, t, rfl, namesAt_ex n1 ((eG.trans e0).trans e1), (hr2.ex ((eG.trans e0).trans e1)), rfl⟩)) (congrArg V.int ((idx_names _ _ _).trans (congrArg Vbtoad.orNone h0)))) fun H2 e2 => ?_
        refine s_when (b := decide (Vbtoad.orNone o0 ≥ 0)) (et_test (ev_op (ev_var rfl) ev_c rv_I0)) (fun hb H3 e3 => ?_) (fun hb H3 e3 => ?_)
        · cases ho : o0 with
          | none => rw [ho] at hb; exact absurd (of_decide_eq_true hb) (by decide)
          | some i =>
            refine s_retL (el_lst (ea_cons ev_c (ea_cons (ev_var rfl) (ea_cons (ev_var rfl) ea_nil))) (by show 3 ≤ 100000; decide)) fun q H4 hq e4 h4 => k q H4 (fresh_back (e0.trans (e1.trans (e2.trans e3))) hq) (e0.trans (e1.trans (e2.trans (e3.trans e4)))) ?_
            rw [h4, show findL n t = _ from by unfold findL; rw [h0, ho]]
            rfl
        · have : o0 = none := by
            cases ho : o0 with
            | none => rfl
            | some i => rw [ho] at hb; exact absurd (of_decide_eq_false hb) (by show ¬ ¬ ((i : Int) ≥ 0); omega)
          exact ⟨e1.trans (e2.trans e3), ⟨_, _, _, rfl⟩, fun _ => this, fun h => absurd h (by decide), fun h => absurd h (by decide)⟩
      · cases hy
        refine q_asg (v := .int (Vbtoad.orNone o1)) (ev_is (ev_call (ea_cons (ev_var rfl) (ea_cons (ev_var rfl) ea_nil)) (spv_pure ⟨cl, ra, _, t, rfl, namesAt_ex n2 ((eG.trans e0).trans e1), (hr2.ex ((eG.trans e0).trans e1)), rfl⟩)) (congrArg V.int ((idx_names _ _ _).trans (congrArg Vbtoad.orNone h1)))) fun H2 e2 => ?_
        refine s_when (b := decide (Vbtoad.orNone o1 ≥ 0)) (et_test (ev_op (ev_var rfl) ev_c rv_I0)) (fun hb H3 e3 => ?_) (fun hb H3 e3 => ?_)
        · cases ho : o1 with
          | none => rw [ho] at hb; exact absurd (of_decide_eq_true hb) (by decide)
          | some i =>
            refine s_retL (el_lst (ea_cons ev_c (ea_cons (ev_var rfl) (ea_cons (ev_var rfl) ea_nil))) (by show 3 ≤ 100000; decide)) fun q H4 hq e4 h4 => k q H4 (fresh_back (e0.trans (e1.trans (e2.trans e3))) hq) (e0.trans (e1.trans (e2.trans (e3.trans e4)))) ?_
            rw [h4, show findL n t = _ from by unfold findL; rw [h0, h1, w0 (by decide), ho]]
            rfl
        · have : o1 = none := by
            cases ho : o1 with
            | none => rfl
            | some i => rw [ho] at hb; exact absurd (of_decide_eq_false hb) (by show ¬ ¬ ((i : Int) ≥ 0); omega)
          exact ⟨e1.trans (e2.trans e3), ⟨_, _, _, rfl⟩, fun _ => w0 (by decide), fun _ => this, fun h => absurd h (by decide)⟩
      · cases hy
        refine q_asg (v := .int (Vbtoad.orNone o2)) (ev_is (ev_call (ea_cons (ev_var rfl) (ea_cons (ev_var rfl) ea_nil)) (spv_pure ⟨gl, ra, _, t, rfl, namesAt_ex n3 ((eG.trans e0).trans e1), (hr2.ex ((eG.trans e0).trans e1)), rfl⟩)) (congrArg V.int ((idx_names _ _ _).trans (congrArg Vbtoad.orNone h2)))) fun H2 e2 => ?_
        refine s_when (b := decide (Vbtoad.orNone o2 ≥ 0)) (et_test (ev_op (ev_var rfl) ev_c rv_I0)) (fun hb H3 e3 => ?_) (fun hb H3 e3 => ?_)
        · cases ho : o2 with
          | none => rw [ho] at hb; exact absurd (of_decide_eq_true hb) (by decide)
          | some i =>
            refine s_retL (el_lst (ea_cons ev_c (ea_cons (ev_var rfl) (ea_cons (ev_var rfl) ea_nil))) (by show 3 ≤ 100000; decide)) fun q H4 hq e4 h4 => k q H4 (fresh_back (e0.trans (e1.trans (e2.trans e3))) hq) (e0.trans (e1.trans (e2.trans (e3.trans e4)))) ?_
            rw [h4, show findL n t = _ from by unfold findL Vbtoad.goAt; rw [h0, h1, h2, w0 (by decide), w1 (by decide), ho]]
            rfl
        · have : o2 = none := by
            cases ho : o2 with
            | none => rfl
            | some i => rw [ho] at hb; exact absurd (of_decide_eq_false hb) (by show ¬ ¬ ((i : Int) ≥ 0); omega)
          exact ⟨e1.trans (e2.trans e3), ⟨_, _, _, rfl⟩, fun _ => w0 (by decide), fun _ => w1 (by decide), fun _ => this⟩
      · cases hy
    · rintro σ' H1 e1 ⟨⟨x2, x3, x4, rfl⟩, w0, w1, w2⟩
      refine s_retL (el_lst (ea_cons ev_c ea_nil) (by show 1 ≤ 100000; decide)) fun q H4 hq e4 h4 => k q H4 (fresh_back e1 hq) (e1.trans e4) ?_
      have f : findL n t = [-5] := by
        unfold findL Vbtoad.goAt
        rw [h0, h1, h2, w0 (by show 0 < 3; decide), w1 (by show 1 < 3; decide), w2 (by show 2 < 3; decide)]
      rw [h4, f]
      rfl
def waysL (n : Vbtoad.Net) (kind k t l p d : Nat) (out : List Nat) : List Int :=
  if kind = 6 then 0 :: tableV n k t p
  else if kind = 7 then nextL (Vbtoad.toDo n (Vbtoad.roadsOf n) d k p t)
  else if kind = 8 then playL (Vbtoad.play n (Vbtoad.roadsOf n) d out Vbtoad.FUEL k p t)
  else if kind = 10 then profL (Vbtoad.profile n (Vbtoad.roadsOf n) d k p)
  else if kind = 11 then worstL (sureK n d k p t) (Vbtoad.worst n (Vbtoad.roadsOf n) d Vbtoad.FUEL k p t)
  else if kind = 13 then 0 :: ((whoK n k t l p).length : Int) :: Vbtoad.ints (whoK n k t l p)
  else if kind = 14 then Vbtoad.toldOr (standsK n t l p d)
  else if kind = 5 then Vbtoad.toldOr (sureK n d k p t)
  else if kind = 9 then Vbtoad.toldOr (Vbtoad.lastStart n (Vbtoad.roadsOf n) d k p l)
  else if kind = 12 then Vbtoad.toldOr (fwD n p d)
  else 0 :: rowK n d k
/-- the letters of a call that asks what's sure, told -/
structure WaysAt (G : Hp) (g : Addr) (kvs : List (Key × V)) (n : Vbtoad.Net) (kind k t l p d : Nat) : Prop where
  giv : G g = some (.dK kvs)
  kd : kind ∈ [5, 6, 7, 8, 9, 10, 11, 12, 13, 14, 17]
  k : kind ∈ [5, 6, 7, 8, 9, 10, 11, 13, 17] → valV kvs (.inr "k") = some (nV k) ∧ k < 4
  t : kind ∈ [5, 6, 7, 8, 11, 13, 14] → valV kvs (.inr "t") = some (nV t)
  l : kind ∈ [9, 13, 14] → valV kvs (.inr "l") = some (nV l)
  p : kind ∈ [5, 6, 7, 8, 9, 10, 11, 12, 13, 14] → valV kvs (.inr "p") = some (nV p) ∧ p < n.places.length
  d : kind ∈ [5, 7, 8, 9, 10, 11, 12, 14, 17] → valV kvs (.inr "d") = some (nV d) ∧ d < n.places.length
def sp_asked_of_ways (K : PySem.W.Frag) : Sp := TabL K fun vs G xs => ∃ (na g ra : Addr) (kvs : List (Key × V)) (n : Vbtoad.Net) (kind kk t l p d : Nat) (out : List Nat), vs = [.ref na, .int (kind : Int), .ref g, .ref ra] ∧ NetAt K G na n ∧ NetOk n ∧ WaysAt G g kvs n kind kk t l p d ∧ (kind = 8 → NameAt G ra out) ∧
  xs = (waysL n kind kk t l p d out).map V.int
theorem sc_asked_of_ways : FnScope ["net", "kind", "given", "row", "sureness"] ["net", "kind", "given", "row"] (defScope s_asked_of_ways) := ⟨rfl, rfl, rfl, by decide +kernel, rfl, by decide +kernel, by decide +kernel⟩
theorem ok_asked_of_ways {P : Program} {w : World} {K : PySem.W.Frag} {mg : Str → Option Value} {base : Heap} (T : Txt w K mg) (TB : TabB base mg (cS K) (pS K)) : OkD P w K mg base CX0 11 (He.ga K "asked_of_ways") ["net", "kind", "given", "row"] (sp_asked_of_ways K) := by
  obtain ⟨fd_sure_answer, G_sure_answer, B_sure_answer, K_sure_answer⟩ := ok_sure_answer (P := P) (w := w) (base := base) T
  obtain ⟨fd_Sureness_by_cars, G_Sureness_by_cars, B_Sureness_by_cars, K_Sureness_by_cars⟩ := ok_Sureness_by_cars (P := P) (w := w) (base := base) T
  obtain ⟨fd_last_minute, G_last_minute, B_last_minute, K_last_minute⟩ := ok_last_minute (P := P) (w := w) (base := base) T
  obtain ⟨fd_Sureness_sure, G_Sureness_sure, B_Sureness_sure, K_Sureness_sure⟩ := ok_Sureness_sure (P := P) (w := w) (base := base) T
  obtain ⟨fd_Sureness_init, G_Sureness_init, B_Sureness_init, K_Sureness_init⟩ := ok_Sureness_init (P := P) (w := w) (base := base) T TB
  obtain ⟨fd_stands_answer, G_stands_answer, B_stands_answer, K_stands_answer⟩ := ok_stands_answer (P := P) (w := w) (base := base) T TB
  obtain ⟨fd_who_answer, G_who_answer, B_who_answer, K_who_answer⟩ := ok_who_answer (P := P) (w := w) (base := base) T TB
  obtain ⟨fd_worst_answer, G_worst_answer, B_worst_answer, K_worst_answer⟩ := ok_worst_answer (P := P) (w := w) (base := base) T TB
  obtain ⟨fd_profile_answer, G_profile_answer, B_profile_answer, K_profile_answer⟩ := ok_profile_answer (P := P) (w := w) (base := base) T TB
  obtain ⟨fd_play_answer, G_play_answer, B_play_answer, K_play_answer⟩ := ok_play_answer (P := P) (w := w) (base := base) T TB
  obtain ⟨fd_next_answer, G_next_answer, B_next_answer, K_next_answer⟩ := ok_next_answer (P := P) (w := w) (base := base) T TB
  obtain ⟨fd_table_answer, G_table_answer, B_table_answer, K_table_answer⟩ := ok_table_answer (P := P) (w := w) (base := base) T TB
  obtain ⟨fd, F⟩ := T.f_asked_of_ways
  refine ⟨fd, F.ok sc_asked_of_ways (fun vs H Q E h => ?_) (fun cdv A outer s H vs Q E hr h => ?_), F.bindsN fun _ _ _ _ _ _ us hl => match us, hl with | [_, _, _, _], _ => rfl, F.kp⟩
  · obtain ⟨xs, G, eG, nT, hT, ⟨na, g, ra, kvs, n, kind, kk, t, l, p, d, out, rfl, hn, ok, W, ho, rfl⟩, k⟩ := h
    rfl
  · refine ⟨_, PSs.nox (pss_cons (ps_if (pt_cmpR op_eq (pv 1) pe_int (nomark _)) (pss_one (ps_ret (pe_call G_table_answer (hr.mono (by decide)) rfl T.g_table_answer K_table_answer B_table_answer .nil pass0 (pa_cons (pv 0) (pa_cons (pe_dget (hu_of hr) (pv 2) pe_str (fun _ _ => rfl)) (pa_cons (pe_dget (hu_of hr) (pv 2) pe_str (fun _ _ => rfl)) (pa_cons (pe_dget (hu_of hr) (pv 2) pe_str (fun _ _ => rfl)) pa_nil))))))) pss_nil) (pss_cons (ps_if (pt_cmpR op_eq (pv 1) pe_int (nomark _)) (pss_one (ps_ret (pe_call G_next_answer (hr.mono (by decide)) rfl T.g_next_answer K_next_answer B_next_answer .nil pass0 (pa_cons (pv 0) (pa_cons (pv 2) pa_nil))))) pss_nil) (pss_cons (ps_if (pt_cmpR op_eq (pv 1) pe_int (nomark _)) (pss_one (ps_ret (pe_call G_play_answer (hr.mono (by decide)) rfl T.g_play_answer K_play_answer B_play_answer .nil pass0 (pa_cons (pv 0) (pa_cons (pv 2) (pa_cons (pv 3) pa_nil)))))) pss_nil) (pss_cons (ps_if (pt_cmpR op_eq (pv 1) pe_int (nomark _)) (pss_one (ps_ret (pe_call G_profile_answer (hr.mono (by decide)) rfl T.g_profile_answer K_profile_answer B_profile_answer .nil pass0 (pa_cons (pv 0) (pa_cons (pv 2) pa_nil))))) pss_nil) (pss_cons (ps_if (pt_cmpR op_eq (pv 1) pe_int (nomark _)) (pss_one (ps_ret (pe_call G_worst_answer (hr.mono (by decide)) rfl T.g_worst_answer K_worst_answer B_worst_answer .nil pass0 (pa_cons (pv 0) (pa_cons (pv 2) pa_nil))))) pss_nil) (pss_cons (ps_if (pt_cmpR op_eq (pv 1) pe_int (nomark _)) (pss_one (ps_ret (pe_call G_who_answer (hr.mono (by decide)) rfl T.g_who_answer K_who_answer B_who_answer .nil pass0 (pa_cons (pv 0) (pa_cons (pv 2) pa_nil))))) pss_nil) (pss_cons (ps_if (pt_cmpR op_eq (pv 1) pe_int (nomark _)) (pss_one (ps_ret (pe_call G_stands_answer (hr.mono (by decide)) rfl T.g_stands_answer K_stands_answer B_stands_answer .nil pass0 (pa_cons (pv 0) (pa_cons (pv 2) pa_nil))))) pss_nil) (pss_cons (ps_set (i := 4) sc_asked_of_ways.nd rfl (Or.inl rfl) (pe_make T.k_Sureness G_Sureness_init (hr.mono (by decide)) rfl T.g_Sureness B_Sureness_init .nil pass0 (pa_cons (pv 0) (pa_cons (pe_dget (hu_of hr) (pv 2) pe_str (fun _ _ => rfl)) pa_nil)))) (pss_cons (ps_if (pt_cmpR op_eq (pv 1) pe_int (nomark _)) (pss_one (ps_ret (pe_call G_sure_answer (hr.mono (by decide)) rfl T.g_sure_answer K_sure_answer B_sure_answer .nil pass0 (pa_cons (pe_meth (pv 4) T.c_Sureness T.m_Sureness_sure G_Sureness_sure (hr.mono (by decide)) B_Sureness_sure .nil pass0 (pa_cons (pe_dget (hu_of hr) (pv 2) pe_str (fun _ _ => rfl)) (pa_cons (pe_dget (hu_of hr) (pv 2) pe_str (fun _ _ => rfl)) (pa_cons (pe_dget (hu_of hr) (pv 2) pe_str (fun _ _ => rfl)) pa_nil)))) pa_nil)))) pss_nil) (pss_cons (ps_if (pt_cmpR op_eq (pv 1) pe_int (nomark _)) (pss_one (ps_ret (pe_call G_sure_answer (hr.mono (by decide)) rfl T.g_sure_answer K_sure_answer B_sure_answer .nil pass0 (pa_cons (pe_call G_last_minute (hr.mono (by decide)) rfl T.g_last_minute K_last_minute B_last_minute .nil pass0 (pa_cons (pv 4) (pa_cons (pe_dget (hu_of hr) (pv 2) pe_str (fun _ _ => rfl)) (pa_cons (pe_dget (hu_of hr) (pv 2) pe_str (fun _ _ => rfl)) (pa_cons (pe_dget (hu_of hr) (pv 2) pe_str (fun _ _ => rfl)) pa_nil))))) pa_nil)))) pss_nil) (pss_cons (ps_if (pt_cmpR op_eq (pv 1) pe_int (nomark _)) (pss_one (ps_ret (pe_call G_sure_answer (hr.mono (by decide)) rfl T.g_sure_answer K_sure_answer B_sure_answer .nil pass0 (pa_cons (pe_meth (pv 4) T.c_Sureness T.m_Sureness_by_cars G_Sureness_by_cars (hr.mono (by decide)) B_Sureness_by_cars .nil pass0 (pa_cons (pe_dget (hu_of hr) (pv 2) pe_str (fun _ _ => rfl)) pa_nil)) pa_nil)))) pss_nil) (pss_one (ps_ret (pe_op op_cat (pe_lst (pa_cons pe_int pa_nil)) (pe_ix ix_list (pe_fld (pv 4) rfl) (pe_dget (hu_of hr) (pv 2) pe_str (fun _ _ => rfl)) (fun _ _ => rfl)))))))))))))))), ?_⟩
    obtain ⟨xs, G, eG, nT, hT, ⟨na, g, ra, kvs, n, kind, kk, t, l, p, d, out, rfl, hn, ok, W, ho, rfl⟩, k⟩ := h
    have gd : ∀ {x : Str} {v : V} {σ : L2.St} {H1 : Hp}, Ex G H1 → σ[2]? = some (some (V.ref g)) → valV kvs (.inr x) = some v → Ev (tDGet (tVar 2) (tC (.str x))) σ H1 v := fun e h hv => ev_dget (ev_var h) ev_c (e _ _ W.giv) hv
    have dec : ∀ {m : Nat}, decide ((kind : Int) = (m : Int)) = true → kind = m := fun h => by
      have := of_decide_eq_true h
      omega
    have ndec : ∀ {m : Nat}, decide ((kind : Int) = (m : Int)) = false → kind ≠ m := fun h z => of_decide_eq_false h (by rw [z])
    refine q_when (b := decide ((kind : Int) = ((6 : Nat) : Int))) (et_test (ev_eqI (ev_var rfl) ev_c)) (fun hb H0 e0 => ?_) (fun hb0 H0 e0 => ?_)
    · have z := dec hb
      subst z
      exact r_tabL (ea_cons (ev_var rfl) (ea_cons (gd (eG.trans e0) rfl (W.k (by decide)).1) (ea_cons (gd (eG.trans e0) rfl (W.t (by decide))) (ea_cons (gd (eG.trans e0) rfl (W.p (by decide)).1) ea_nil)))) (eG.trans e0) nT (hT.ext e0) ⟨na, n, kk, t, p, rfl, hn, ok, (W.k (by decide)).2, (W.p (by decide)).2, rfl⟩ k
    refine q_when (b := decide ((kind : Int) = ((7 : Nat) : Int))) (et_test (ev_eqI (ev_var rfl) ev_c)) (fun hb H1 e1 => ?_) (fun hb1 H1 e1 => ?_)
    · have z := dec hb
      subst z
      exact r_tabL (ea_cons (ev_var rfl) (ea_cons (ev_var rfl) ea_nil)) ((eG.trans e0).trans e1) nT ((hT.ext e0).ext e1) ⟨na, g, kvs, n, kk, t, p, d, rfl, hn, ok, W.giv, (W.k (by decide)).1, W.t (by decide), (W.p (by decide)).1, (W.d (by decide)).1, (W.k (by decide)).2, (W.p (by decide)).2, (W.d (by decide)).2, rfl⟩ k
    refine q_when (b := decide ((kind : Int) = ((8 : Nat) : Int))) (et_test (ev_eqI (ev_var rfl) ev_c)) (fun hb H2 e2 => ?_) (fun hb2 H2 e2 => ?_)
    · have z := dec hb
      subst z
      exact r_tabL (ea_cons (ev_var rfl) (ea_cons (ev_var rfl) (ea_cons (ev_var rfl) ea_nil))) (((eG.trans e0).trans e1).trans e2) nT (((hT.ext e0).ext e1).ext e2) ⟨na, g, ra, kvs, n, kk, t, p, d, out, rfl, hn, ok, W.giv, ho rfl, (W.k (by decide)).1, W.t (by decide), (W.p (by decide)).1, (W.d (by decide)).1, (W.k (by decide)).2, (W.p (by decide)).2, (W.d (by decide)).2, rfl⟩ k
    refine q_when (b := decide ((kind : Int) = ((10 : Nat) : Int))) (et_test (ev_eqI (ev_var rfl) ev_c)) (fun hb H3 e3 => ?_) (fun hb3 H3 e3 => ?_)
    · have z := dec hb
      subst z
      exact r_tabL (ea_cons (ev_var rfl) (ea_cons (ev_var rfl) ea_nil)) ((((eG.trans e0).trans e1).trans e2).trans e3) nT ((((hT.ext e0).ext e1).ext e2).ext e3) ⟨na, g, kvs, n, kk, p, d, rfl, hn, ok, W.giv, (W.k (by decide)).1, (W.p (by decide)).1, (W.d (by decide)).1, (W.k (by decide)).2, (W.p (by decide)).2, (W.d (by decide)).2, rfl⟩ k
    refine q_when (b := decide ((kind : Int) = ((11 : Nat) : Int))) (et_test (ev_eqI (ev_var rfl) ev_c)) (fun hb H4 e4 => ?_) (fun hb4 H4 e4 => ?_)
    · have z := dec hb
      subst z
      exact r_tabL (ea_cons (ev_var rfl) (ea_cons (ev_var rfl) ea_nil)) (((((eG.trans e0).trans e1).trans e2).trans e3).trans e4) nT (((((hT.ext e0).ext e1).ext e2).ext e3).ext e4) ⟨na, g, kvs, n, kk, t, p, d, rfl, hn, ok, W.giv, (W.k (by decide)).1, W.t (by decide), (W.p (by decide)).1, (W.d (by decide)).1, (W.k (by decide)).2, (W.p (by decide)).2, (W.d (by decide)).2, rfl⟩ k
    refine q_when (b := decide ((kind : Int) = ((13 : Nat) : Int))) (et_test (ev_eqI (ev_var rfl) ev_c)) (fun hb H5 e5 => ?_) (fun hb5 H5 e5 => ?_)
    · have z := dec hb
      subst z
      exact r_tabL (ea_cons (ev_var rfl) (ea_cons (ev_var rfl) ea_nil)) ((((((eG.trans e0).trans e1).trans e2).trans e3).trans e4).trans e5) nT ((((((hT.ext e0).ext e1).ext e2).ext e3).ext e4).ext e5) ⟨na, g, kvs, n, kk, t, l, p, rfl, hn, ok, W.giv, (W.k (by decide)).1, W.t (by decide), W.l (by decide), (W.p (by decide)).1, (W.k (by decide)).2, (W.p (by decide)).2, rfl⟩ k
    refine q_when (b := decide ((kind : Int) = ((14 : Nat) : Int))) (et_test (ev_eqI (ev_var rfl) ev_c)) (fun hb H6 e6 => ?_) (fun hb6 H6 e6 => ?_)
    · have z := dec hb
      subst z
      exact r_tabL (ea_cons (ev_var rfl) (ea_cons (ev_var rfl) ea_nil)) (((((((eG.trans e0).trans e1).trans e2).trans e3).trans e4).trans e5).trans e6) nT (((((((hT.ext e0).ext e1).ext e2).ext e3).ext e4).ext e5).ext e6) ⟨na, g, kvs, n, t, l, p, d, rfl, hn, ok, W.giv, W.t (by decide), W.l (by decide), (W.p (by decide)).1, (W.d (by decide)).1, (W.p (by decide)).2, (W.d (by decide)).2, rfl⟩ k
    have hb : kind = 5 ∨ kind = 9 ∨ kind = 12 ∨ kind = 17 := by
      have := W.kd
      have := ndec hb0
      have := ndec hb1
      have := ndec hb2
      have := ndec hb3
      have := ndec hb4
      have := ndec hb5
      have := ndec hb6
      simp only [List.mem_cons, List.not_mem_nil, or_false] at *
      omega
    have hd : valV kvs (.inr "d") = some (nV d) ∧ d < n.places.length := by
      rcases hb with z | z | z | z <;> (subst z; exact W.d (by decide))
    refine q_asgS (ea_cons (ev_var rfl) (ea_cons (gd (((((((eG.trans e0).trans e1).trans e2).trans e3).trans e4).trans e5).trans e6) rfl hd.1) ea_nil)) (((((((eG.trans e0).trans e1).trans e2).trans e3).trans e4).trans e5).trans e6) nT (((((((hT.ext e0).ext e1).ext e2).ext e3).ext e4).ext e5).ext e6) hn ok hd.2 fun sa H7 gs e7 t7 hS => ?_
    have back : ∀ {q : Addr} {H3 : Hp}, Ex H7 H3 → H3 q = none → G q = none := fun e h => fresh_back e7 (fresh_back e h)
    have fin : ∀ {H8 : Hp} {xs : List Int}, Ex H7 H8 → waysL n kind kk t l p d out = xs → ∀ q H9, H8 q = none → Ex H8 H9 → H9 q = some (.lst (xs.map V.int)) → Q (.ref q) H9 := fun e8 w q H9 hq e9 h9 => k q H9 (back e8 hq) (e7.trans (e8.trans e9)) (t7.ext (e8.trans e9)) (by rw [h9, w])
    refine q_when (b := decide ((kind : Int) = ((5 : Nat) : Int))) (et_test (ev_eqI (ev_var rfl) ev_c)) (fun hc H8 e8 => ?_) (fun hb7 H8 e8 => ?_)
    · have z := dec hc
      subst z
      exact s_retL (el_call (ea_cons (ev_sure hS e8 (ev_var rfl) (gd (e7.trans e8) rfl (W.k (by decide)).1) (gd (e7.trans e8) rfl (W.t (by decide))) (gd (e7.trans e8) rfl (W.p (by decide)).1) (W.k (by decide)).2 (W.p (by decide)).2) ea_nil) (spl_pure ⟨_, rfl, rfl⟩)) (fin e8 rfl)
    refine q_when (b := decide ((kind : Int) = ((9 : Nat) : Int))) (et_test (ev_eqI (ev_var rfl) ev_c)) (fun hc H9 e9 => ?_) (fun hb8 H9 e9 => ?_)
    · have z := dec hc
      subst z
      have e89 := e8.trans e9
      refine s_retL (el_call (ea_cons (ev_is (ev_call (ea_cons (ev_var rfl) (ea_cons (gd (e7.trans e89) rfl (W.k (by decide)).1) (ea_cons (gd (e7.trans e89) rfl (W.l (by decide))) (ea_cons (gd (e7.trans e89) rfl (W.p (by decide)).1) ea_nil))))
        (spv_pure ⟨sa, n, d, kk, l, p, rfl, hS.ex e89, (W.k (by decide)).2, (W.p (by decide)).2, rfl⟩)) (by rw [last_eq ok (W.p (by decide)).2 hd.2])) ea_nil) (spl_pure ⟨_, rfl, rfl⟩)) (fin e89 rfl)
    refine q_when (b := decide ((kind : Int) = ((12 : Nat) : Int))) (et_test (ev_eqI (ev_var rfl) ev_c)) (fun hc H10 e10 => ?_) (fun hb9 H10 e10 => ?_)
    · have z := dec hc
      subst z
      have e80 := e8.trans (e9.trans e10)
      exact s_retL (el_call (ea_cons (ev_byc hS e80 (ev_var rfl) (gd (e7.trans e80) rfl (W.p (by decide)).1) (W.p (by decide)).2) ea_nil) (spl_pure ⟨_, rfl, rfl⟩)) (fin e80 rfl)
    have z : kind = 17 := by
      have := ndec hb7
      have := ndec hb8
      have := ndec hb9
      omega
    subst z
    have e80 := e8.trans (e9.trans e10)
    obtain ⟨⟨na', cm, wm, rows, wrows, hI⟩, -, -, wok⟩ := id hS
    obtain ⟨r, r1, r2, r3⟩ := hI.wrow wok (W.k (by decide)).2
    obtain ⟨⟨dx, ho2⟩, -, -, hwor⟩ := hI
    rw [tabK_row (W.k (by decide)).2] at r3
    have lr : (rowK n d kk).length = n.goes.length := rowOf_len n _
    have lgo := ok.gl
    refine s_retL (el_is (ys := ((0 : Int) :: rowK n d kk).map V.int) (el_catR (el_lst (ea_cons ev_c ea_nil) (by show 1 ≤ 100000; decide)) (ev_ixL (ev_fld (ev_var rfl) (e80 _ _ ho2) T.c_Sureness T.n_Sureness_worths lSureness_worths) (gd (e7.trans e80) rfl (W.k (by decide)).1) (e80 _ _ hwor.top) r1) (e80 _ _ r3) (by rw [List.length_map, lr]; show 1 + _ ≤ 100000; omega)) rfl) (fin e80 rfl)
end SJ
/-! Calls: the one net. -/
namespace SJ
open PySem PySem.Spec PyProof.Rows L2 Evl LamX
theorem Txt.xfc {w : World} {K : PySem.W.Frag} {mg : Str → Option Value} (T : Txt w K mg) : XfC K (cFault K) := by
  have o := T.oex
  obtain ⟨h, X, G, c⟩ := T
  obtain ⟨-, -, -, h4, h5, h6⟩ := says_flt c
  exact ⟨h4, h5, o.exC, h6⟩
/-- no object of a net -/
def Apart (o : HO) : Prop := (∀ xs, o ≠ .lst xs) ∧ ∀ C dx fs, o = .ins C dx fs → fs.length ≤ 1
section
variable {K : PySem.W.Frag} {H H' : Hp} {d : Addr} {o : HO}
theorem ne_lst {b : Addr} {xs : List V} (ap : Apart o) (hd : H d = some o) (h : H b = some (.lst xs)) : b ≠ d := fun z => by
  rw [z, hd] at h
  exact ap.1 xs (Option.some.inj h)
theorem ne_ins {b C dx : Addr} {fs : List (Str × V)} (ap : Apart o) (hd : H d = some o) (h : H b = some (.ins C dx fs)) (l : 2 ≤ fs.length) : b ≠ d := fun z => by
  rw [z, hd] at h
  have := ap.2 C dx fs (Option.some.inj h)
  omega
theorem ThingsAt.but {α : Type} {R : Hp → Addr → α → Prop} (m : ∀ a x, R H a x → R H' a x) {l : Addr} {xs : List α} (h : ThingsAt R H l xs) (ap : Apart o) (hd : H d = some o) (e : ExBut d H H') : ThingsAt R H' l xs := by
  obtain ⟨as, h1, h2⟩ := h
  exact ⟨as, e _ _ h1 (ne_lst ap hd h1), paired_mono m h2⟩
/-- a net stands while something else changes -/
theorem NetAt.but {a : Addr} {n : Vbtoad.Net} (h : NetAt K H a n) (ap : Apart o) (hd : H d = some o) (e : ExBut d H H') : NetAt K H' a n := by
  obtain ⟨pl, cl, gl, ⟨dx, h0⟩, h1, h2, h3⟩ := h
  have nm : ∀ {b : Addr} {t : List Nat}, NameAt H b t → NameAt H' b t := fun h => e _ _ h (ne_lst ap hd h)
  refine ⟨pl, cl, gl, ⟨dx, e _ _ h0 (ne_ins ap hd h0 (by show 2 ≤ 3; decide))⟩, h1.but (fun b x r => ?_) ap hd e, h2.but (fun b x r => ?_) ap hd e, h3.but (fun b x r => ?_) ap hd e⟩
  · obtain ⟨dy, na, q1, q2⟩ := r
    exact ⟨dy, na, e _ _ q1 (ne_ins ap hd q1 (by show 2 ≤ 2; decide)), nm q2⟩
  · obtain ⟨dy, na, q1, q2⟩ := r
    exact ⟨dy, na, e _ _ q1 (ne_ins ap hd q1 (by show 2 ≤ 4; decide)), nm q2⟩
  · obtain ⟨dy, na, q1, q2⟩ := r
    exact ⟨dy, na, e _ _ q1 (ne_ins ap hd q1 (by show 2 ≤ 5; decide)), nm q2⟩
theorem apart_ins {C dx : Addr} {fs : List (Str × V)} (l : fs.length ≤ 1) : Apart (.ins C dx fs) := ⟨fun xs z => (by cases z), fun C' dx' fs' z => (by cases z; exact l)⟩
theorem apart_frz {ob : Obj} {u : HO} : Apart (.frz ob u) := ⟨fun xs z => (by cases z), fun C dx fs z => by cases z⟩
theorem exbut_of {p : Addr} (e : Ex H H') : ExBut p H H' := fun b u h _ => e b u h
end
def sp_Desk_init (K : PySem.W.Frag) : Sp := fun vs H Q _ => ∃ (p dx : Addr), vs = [.ref p] ∧ H p = some (.ins (cDesk K) dx []) ∧
  ∀ H' na, ExBut p H H' → H' p = some (.ins (cDesk K) dx (FDesk (.ref na))) → NetAt K H' na Vbtoad.empty → Q .non H'
theorem sc_Desk_init : FnScope ["self"] ["self"] (defScope s_Desk_init) := ⟨rfl, rfl, rfl, by decide +kernel, rfl, by decide +kernel, by decide +kernel⟩
theorem ok_Desk_init {P : Program} {w : World} {K : PySem.W.Frag} {mg : Str → Option Value} {base : Heap} (T : Txt w K mg) : OkD P w K mg base CX0 3 (He.ma K (He.ga K "Desk") "__init__") ["self"] (sp_Desk_init K) := by
  obtain ⟨fd_Net_init, G_Net_init, B_Net_init, K_Net_init⟩ := ok_Net_init (P := P) (w := w) (base := base) T
  obtain ⟨fd, F⟩ := T.f_Desk_init
  refine ⟨fd, F.ok sc_Desk_init (fun vs H Q E h => ?_) (fun cdv A outer s H vs Q E hr h => ?_), F.bindsN fun _ _ _ _ _ _ us hl => match us, hl with | [_], _ => rfl, F.kp⟩
  · obtain ⟨p, dx, rfl, hp, k⟩ := h
    rfl
  · refine ⟨_, PSs.nox (pss_one (ps_fld (pv 0) (pe_make T.k_Net G_Net_init (hr.mono (by decide)) rfl T.g_Net B_Net_init .nil pass0 (pa_cons (pe_lst pa_nil) (pa_cons (pe_lst pa_nil) (pa_cons (pe_lst pa_nil) pa_nil)))) rfl)), ?_⟩
    obtain ⟨p, dx, rfl, hp, k⟩ := h
    have en : EvNet K (tMake (cNet K) (sp_Net_init K) [] E0 (tCons (tLst tNil) (tCons (tLst tNil) (tCons (tLst tNil) tNil)))) [some (.ref p)] H [] [] [] :=
      enet_make fun H1 e1 Q' q => (ear_consL (el_lst ea_nil (by show 0 ≤ 100000; decide)) (ear_consL (el_lst ea_nil (by show 0 ≤ 100000; decide)) (ear_consL (el_lst ea_nil (by show 0 ≤ 100000; decide)) ear_nil))) H1 e1 _ fun vs H2 e2 hR => by
        obtain ⟨a, r1, rfl, ha, b, r2, rfl, hb, c, r3, rfl, hc, rfl⟩ := hR
        exact q _ H2 e2 ⟨a, b, c, rfl, sq_of ha, sq_of hb, sq_of hc⟩
    refine en H (Ex.refl _) _ fun q dn pl cl gl H1 hq n3 e1 ho h1 h2 h3 => ⟨_, rfl, p, _, dx, _, rfl, e1 _ _ hp, T.c_Desk, T.n_Desk_net, (by show 0 < 1000; decide), ?_⟩
    rw [pDesk_net]
    exact k _ q ((exbut_of e1).trans exbut_upd) upd_same (NetAt.but ⟨pl, cl, gl, ⟨dn, ho⟩, ⟨[], h1, .nil⟩, ⟨[], h2, .nil⟩, ⟨[], h3, .nil⟩⟩ (apart_ins (by show 0 ≤ 1; decide)) (e1 _ _ hp) exbut_upd)
def sp_Desk_leave_out (K : PySem.W.Frag) : Sp := fun vs H Q _ => ∃ (d dx na ra : Addr) (n : Vbtoad.Net) (t : List Nat), vs = [.ref d, .ref ra] ∧ H d = some (.ins (cDesk K) dx (FDesk (.ref na))) ∧ NetAt K H na n ∧ NetOk n ∧ NameAt H ra t ∧
  (Vbtoad.goAt n t = none → ∀ H' p, Ex H H' → H' p = some (.lst [V.int (-5)]) → Q (.ref p) H') ∧
  ∀ i, Vbtoad.goAt n t = some i → ∀ H' p na', ExBut d H H' → H' d = some (.ins (cDesk K) dx (FDesk (.ref na'))) → NetAt K H' na' { n with goes := n.goes.eraseIdx i } → H' p = some (.lst [V.int 0]) → Q (.ref p) H'
theorem sc_Desk_leave_out : FnScope ["self", "name", "number"] ["self", "name"] (defScope s_Desk_leave_out) := ⟨rfl, rfl, rfl, by decide +kernel, rfl, by decide +kernel, by decide +kernel⟩
theorem ok_Desk_leave_out {P : Program} {w : World} {K : PySem.W.Frag} {mg : Str → Option Value} {base : Heap} (T : Txt w K mg) : OkD P w K mg base CX0 4 (He.ma K (He.ga K "Desk") "leave_out") ["self", "name"] (sp_Desk_leave_out K) := by
  obtain ⟨fd_without, G_without, B_without, K_without⟩ := ok_without (P := P) (w := w) (base := base) T
  obtain ⟨fd_number_of, G_number_of, B_number_of, K_number_of⟩ := ok_number_of (P := P) (w := w) (base := base) T
  obtain ⟨fd, F⟩ := T.f_Desk_leave_out
  refine ⟨fd, F.ok sc_Desk_leave_out (fun vs H Q E h => ?_) (fun cdv A outer s H vs Q E hr h => ?_), F.bindsN fun _ _ _ _ _ _ us hl => match us, hl with | [_, _], _ => rfl, F.kp⟩
  · obtain ⟨d, dx, na, ra, n, t, rfl, hd, hn, ok, ht, k1, k2⟩ := h
    rfl
  · refine ⟨_, PSs.nox (pss_cons (ps_set (i := 2) sc_Desk_leave_out.nd rfl (Or.inl rfl) (pe_call G_number_of (hr.mono (by decide)) rfl T.g_number_of K_number_of B_number_of .nil pass0 (pa_cons (pe_fld (pe_fld (pv 0) rfl) rfl) (pa_cons (pv 1) pa_nil)))) (pss_cons (ps_if (pt_cmpR op_lt (pv 2) pe_int (nomark _)) (pss_one (ps_ret (pe_lst (pa_cons (pe_gint T.i_NO_NAME) pa_nil)))) pss_nil) (pss_cons (ps_fld (pv 0) (pe_call G_without (hr.mono (by decide)) rfl T.g_without K_without B_without .nil pass0 (pa_cons (pe_fld (pv 0) rfl) (pa_cons (pv 2) pa_nil))) rfl) (pss_one (ps_ret (pe_lst (pa_cons pe_int pa_nil))))))), ?_⟩
    obtain ⟨d, dx, na, ra, n, t, rfl, hd, hn, ok, ht, k1, k2⟩ := h
    obtain ⟨pl, cl, gl, ⟨dn, hno⟩, -, -, hgl⟩ := id hn
    have net : ∀ {x : L2.St} {H1 : Hp}, Ex H H1 → x[0]? = some (some (.ref d)) → Ev (tFld K (tVar 0) "net") x H1 (.ref na) := fun e h => ev_fld (ev_var h) (e _ _ hd) T.c_Desk T.n_Desk_net lDesk_net
    refine q_asg (v := .int (Vbtoad.orNone (Vbtoad.goAt n t))) (ev_is (ev_call (ea_cons (ev_fld (net (Ex.refl _) rfl) hno T.c_Net T.n_Net_goes lNet_goes) (ea_cons (ev_var rfl) ea_nil)) (spv_pure ⟨gl, ra, _, t, rfl, goes_named T hgl, ht, rfl⟩)) (congrArg V.int (idx_names _ _ _))) fun H1 e1 => ?_
    refine q_when (b := decide (Vbtoad.orNone (Vbtoad.goAt n t) < 0)) (et_test (ev_op (ev_var rfl) ev_c rv_I0)) (fun hb H2 e2 => ?_) (fun hb H2 e2 => ?_)
    · have z : Vbtoad.goAt n t = none := by
        cases z : Vbtoad.goAt n t with
        | none => rfl
        | some i =>
          rw [z] at hb
          have : (i : Int) < 0 := of_decide_eq_true hb
          omega
      exact s_retL (el_lst (ea_cons ev_c ea_nil) (by show 1 ≤ 100000; decide)) fun q H3 hq e3 h3 => k1 z H3 q (e1.trans (e2.trans e3)) h3
    · cases z : Vbtoad.goAt n t with
      | none =>
        rw [z] at hb
        exact absurd (of_decide_eq_false hb) (by decide)
      | some i =>
        have hi : i < n.goes.length := by
          unfold Vbtoad.goAt at z
          exact (List.findIdx?_eq_some_iff_findIdx_eq.mp z).1
        have e12 := e1.trans e2
        refine x_call (ea_cons (net e12 rfl) (ea_cons (ev_var (v := nV i) rfl) ea_nil)) fun H3 e3 => ⟨H3, na, n, i, rfl, Ex.refl _, hn.ex (e12.trans e3), hi, ok.gl, fun H4 q e4 hq => ⟨_, rfl, d, _, dx, _, rfl, (e12.trans (e3.trans e4)) _ _ hd, T.c_Desk, T.n_Desk_net, (by show 1 < 1000; decide), ?_⟩⟩
        rw [uDesk_net]
        have h4 := (e12.trans (e3.trans e4)) _ _ hd
        dsimp only
        refine s_retL (el_lst (ea_cons ev_c ea_nil) (by show 1 ≤ 100000; decide)) fun r H5 hr5 e5 h5 => k2 i z H5 r q (((exbut_of (e12.trans (e3.trans e4))).trans exbut_upd).trans (exbut_of e5)) (e5 _ _ upd_same) ((hq.but (apart_ins (by show 1 ≤ 1; decide)) h4 exbut_upd).ex e5) h5
end SJ
/-! Calls: a departure goes later; a net is read. -/
namespace SJ
open PySem PySem.Spec PyProof.Rows L2 Evl LamX
def sp_Desk_shift (K : PySem.W.Frag) : Sp := fun vs H Q _ => ∃ (d dx na ra : Addr) (n : Vbtoad.Net) (t : List Nat) (m : Int), vs = [.ref d, .int m, .ref ra] ∧ H d = some (.ins (cDesk K) dx (FDesk (.ref na))) ∧ NetAt K H na n ∧ NetOk n ∧ NameAt H ra t ∧
  (Vbtoad.goAt n t = none → ∀ H' p, Ex H H' → H' p = some (.lst [V.int (-5)]) → Q (.ref p) H') ∧
  (∀ i g, Vbtoad.goAt n t = some i → n.goes[i]? = some g → ((g.dep : Int) + m < 0 ∨ 100000 < (g.arr : Int) + m) → ∀ H' p, Ex H H' → H' p = some (.lst [V.int (-8)]) → Q (.ref p) H') ∧
  ∀ i g, Vbtoad.goAt n t = some i → n.goes[i]? = some g → ¬ ((g.dep : Int) + m < 0 ∨ 100000 < (g.arr : Int) + m) → ∀ H' p na', ExBut d H H' → H' d = some (.ins (cDesk K) dx (FDesk (.ref na'))) → NetAt K H' na' { n with goes := n.goes.set i (shiftGo m g) } →
    H' p = some (.lst [V.int 0, .int ((g.dep : Int) + m), .int ((g.arr : Int) + m)]) → Q (.ref p) H'
theorem sc_Desk_shift : FnScope ["self", "minutes", "name", "number", "go"] ["self", "minutes", "name"] (defScope s_Desk_shift) := ⟨rfl, rfl, rfl, by decide +kernel, rfl, by decide +kernel, by decide +kernel⟩
theorem ok_Desk_shift {P : Program} {w : World} {K : PySem.W.Frag} {mg : Str → Option Value} {base : Heap} (T : Txt w K mg) : OkD P w K mg base CX0 4 (He.ma K (He.ga K "Desk") "shift") ["self", "minutes", "name"] (sp_Desk_shift K) := by
  obtain ⟨fd_shifted, G_shifted, B_shifted, K_shifted⟩ := ok_shifted (P := P) (w := w) (base := base) T
  obtain ⟨fd_number_of, G_number_of, B_number_of, K_number_of⟩ := ok_number_of (P := P) (w := w) (base := base) T
  obtain ⟨fd, F⟩ := T.f_Desk_shift
  refine ⟨fd, F.ok sc_Desk_shift (fun vs H Q E h => ?_) (fun cdv A outer s H vs Q E hr h => ?_), F.bindsN fun _ _ _ _ _ _ us hl => match us, hl with | [_, _, _], _ => rfl, F.kp⟩
  · obtain ⟨d, dx, na, ra, n, t, m, rfl, hd, hn, ok, ht, k1, k8, k2⟩ := h
    rfl
  · refine ⟨_, PSs.nox (pss_cons (ps_set (i := 3) sc_Desk_shift.nd rfl (Or.inl rfl) (pe_call G_number_of (hr.mono (by decide)) rfl T.g_number_of K_number_of B_number_of .nil pass0 (pa_cons (pe_fld (pe_fld (pv 0) rfl) rfl) (pa_cons (pv 2) pa_nil)))) (pss_cons (ps_if (pt_cmpR op_lt (pv 3) pe_int (nomark _)) (pss_one (ps_ret (pe_lst (pa_cons (pe_gint T.i_NO_NAME) pa_nil)))) pss_nil) (pss_cons (ps_set (i := 4) sc_Desk_shift.nd rfl (Or.inl rfl) (pe_ix ix_list (pe_fld (pe_fld (pv 0) rfl) rfl) (pv 3) (fun _ _ => rfl))) (pss_cons (ps_if (PW.pt (pw_or (pt_cmpR op_lt (pe_op op_add (pe_fld (pv 4) rfl) (pv 1)) pe_int (nomark _)) (pw_or1 (pt_cmpR op_gt (pe_op op_add (pe_fld (pv 4) rfl) (pv 1)) (pe_gint T.i_LAST_MINUTE) (nomark _))))) (pss_one (ps_ret (pe_lst (pa_cons (pe_gint T.i_OUT_OF_DAYS) pa_nil)))) pss_nil) (pss_cons (ps_fld (pv 0) (pe_call G_shifted (hr.mono (by decide)) rfl T.g_shifted K_shifted B_shifted .nil pass0 (pa_cons (pe_fld (pv 0) rfl) (pa_cons (pv 3) (pa_cons (pv 1) pa_nil)))) rfl) (pss_one (ps_ret (pe_lst (pa_cons pe_int (pa_cons (pe_op op_add (pe_fld (pv 4) rfl) (pv 1)) (pa_cons (pe_op op_add (pe_fld (pv 4) rfl) (pv 1)) pa_nil))))))))))), ?_⟩
    obtain ⟨d, dx, na, ra, n, t, m, rfl, hd, hn, ok, ht, k1, k8, k2⟩ := h
    obtain ⟨pl, cl, gl, ⟨dn, hno⟩, -, -, hgl⟩ := id hn
    have net : ∀ {x : L2.St} {H1 : Hp}, Ex H H1 → x[0]? = some (some (.ref d)) → Ev (tFld K (tVar 0) "net") x H1 (.ref na) := fun e h => ev_fld (ev_var h) (e _ _ hd) T.c_Desk T.n_Desk_net lDesk_net
    refine q_asg (v := .int (Vbtoad.orNone (Vbtoad.goAt n t))) (ev_is (ev_call (ea_cons (ev_fld (net (Ex.refl _) rfl) hno T.c_Net T.n_Net_goes lNet_goes) (ea_cons (ev_var rfl) ea_nil)) (spv_pure ⟨gl, ra, _, t, rfl, goes_named T hgl, ht, rfl⟩)) (congrArg V.int (idx_names _ _ _))) fun H1 e1 => ?_
    refine q_when (b := decide (Vbtoad.orNone (Vbtoad.goAt n t) < 0)) (et_test (ev_op (ev_var rfl) ev_c rv_I0)) (fun hb H2 e2 => ?_) (fun hb H2 e2 => ?_)
    · have z : Vbtoad.goAt n t = none := by
        cases z : Vbtoad.goAt n t with
        | none => rfl
        | some i =>
          rw [z] at hb
          have : (i : Int) < 0 := of_decide_eq_true hb
          omega
      exact s_retL (el_lst (ea_cons ev_c ea_nil) (by show 1 ≤ 100000; decide)) fun q H3 hq e3 h3 => k1 z H3 q (e1.trans (e2.trans e3)) h3
    · cases z : Vbtoad.goAt n t with
      | none =>
        rw [z] at hb
        exact absurd (of_decide_eq_false hb) (by decide)
      | some i =>
        have hi : i < n.goes.length := by
          unfold Vbtoad.goAt at z
          exact (List.findIdx?_eq_some_iff_findIdx_eq.mp z).1
        obtain ⟨g, hg⟩ : ∃ g, n.goes[i]? = some g := ⟨_, List.getElem?_eq_getElem hi⟩
        obtain ⟨gs, g1, g2⟩ := id hgl
        obtain ⟨ga, hga, dg, gn, hgo, hgn⟩ := paired_at g2 hg
        have e12 := e1.trans e2
        refine q_asg (ev_ixL (ev_fld (net e12 rfl) (e12 _ _ hno) T.c_Net T.n_Net_goes lNet_goes) (ev_var (v := nV i) rfl) (e12 _ _ g1) (by rw [List.getElem?_map, hga]; rfl)) fun H3 e3 => ?_
        have e13 := e12.trans e3
        have lv : ∀ {x : L2.St} {H4 : Hp}, H4 ga = some (.ins (cGo K) dg (FDeparture (.ref gn) (nV g.from_) (nV g.dep) (nV g.to_) (nV g.arr))) → x[4]? = some (some (.ref ga)) → Ev (tFld K (tVar 4) "leaves") x H4 (nV g.dep) := fun h4 h => ev_fld (ev_var h) h4 T.c_Departure T.n_Departure_leaves lDeparture_leaves
        have cm : ∀ {x : L2.St} {H4 : Hp}, H4 ga = some (.ins (cGo K) dg (FDeparture (.ref gn) (nV g.from_) (nV g.dep) (nV g.to_) (nV g.arr))) → x[4]? = some (some (.ref ga)) → Ev (tFld K (tVar 4) "comes") x H4 (nV g.arr) := fun h4 h => ev_fld (ev_var h) h4 T.c_Departure T.n_Departure_comes lDeparture_comes
        refine q_when (b := decide ((g.dep : Int) + m < 0) || decide ((g.arr : Int) + m > 100000)) (et_or (et_test (ev_op (ev_op (lv (e13 _ _ hgo) rfl) (ev_var rfl) rv_I0) ev_c rv_I0)) fun _ => et_test (ev_op (ev_op (cm (e13 _ _ hgo) rfl) (ev_var rfl) rv_I0) ev_c rv_I0)) (fun hc H4 e4 => ?_) (fun hc H4 e4 => ?_)
        · rw [Bool.or_eq_true, decide_eq_true_iff, decide_eq_true_iff] at hc
          exact s_retL (el_lst (ea_cons ev_c ea_nil) (by show 1 ≤ 100000; decide)) fun q H5 hq e5 h5 => k8 i g z hg hc H5 q (e13.trans (e4.trans e5)) h5
        · rw [Bool.or_eq_false_iff, decide_eq_false_iff_not, decide_eq_false_iff_not] at hc
          have e14 := e13.trans e4
          have og := go_ok ok hg
          have up := og.up
          refine x_call (ea_cons (net e14 rfl) (ea_cons (ev_var (v := nV i) rfl) (ea_cons (ev_var rfl) ea_nil))) fun H5 e5 => ⟨H5, na, n, i, g, m, rfl, Ex.refl _, hn.ex (e14.trans e5), hg, ok.gl, by omega, by omega, fun H6 q e6 hq => ⟨_, rfl, d, _, dx, _, rfl, (e14.trans (e5.trans e6)) _ _ hd, T.c_Desk, T.n_Desk_net, (by show 1 < 1000; decide), ?_⟩⟩
          rw [uDesk_net]
          have e16 := e14.trans (e5.trans e6)
          have h6 := e16 _ _ hd
          have hgo' : upd H6 d (.ins (cDesk K) dx (FDesk (.ref q))) ga = some (.ins (cGo K) dg (FDeparture (.ref gn) (nV g.from_) (nV g.dep) (nV g.to_) (nV g.arr))) := by
            rw [upd_ne (ne_ins (apart_ins (by show 1 ≤ 1; decide)) hd hgo (by show 2 ≤ 5; decide))]
            exact e16 _ _ hgo
          dsimp only
          refine s_retL (el_lst (ea_cons ev_c (ea_cons (ev_op (lv hgo' rfl) (ev_var rfl) rv_I0) (ea_cons (ev_op (cm hgo' rfl) (ev_var rfl) rv_I0) ea_nil))) (by show 3 ≤ 100000; decide)) fun r H7 hr7 e7 h7 => k2 i g z hg (by omega) H7 r q (((exbut_of e16).trans exbut_upd).trans (exbut_of e7)) (e7 _ _ upd_same)
            ((hq.but (apart_ins (by show 1 ≤ 1; decide)) h6 exbut_upd).ex e7) h7
theorem ev_xf {σ : L2.St} {H : Hp} {a C dd : Addr} {f : Str} {te : TE} {fs : List (Str × V)} {v : V} (h : Ev te σ H (.ref a)) (hd : H dd = some (.xd fs)) (hl : fs.lookup f = some v) : Ev (tXf a (.ref C) (some dd) C f te) σ H v := fun H1 e Q q =>
  h H1 e _ fun H2 e2 => ⟨rfl, rfl, dd, fs, v, rfl, (e.trans e2) _ _ hd, hl, q H2 e2⟩
theorem q_try {K : PySem.W.Frag} {σ : L2.St} {H : Hp} {ta : TE} {tl : TA} {sp : Sp} {W : Ends → WX} {vs : List V} {f : Str} {D : Ends} {tz : TS} (h : EvA tl σ H vs)
    (k : ∀ H1, Ex H H1 → sp vs H1 (fun y H2 => ta σ H2 fun x H3 => ∃ a C dx fs, x = .ref a ∧ H3 a = some (.ins C dx fs) ∧ Cls K C ∧ NoAttr K C f ∧ fs.length < 1000 ∧ tz D σ (upd H3 a (.ins C dx (putF f y fs)))) (WE (W { D with nx := tz D }) σ)) :
    tSeq (fun D σ H => sFld K ta (tCallS sp (WE (W D)) tl) f D σ H) tz D σ H := h H (Ex.refl H) _ k
def faultV (e : Vbbtaa.Fault) : List Int := Vbtoad.faultRow e
def lensL (n : Vbtoad.Net) : List Int := 0 :: Vbtoad.ints [n.places.length, n.cars.length, n.goes.length]
def sp_Desk_read (K : PySem.W.Frag) : Sp := fun vs H Q _ => ∃ (d dx na ta nb : Addr) (m : Vbtoad.Net) (t : List Nat), vs = [.ref d, .ref ta, .ref nb] ∧ H d = some (.ins (cDesk K) dx (FDesk (.ref na))) ∧ NameAt H ta t ∧ NetAt K H nb m ∧ NetOk m ∧ t.length ≤ 4000 ∧
  (∀ e, Vbtoad.readNet m t = .error e → ∀ H' p, Ex H H' → H' p = some (.lst ((faultV e).map V.int)) → Q (.ref p) H') ∧
  ∀ m', Vbtoad.readNet m t = .ok m' → NetOk m' → ∀ H' p na', ExBut d H H' → H' d = some (.ins (cDesk K) dx (FDesk (.ref na'))) → NetAt K H' na' m' → H' p = some (.lst ((lensL m').map V.int)) → Q (.ref p) H'
theorem sc_Desk_read : FnScope ["self", "text", "net", "e"] ["self", "text", "net"] (defScope s_Desk_read) := ⟨rfl, rfl, rfl, by decide +kernel, rfl, by decide +kernel, by decide +kernel⟩
theorem ok_Desk_read {P : Program} {w : World} {K : PySem.W.Frag} {mg : Str → Option Value} {base : Heap} (T : Txt w K mg) : OkD P w K mg base CX0 9 (He.ma K (He.ga K "Desk") "read") ["self", "text", "net"] (sp_Desk_read K) := by
  obtain ⟨fd_state_answer, G_state_answer, B_state_answer, K_state_answer⟩ := ok_state_answer (P := P) (w := w) (base := base) T
  obtain ⟨fd_read_net, G_read_net, B_read_net, K_read_net⟩ := ok_read_net (P := P) (w := w) (base := base) T
  obtain ⟨fd, F⟩ := T.f_Desk_read
  refine ⟨fd, F.ok sc_Desk_read (fun vs H Q E h => ?_) (fun cdv A outer s H vs Q E hr h => ?_), F.bindsN fun _ _ _ _ _ _ us hl => match us, hl with | [_, _, _], _ => rfl, F.kp⟩
  · obtain ⟨d, dx, na, ta, nb, m, t, rfl, hd, ht, hn, ok, hl, k1, k2⟩ := h
    rfl
  · refine ⟨_, PSs.nox (pss_cons (ps_try_as (i := 3) (tb := fun W => sFld K (tVar 0) (tCallS (sp_read_net K) (WE W) (tCons (tVar 1) (tCons (tVar 2) tNil))) "net") (ts := fun a cls d => tRet (tLst (tCons (tC (.int 1)) (tCons (tXf a cls d (cFault K) "kind" (tVar 3)) (tCons (tXf a cls d (cFault K) "at" (tVar 3)) tNil))))) (Wout := fun _ _ _ _ => False) rfl rfl sc_Desk_read.nd rfl rfl ⟨rfl, by decide, Or.inl T.g_Fault⟩ L2.takes0 (fun W pn xe tk _ => pss_one (ps_fld (pv 0) (by exact (pe_callS G_read_net (hr.mono (by decide)) rfl T.g_read_net K_read_net B_read_net (fun σ => passAt tk σ) (by exact (pa_cons (pv 1) (pa_cons (pv 2) pa_nil))))) rfl)) (fun a oe cls d pn hz hf => pss_one (ps_ret (by exact (pe_lst (pa_cons pe_int (pa_cons (pe_xf T.xfc T.n_Fault_kind hz hf (pv 3)) (pa_cons (pe_xf T.xfc T.n_Fault_at hz hf (pv 3)) pa_nil)))))))) (pss_one (ps_ret (pe_call G_state_answer (hr.mono (by decide)) rfl T.g_state_answer K_state_answer B_state_answer .nil pass0 (pa_cons (pe_fld (pv 0) rfl) pa_nil))))), ?_⟩
    obtain ⟨d, dx, na, ta, nb, m, t, rfl, hd, ht, hn, ok, hl, k1, k2⟩ := h
    refine q_try (ea_cons (ev_var rfl) (ea_cons (ev_var rfl) ea_nil)) fun H1 e1 => ⟨H1, ta, nb, t, m, rfl, Ex.refl _, ht.ex e1, hn.ex e1, ok, hl, fun er her d' H2 e2 hd2 => ⟨true, T.x_Fault, fun _ a ha => ?_, fun z => Bool.noConfusion z⟩, fun m' hm ok' q H2 e2 hn2 => ⟨_, rfl, d, _, dx, _, rfl, (e1.trans e2) _ _ hd, T.c_Desk, T.n_Desk_net, (by show 1 < 1000; decide), ?_⟩⟩
    · show tRet (tLst (tCons (tC (.int 1)) (tCons (tXf a (.ref (cFault K)) (some d') (cFault K) "kind" (tVar 3)) (tCons (tXf a (.ref (cFault K)) (some d') (cFault K) "at" (tVar 3)) tNil)))) _ [some (.ref d), some (.ref ta), some (.ref nb), some (.ref a)] H2
      refine s_retL (el_lst (ea_cons ev_c (ea_cons (ev_xf (ev_var rfl) hd2 ((lk_past (by decide +kernel)).trans lk_here)) (ea_cons (ev_xf (ev_var rfl) hd2 lk_here) ea_nil))) (by show 3 ≤ 100000; decide)) ?_
      exact fun r H3 hr3 e3 h3 => k1 er her H3 r (e1.trans (e2.trans e3)) h3
    · rw [uDesk_net]
      have h2 := (e1.trans e2) _ _ hd
      dsimp only
      refine s_retL (el_call (ea_cons (ev_fld (ev_var rfl) upd_same T.c_Desk T.n_Desk_net lDesk_net) ea_nil) (spl_pure ⟨q, m', rfl, hn2.but (apart_ins (by show 1 ≤ 1; decide)) h2 exbut_upd, rfl⟩)) fun r H3 hr3 e3 h3 => k2 m' hm ok' H3 r q (((exbut_of (e1.trans e2)).trans exbut_upd).trans (exbut_of e3)) (e3 _ _ upd_same) ((hn2.but (apart_ins (by show 1 ≤ 1; decide)) h2 exbut_upd).ex e3) h3
end SJ
/-! Calls: a call. -/
namespace SJ
open PySem PySem.Spec PyProof.Rows L2 Evl LamX
/-! ### plain: what a call answers -/
/-- what a letter stands for -/
def letI_ (L : Str) (ns : List Int) (c : Nat) : Option Int := ((L.cps.toList.zip ns).find? fun q => q.1 == c).map (·.2)
def argN (L : Str) (ns : List Int) (c : Nat) : Nat := ((letI_ L ns c).getD 0).toNat
def readN (n m : Vbtoad.Net) (t : List Nat) : Vbtoad.Net × List Int := match Vbtoad.readNet m t with
  | .error e => (n, Vbtoad.faultRow e)
  | .ok m' => (m', lensL m')
def leaveN (n : Vbtoad.Net) (t : List Nat) : Vbtoad.Net × List Int := match Vbtoad.goAt n t with
  | none => (n, [-5])
  | some i => ({ n with goes := n.goes.eraseIdx i }, [0])
def shiftN (n : Vbtoad.Net) (m : Int) (t : List Nat) : Vbtoad.Net × List Int := match Vbtoad.goAt n t with
  | none => (n, [-5])
  | some i => match n.goes[i]? with
    | none => (n, [-5])
    | some g => if (g.dep : Int) + m < 0 ∨ 100000 < (g.arr : Int) + m then (n, [-8]) else ({ n with goes := n.goes.set i (shiftGo m g) }, [0, (g.dep : Int) + m, (g.arr : Int) + m])
def actN (n : Vbtoad.Net) (L : Str) (kind : Nat) (ns : List Int) (t : List Nat) : Vbtoad.Net × List Int :=
  if kind = 0 then readN n Vbtoad.empty t
  else if kind = 1 then readN n n t
  else if kind = 2 then (n, 0 :: Vbtoad.ints (Vbtoad.written n))
  else if kind = 3 then leaveN n t
  else if kind = 4 then shiftN n ((letI_ L ns 109).getD 0) t
  else if kind = 15 then (n, lensL n)
  else if kind = 16 then (n, findL n t)
  else (n, waysL n kind (argN L ns 107) (argN L ns 116) (argN L ns 108) (argN L ns 112) (argN L ns 100) t)
def highN (L : Str) (ns : List Int) : Int := if (letI_ L ns 100).getD (-1) > (letI_ L ns 112).getD (-1) then (letI_ L ns 100).getD (-1) else (letI_ L ns 112).getD (-1)
def callN (n : Vbtoad.Net) (p : Str × Str) (kind : Nat) (ns row : List Int) : Vbtoad.Net × List Int :=
  if (numsOk p.1.cps.toList ns && listOk p.2 row) = false then (n, [-1])
  else if (n.places.length : Int) ≤ highN p.1 ns then (n, [-4])
  else actN n p.1 kind ns (Vbtoad.bytes row)
/-! ### the dict of the letters -/
theorem mergeK_new : ∀ (kvs acc : List (Key × V)), ((acc ++ kvs).map (·.1)).Nodup → mergeK acc kvs = acc ++ kvs
  | [], acc, _ => (List.append_nil acc).symm
  | kv :: r, acc, h => by
    have hn : ¬ (acc.any fun x => decide (x.1 = kv.1)) = true := fun z => by
      obtain ⟨x, hx, e⟩ := List.any_eq_true.mp z
      have e' := of_decide_eq_true e
      rw [List.map_append, List.nodup_append] at h
      exact h.2.2 x.1 (List.mem_map_of_mem hx) kv.1 (List.mem_map_of_mem (List.mem_cons_self ..)) e'
    show mergeK (putK acc kv.1 kv.2) r = _
    have e : putK acc kv.1 kv.2 = acc ++ [kv] := by
      unfold putK
      rw [if_neg hn]
    rw [e, mergeK_new r (acc ++ [kv]) (by rw [List.append_assoc]; exact h), List.append_assoc]
    rfl
theorem letters_nodup : ∀ p ∈ shapeL, p.1.cps.toList.Nodup := by decide +kernel
theorem zip_sub : ∀ (cs : List Nat) (ys : List V), ((cs.zip ys).map (·.1)).Sublist cs
  | [], _ => List.Sublist.refl _
  | c :: cs, [] => List.nil_sublist _
  | c :: cs, y :: ys => (zip_sub cs ys).cons_cons c
theorem zip_keys : ∀ (cs : List Nat) (ys : List V), cs.Nodup → (((cs.zip ys).map fun q => ((Sum.inr ⟨#[q.1]⟩ : Key), q.2)).map (·.1)).Nodup := fun cs ys h => by
  have e : ((cs.zip ys).map fun q => ((Sum.inr ⟨#[q.1]⟩ : Key), q.2)).map (·.1) = ((cs.zip ys).map (·.1)).map fun c => (Sum.inr ⟨#[c]⟩ : Key) := by
    rw [List.map_map, List.map_map]
    rfl
  rw [e]
  have h1 : ((cs.zip ys).map (·.1)).Nodup := by
    exact h.sublist (zip_sub cs ys)
  refine List.Pairwise.map _ (fun a b hab z => hab ?_) h1
  simp at z
  exact z
theorem val_letter (L : Str) (ns : List Int) (c : Nat) (h : L.cps.toList.Nodup) : valV (mergeK [] (zipKV L (ns.map V.int))) (.inr ⟨#[c]⟩) = (letI_ L ns c).map V.int := by
  rw [mergeK_new _ _ (by rw [List.nil_append]; exact zip_keys _ _ h), List.nil_append]
  unfold valV zipKV letI_
  generalize L.cps.toList = cs
  clear h
  induction cs generalizing ns with
  | nil => rfl
  | cons x cs ih =>
    cases ns with
    | nil => rfl
    | cons m ns =>
      rw [List.map_cons, List.zip_cons_cons, List.map_cons, List.zip_cons_cons]
      by_cases e : x = c
      · subst e
        rw [List.find?_cons_of_pos (by simp), List.find?_cons_of_pos (by simp)]
        rfl
      · rw [List.find?_cons_of_neg (by simp [e]), List.find?_cons_of_neg (by simp [e])]
        exact ih ns
theorem letI_some : ∀ (cs : List Nat) (ns : List Int) (c : Nat), c ∈ cs → cs.length = ns.length → ∃ x, ((cs.zip ns).find? fun q => q.1 == c).map (·.2) = some x ∧ (numsOk cs ns = true → numOk c x = true) := by
  intro cs
  induction cs with
  | nil => intro ns c h; cases h
  | cons y cs ih =>
    intro ns c h hl
    cases ns with
    | nil => cases hl
    | cons m ns =>
      rw [List.zip_cons_cons]
      by_cases e : y = c
      · subst e
        refine ⟨m, by rw [List.find?_cons_of_pos (by simp)]; rfl, fun z => ?_⟩
        unfold numsOk at z
        rw [List.zip_cons_cons, List.all_cons, Bool.and_eq_true] at z
        exact z.1
      · obtain ⟨x, h1, h2⟩ := ih ns c ((List.mem_cons.mp h).resolve_left fun z => e z.symm) (by simpa using hl)
        refine ⟨x, by rw [List.find?_cons_of_neg (by simp [e])]; exact h1, fun z => h2 ?_⟩
        unfold numsOk at z ⊢
        rw [List.zip_cons_cons, List.all_cons, Bool.and_eq_true] at z
        exact z.2
/-- all but the tables of code objects and one object stay -/
def ExNB (d : Addr) (H H' : Hp) : Prop := ∀ b o, H b = some o → (∀ ps, o ≠ .tbl ps) → b ≠ d → H' b = some o
/-- all but the tables of code objects -/
def noTab (H : Hp) : Hp := fun b => match H b with
  | some (.tbl _) => none
  | x => x
section
variable {K : PySem.W.Frag} {H H' : Hp} {σ : L2.St}
theorem noTab_ex : Ex (noTab H) H := fun b o h => by
  unfold noTab at h
  split at h
  · cases h
  · exact h
theorem noTab_at {b : Addr} {o : HO} (h : H b = some o) (n : ∀ ps, o ≠ .tbl ps) : noTab H b = some o := by
  unfold noTab
  rw [h]
  cases o <;> first | rfl | exact absurd rfl (n _)
theorem noTab_no : NoT (noTab H) := fun b ps z => by
  unfold noTab at z
  split at z
  · cases z
  · rename_i h
    exact h ps z
theorem noTab_net {a : Addr} {n : Vbtoad.Net} (h : NetAt K H a n) : NetAt K (noTab H) a n := by
  obtain ⟨pl, cl, gl, ⟨dx, h0⟩, ⟨ps, p1, p2⟩, ⟨cs, c1, c2⟩, ⟨gs, g1, g2⟩⟩ := h
  have L : ∀ {b : Addr} {xs : List V}, H b = some (.lst xs) → noTab H b = some (.lst xs) := fun h => noTab_at h fun _ z => by cases z
  have I : ∀ {b C dx : Addr} {fs : List (Str × V)}, H b = some (.ins C dx fs) → noTab H b = some (.ins C dx fs) := fun h => noTab_at h fun _ z => by cases z
  refine ⟨pl, cl, gl, ⟨dx, I h0⟩, ⟨ps, L p1, paired_mono (fun b x r => ?_) p2⟩, ⟨cs, L c1, paired_mono (fun b x r => ?_) c2⟩, ⟨gs, L g1, paired_mono (fun b x r => ?_) g2⟩⟩
  all_goals
    obtain ⟨dy, na, q1, q2⟩ := r
    exact ⟨dy, na, I q1, L q2⟩
theorem exnb_of {d : Addr} (e : ExBut d H H') : ExNB d H H' := fun b o h _ n => e b o h n
theorem q_dictZ {ta : TA} {z : Str} {b : Addr} {ys : List V} {D : Ends} {tz : TS} {i : Nat} (h : EvA ta σ H [.str z, .ref b]) (hy : H b = some (.lst ys)) (k : ∀ p H1, H p = none → Ex H H1 → H1 p = some (.dK (mergeK [] (zipKV z ys))) → tz D (σ.set i (some (.ref p))) H1) :
    tSeq (tAsg (tDictZ K ta) (gName i)) tz D σ H := h H (Ex.refl H) _ fun H1 e => ⟨z, b, ys, rfl, sq_of (e _ _ hy), fun p hp => k p _ (fresh_back e hp) (e.trans (Ex.new hp)) upd_same⟩
theorem ev_dget2 {ta tb tc : TE} {a : Addr} {kvs : List (Key × V)} {x : Str} {z : V} (ha : Ev ta σ H (.ref a)) (hb : Ev tb σ H (.str x)) (hc : Ev tc σ H z) (h : H a = some (.dK kvs)) : Ev (tDGet2 ta tb tc) σ H ((valV kvs (.inr x)).getD z) := fun H1 e Q q =>
  ha H1 e _ fun H2 e2 => ⟨a, rfl, .inl ⟨kvs, .inl ((e.trans e2) _ _ h)⟩, hb H2 (e.trans e2) _ fun H3 e3 => hc H3 ((e.trans e2).trans e3) _ fun H4 e4 => ⟨_, DGet.k (k := .inr x) ((((e.trans e2).trans e3).trans e4) _ _ h), q H4 ((e2.trans e3).trans e4)⟩⟩
end
theorem nameAt_row {H : Hp} {a : Addr} {row : List Int} (h : IntsAt H a row) (n : ∀ x ∈ row, 0 ≤ x) : NameAt H a (Vbtoad.bytes row) := by
  have e : (Vbtoad.bytes row).map nV = row.map V.int := by
    unfold Vbtoad.bytes
    rw [List.map_map]
    refine List.map_congr_left fun x hx => ?_
    show V.int ((x.toNat : Nat) : Int) = V.int x
    rw [Int.toNat_of_nonneg (n x hx)]
  unfold NameAt
  rw [e]
  exact h
theorem row_ok {s : Str} {row : List Int} (h : listOk s row = true) (ne : s ≠ ("" : Str)) : (row.length : Int) ≤ (boundOf s).1 ∧ ∀ x ∈ row, 0 ≤ x ∧ x ≤ (boundOf s).2 := by
  unfold listOk at h
  rw [decide_eq_false ne, Bool.false_or, Bool.and_eq_true, decide_eq_true_iff] at h
  refine ⟨h.1, fun x hx => ?_⟩
  have := List.all_eq_true.mp h.2 x hx
  rw [Bool.and_eq_true, decide_eq_true_iff, decide_eq_true_iff] at this
  exact this
theorem written_len {n : Vbtoad.Net} (ok : NetOk n) : (Vbtoad.written n).length ≤ 37800 := by
  have h1 : (n.places.flatMap placeRow).length ≤ 700 * n.places.length := flat_len fun x hx => row_len (by split <;> simp) (place_words (ok.p x hx))
  have h2 : (n.cars.flatMap (carRow n)).length ≤ 700 * n.cars.length := flat_len fun x hx => row_len (by simp) (car_words ok (ok.c x hx))
  have h3 : (n.goes.flatMap (goRow n)).length ≤ 700 * n.goes.length := flat_len fun x hx => row_len (by simp) (go_words ok (ok.g x hx))
  have a := ok.pl
  have b := ok.cl
  have c := ok.gl
  rw [written_eq, List.length_append, List.length_append]
  omega
/-- a letter that the call has -/
theorem letter_at {p : Str × Str} {ns : List Int} {c : Nat} (hp : p ∈ shapeL) (hl : p.1.cps.size = ns.length) (hn : numsOk p.1.cps.toList ns = true) (hc : c ∈ p.1.cps.toList) (h0 : (rangeOf c).1 = 0) :
    letI_ p.1 ns c = some (argN p.1 ns c : Int) ∧ (argN p.1 ns c : Int) ≤ (rangeOf c).2 ∧ valV (mergeK [] (zipKV p.1 (ns.map V.int))) (.inr ⟨#[c]⟩) = some (nV (argN p.1 ns c)) := by
  obtain ⟨x, h1, h2⟩ := letI_some p.1.cps.toList ns c hc (by rw [Array.length_toList]; exact hl)
  have e1 : letI_ p.1 ns c = some x := h1
  have o := h2 hn
  unfold numOk at o
  rw [Bool.and_eq_true, decide_eq_true_iff, decide_eq_true_iff, h0] at o
  have ea : (argN p.1 ns c : Int) = x := by
    unfold argN
    rw [e1]
    show ((x.toNat : Nat) : Int) = x
    exact Int.toNat_of_nonneg o.1
  refine ⟨by rw [ea, e1], by rw [ea]; exact o.2, ?_⟩
  rw [val_letter _ _ _ (letters_nodup p hp), e1]
  show some (V.int x) = some (V.int _)
  rw [ea]
theorem has_k : ∀ kd ∈ [5, 6, 7, 8, 9, 10, 11, 13, 17], ∀ p ∈ shapeL[kd]?, 107 ∈ p.1.cps.toList := by decide +kernel
theorem has_t : ∀ kd ∈ [5, 6, 7, 8, 11, 13, 14], ∀ p ∈ shapeL[kd]?, 116 ∈ p.1.cps.toList := by decide +kernel
theorem has_l : ∀ kd ∈ [9, 13, 14], ∀ p ∈ shapeL[kd]?, 108 ∈ p.1.cps.toList := by decide +kernel
theorem has_p : ∀ kd ∈ [5, 6, 7, 8, 9, 10, 11, 12, 13, 14], ∀ p ∈ shapeL[kd]?, 112 ∈ p.1.cps.toList := by decide +kernel
theorem has_d : ∀ kd ∈ [5, 7, 8, 9, 10, 11, 12, 14, 17], ∀ p ∈ shapeL[kd]?, 100 ∈ p.1.cps.toList := by decide +kernel
def sp_Desk_call (K : PySem.W.Frag) : Sp := fun vs H Q _ => ∃ (d dx na nu ra : Addr) (n : Vbtoad.Net) (kind : Nat) (p : Str × Str) (ns row : List Int), vs = [.ref d, .int (kind : Int), .ref nu, .ref ra] ∧ H d = some (.ins (cDesk K) dx (FDesk (.ref na))) ∧ NetAt K H na n ∧ NetOk n ∧ Tabs (tS K) H ∧
  IntsAt H nu ns ∧ IntsAt H ra row ∧ shapeL[kind]? = some p ∧ p.1.cps.size = ns.length ∧ row.length ≤ 4000 ∧
  ∀ H' q na', ExNB d H H' → Tabs (tS K) H' → H' d = some (.ins (cDesk K) dx (FDesk (.ref na'))) → NetAt K H' na' (callN n p kind ns row).1 → NetOk (callN n p kind ns row).1 → H' q = some (.lst ((callN n p kind ns row).2.map V.int)) → Q (.ref q) H'
theorem sc_Desk_call : FnScope ["self", "kind", "numbers", "row", "letters", "sort", "given"] ["self", "kind", "numbers", "row"] (defScope s_Desk_call) := ⟨rfl, rfl, rfl, by decide +kernel, rfl, by decide +kernel, by decide +kernel⟩
theorem ok_Desk_call {P : Program} {w : World} {K : PySem.W.Frag} {mg : Str → Option Value} {base : Heap} (T : Txt w K mg) (TB : TabB base mg (cS K) (pS K)) : OkD P w K mg base CX0 12 (He.ma K (He.ga K "Desk") "call") ["self", "kind", "numbers", "row"] (sp_Desk_call K) := by
  obtain ⟨fd_asked_of_ways, G_asked_of_ways, B_asked_of_ways, K_asked_of_ways⟩ := ok_asked_of_ways (P := P) (w := w) (base := base) T TB
  obtain ⟨fd_find_answer, G_find_answer, B_find_answer, K_find_answer⟩ := ok_find_answer (P := P) (w := w) (base := base) T
  obtain ⟨fd_state_answer, G_state_answer, B_state_answer, K_state_answer⟩ := ok_state_answer (P := P) (w := w) (base := base) T
  obtain ⟨fd_Desk_shift, G_Desk_shift, B_Desk_shift, K_Desk_shift⟩ := ok_Desk_shift (P := P) (w := w) (base := base) T
  obtain ⟨fd_Desk_leave_out, G_Desk_leave_out, B_Desk_leave_out, K_Desk_leave_out⟩ := ok_Desk_leave_out (P := P) (w := w) (base := base) T
  obtain ⟨fd_net_bytes, G_net_bytes, B_net_bytes, K_net_bytes⟩ := ok_net_bytes (P := P) (w := w) (base := base) T
  obtain ⟨fd_Desk_read, G_Desk_read, B_Desk_read, K_Desk_read⟩ := ok_Desk_read (P := P) (w := w) (base := base) T
  obtain ⟨fd_Net_init, G_Net_init, B_Net_init, K_Net_init⟩ := ok_Net_init (P := P) (w := w) (base := base) T
  obtain ⟨fd_is_as_told, G_is_as_told, B_is_as_told, K_is_as_told⟩ := ok_is_as_told (P := P) (w := w) (base := base) T
  obtain ⟨fd, F⟩ := T.f_Desk_call
  refine ⟨fd, F.ok sc_Desk_call (fun vs H Q E h => ?_) (fun cdv A outer s H vs Q E hr h => ?_), F.bindsN fun _ _ _ _ _ _ us hl => match us, hl with | [_, _, _, _], _ => rfl, F.kp⟩
  · obtain ⟨d, dx, na, nu, ra, n, kind, p, ns, row, rfl, hd, hn, ok, hT, hnu, hra, hp, hl, hlen, k⟩ := h
    rfl
  · refine ⟨_, PSs.nox (pss_cons (ps_asg (pe_ix ix_tup (pe_glob rfl T.g_SHAPES (show L2.RelV (V.ref (He.ga K "SHAPES")) _ from rfl)) (pv 1) (fun _ _ => rfl)) (pg_tup rfl (pgs_cons (pg_name (i := 4) sc_Desk_call.nd rfl (Or.inl rfl)) (pgs_cons (pg_name (i := 5) sc_Desk_call.nd rfl (Or.inl rfl)) pgs_nil)))) (pss_cons (ps_if (pt_not (pt_val (pe_call G_is_as_told (hr.mono (by decide)) rfl T.g_is_as_told K_is_as_told B_is_as_told .nil pass0 (pa_cons (pv 4) (pa_cons (pv 2) (pa_cons (pv 5) (pa_cons (pv 3) pa_nil))))))) (pss_one (ps_ret (pe_lst (pa_cons (pe_gint T.i_NOT_AS_TOLD) pa_nil)))) pss_nil) (pss_cons (ps_set (i := 6) sc_Desk_call.nd rfl (Or.inl rfl) (pe_dictZ rfl rfl T.b_dict rfl T.b_zip (pa_cons (pv 4) (pa_cons (pv 2) pa_nil)))) (pss_cons (ps_if (pt_cmpR op_ge (pe_callB (call_max2 rfl) (by rfl) T.b_max (by decide +kernel) (pa_cons (pe_dget2 (hu_of hr) (pv 6) pe_str (pe_un un_neg pe_int) ⟨rfl, rfl, rfl, rfl⟩) (pa_cons (pe_dget2 (hu_of hr) (pv 6) pe_str (pe_un un_neg pe_int) ⟨rfl, rfl, rfl, rfl⟩) pa_nil))) (pe_callB call_len_seq (by rfl) T.b_len PySem.boot_len (pa_cons (pe_fld (pe_fld (pv 0) rfl) rfl) pa_nil)) (nomark _)) (pss_one (ps_ret (pe_lst (pa_cons (pe_gint T.i_NO_PLACE) pa_nil)))) pss_nil) (pss_cons (ps_if (pt_cmpR op_eq (pv 1) pe_int (nomark _)) (pss_one (ps_ret (pe_meth (pv 0) T.c_Desk T.m_Desk_read G_Desk_read (hr.mono (by decide)) B_Desk_read .nil pass0 (pa_cons (pv 3) (pa_cons (pe_make T.k_Net G_Net_init (hr.mono (by decide)) rfl T.g_Net B_Net_init .nil pass0 (pa_cons (pe_lst pa_nil) (pa_cons (pe_lst pa_nil) (pa_cons (pe_lst pa_nil) pa_nil)))) pa_nil))))) pss_nil) (pss_cons (ps_if (pt_cmpR op_eq (pv 1) pe_int (nomark _)) (pss_one (ps_ret (pe_meth (pv 0) T.c_Desk T.m_Desk_read G_Desk_read (hr.mono (by decide)) B_Desk_read .nil pass0 (pa_cons (pv 3) (pa_cons (pe_fld (pv 0) rfl) pa_nil))))) pss_nil) (pss_cons (ps_if (pt_cmpR op_eq (pv 1) pe_int (nomark _)) (pss_one (ps_ret (pe_op op_cat (pe_lst (pa_cons pe_int pa_nil)) (pe_call G_net_bytes (hr.mono (by decide)) rfl T.g_net_bytes K_net_bytes B_net_bytes .nil pass0 (pa_cons (pe_fld (pv 0) rfl) pa_nil))))) pss_nil) (pss_cons (ps_if (pt_cmpR op_eq (pv 1) pe_int (nomark _)) (pss_one (ps_ret (pe_meth (pv 0) T.c_Desk T.m_Desk_leave_out G_Desk_leave_out (hr.mono (by decide)) B_Desk_leave_out .nil pass0 (pa_cons (pv 3) pa_nil)))) pss_nil) (pss_cons (ps_if (pt_cmpR op_eq (pv 1) pe_int (nomark _)) (pss_one (ps_ret (pe_meth (pv 0) T.c_Desk T.m_Desk_shift G_Desk_shift (hr.mono (by decide)) B_Desk_shift .nil pass0 (pa_cons (pe_dget (hu_of hr) (pv 6) pe_str (fun _ _ => rfl)) (pa_cons (pv 3) pa_nil))))) pss_nil) (pss_cons (ps_if (pt_cmpR op_eq (pv 1) pe_int (nomark _)) (pss_one (ps_ret (pe_call G_state_answer (hr.mono (by decide)) rfl T.g_state_answer K_state_answer B_state_answer .nil pass0 (pa_cons (pe_fld (pv 0) rfl) pa_nil)))) pss_nil) (pss_cons (ps_if (pt_cmpR op_eq (pv 1) pe_int (nomark _)) (pss_one (ps_ret (pe_call G_find_answer (hr.mono (by decide)) rfl T.g_find_answer K_find_answer B_find_answer .nil pass0 (pa_cons (pe_fld (pv 0) rfl) (pa_cons (pv 3) pa_nil))))) pss_nil) (pss_one (ps_ret (pe_call G_asked_of_ways (hr.mono (by decide)) rfl T.g_asked_of_ways K_asked_of_ways B_asked_of_ways .nil pass0 (pa_cons (pe_fld (pv 0) rfl) (pa_cons (pv 1) (pa_cons (pv 6) (pa_cons (pv 3) pa_nil)))))))))))))))))), ?_⟩
    obtain ⟨d, dx, na, nu, ra, n, kind, p, ns, row, rfl, hd, hn, ok, hT, hnu, hra, hp, hl, hlen, k⟩ := h
    have pm : p ∈ shapeL := List.mem_of_getElem? hp
    have klt : kind < shapeL.length := (List.getElem?_eq_some_iff.mp hp).1
    obtain ⟨sh1, sh2⟩ := T.shapes H
    have no : ∀ {H' q} {xs : List Int}, Ex H H' → callN n p kind ns row = (n, xs) → H' q = some (.lst (xs.map V.int)) → Q (.ref q) H' := fun {H' q xs} e ec hq => k H' q na (exnb_of (exbut_of e)) (hT.ext e) (e _ _ hd) (by rw [ec]; exact hn.ex e) (by rw [ec]; exact ok) (by rw [ec]; exact hq)
    refine q_pairT (ev_op ev_c (ev_var rfl) (rv_ixT sh1 (atI_nat (i := kind) (by rw [List.getElem?_map, List.getElem?_range klt]; rfl)))) (sh2 kind p hp) fun H1 e1 => ?_
    refine q_when (b := !(numsOk p.1.cps.toList ns && listOk p.2 row)) (et_not (et_B (ev_call (ea_cons (ev_var rfl) (ea_cons (ev_var rfl) (ea_cons (ev_var rfl) (ea_cons (ev_var rfl) ea_nil)))) (spv_pure ⟨p, nu, ra, ns, row, rfl, pm, e1 _ _ hnu, hl, e1 _ _ hra, hlen, rfl⟩)))) (fun hb H2 e2 => ?_) (fun hb H2 e2 => ?_)
    · have z : (numsOk p.1.cps.toList ns && listOk p.2 row) = false := by
        cases z : (numsOk p.1.cps.toList ns && listOk p.2 row) with
        | false => rfl
        | true => rw [z] at hb; cases hb
      refine s_retL (el_lst (ea_cons ev_c ea_nil) (by show 1 ≤ 100000; decide)) fun q H3 hq e3 h3 => no (xs := [-1]) (e1.trans (e2.trans e3)) ?_ h3
      unfold callN
      rw [if_pos z]
    have told : numsOk p.1.cps.toList ns = true ∧ listOk p.2 row = true := by
      rw [← Bool.and_eq_true]
      cases z : (numsOk p.1.cps.toList ns && listOk p.2 row) with
      | true => rfl
      | false => rw [z] at hb; cases hb
    have e12 := e1.trans e2
    refine q_dictZ (ea_cons (ev_var rfl) (ea_cons (ev_var rfl) ea_nil)) (e12 _ _ hnu) fun g H3 hg e3 hgv => ?_
    have e13 := e12.trans e3
    generalize hkv : mergeK [] (zipKV p.1 (ns.map V.int)) = kvs at hgv
    have vl : ∀ c : Nat, valV kvs (.inr ⟨#[c]⟩) = (letI_ p.1 ns c).map V.int := fun c => by rw [← hkv]; exact val_letter _ _ _ (letters_nodup p pm)
    have net : ∀ {x : L2.St} {H4 : Hp}, Ex H H4 → x[0]? = some (some (.ref d)) → Ev (tFld K (tVar 0) "net") x H4 (.ref na) := fun e h => ev_fld (ev_var h) (e _ _ hd) T.c_Desk T.n_Desk_net lDesk_net
    obtain ⟨pl, cl, gl, ⟨dn, hno⟩, hpl, -, -⟩ := id hn
    obtain ⟨ps, p1, p2⟩ := hpl
    have l1 : ps.length = n.places.length := paired_len p2
    have gt : ∀ (c : Nat) {te : TE} {x : L2.St}, x[6]? = some (some (.ref g)) → Ev te x H3 (.str ⟨#[c]⟩) → Ev (tDGet2 (tVar 6) te (tUn (rU fun i => .int (-i)) (tC (.int 1)))) x H3 (.int ((letI_ p.1 ns c).getD (-1))) := fun c te x h ht => ev_is (ev_dget2 (ev_var h) ht (ev_un ev_c ru_neg) hgv) (by
      rw [vl c]
      cases letI_ p.1 ns c <;> rfl)
    refine q_when (b := decide (highN p.1 ns ≥ (n.places.length : Int))) (et_test (ev_op (ev_max2 (gt 112 rfl ev_c) (gt 100 rfl ev_c)) (ev_is (ev_len (ev_fld (net e13 rfl) (e13 _ _ hno) T.c_Net T.n_Net_places lNet_places) (sq_of (e13 _ _ p1))) (by rw [List.length_map, l1])) rv_I0)) (fun hc H4 e4 => ?_) (fun hc H4 e4 => ?_)
    · refine s_retL (el_lst (ea_cons ev_c ea_nil) (by show 1 ≤ 100000; decide)) fun q H5 hq e5 h5 => no (xs := [-4]) (e13.trans (e4.trans e5)) ?_ h5
      unfold callN
      rw [told.1, told.2, if_neg (by decide), if_pos (of_decide_eq_true hc)]
    have hc' := of_decide_eq_false hc
    have ec : callN n p kind ns row = actN n p.1 kind ns (Vbtoad.bytes row) := by
      unfold callN
      rw [told.1, told.2, if_neg (by decide), if_neg hc']
    have e14 := e13.trans e4
    have dec : ∀ {m : Nat}, decide ((kind : Int) = (m : Int)) = true → kind = m := fun h => by
      have := of_decide_eq_true h
      omega
    have ndec : ∀ {m : Nat}, decide ((kind : Int) = (m : Int)) = false → kind ≠ m := fun h z => of_decide_eq_false h (by rw [z])
    have desk : ∀ {H5 : Hp}, Ex H H5 → H5 d = some (.ins (cDesk K) dx (FDesk (.ref na))) := fun e => e _ _ hd
    have rowN : p.2 ≠ ("" : Str) → ∀ {H5 : Hp}, Ex H H5 → NameAt H5 ra (Vbtoad.bytes row) := fun ne {H5} e => nameAt_row (e _ _ hra) fun x hx => ((row_ok told.2 ne).2 x hx).1
    have bl : (Vbtoad.bytes row).length ≤ 4000 := by
      unfold Vbtoad.bytes
      rw [List.length_map]
      exact hlen
    -- what is wanted, where the desk's net is another one
    have yes : ∀ {H5 H' q na'} {m : Vbtoad.Net} {xs : List Int}, Ex H H5 → ExBut d H5 H' → H' d = some (.ins (cDesk K) dx (FDesk (.ref na'))) → NetAt K H' na' m → NetOk m → actN n p.1 kind ns (Vbtoad.bytes row) = (m, xs) → H' q = some (.lst (xs.map V.int)) → Q (.ref q) H' := fun {H5 H' q na' m xs} e eb h1 h2 h3 h4 h5 =>
      k H' q na' (exnb_of ((exbut_of e).trans eb)) (tabs_but (hT.ext e) (desk e) eb) h1 (by rw [ec, h4]; exact h2) (by rw [ec, h4]; exact h3) (by rw [ec, h4]; exact h5)
    -- 0, 1: a net is read
    refine q_when (b := decide ((kind : Int) = ((0 : Nat) : Int))) (et_test (ev_eqI (ev_var rfl) ev_c)) (fun hk H5 e5 => ?_) (fun hk0 H5 e5 => ?_)
    · have z := dec hk
      subst z
      have ep : p = (("" : Str), ("text" : Str)) := by cases hp; rfl
      have e15 := e14.trans e5
      have en : EvNet K (tMake (cNet K) (sp_Net_init K) [] E0 (tCons (tLst tNil) (tCons (tLst tNil) (tCons (tLst tNil) tNil)))) [some (.ref d), some (.int ((0 : Nat) : Int)), some (.ref nu), some (.ref ra), some (.str p.1), some (.str p.2), some (.ref g)] H5 [] [] [] :=
        enet_make fun H6 e6 Q' q => (ear_consL (el_lst ea_nil (by show 0 ≤ 100000; decide)) (ear_consL (el_lst ea_nil (by show 0 ≤ 100000; decide)) (ear_consL (el_lst ea_nil (by show 0 ≤ 100000; decide)) ear_nil))) H6 e6 _ fun vs H7 e7 hR => by
          obtain ⟨a, r1, rfl, ha, b, r2, rfl, hb, c, r3, rfl, hc, rfl⟩ := hR
          exact q _ H7 e7 ⟨a, b, c, rfl, sq_of ha, sq_of hb, sq_of hc⟩
      refine ⟨_, rfl, d, dx, _, rfl, desk e15, lDesk_read, _, rfl, en H5 (Ex.refl _) _ fun nb dn2 pl2 cl2 gl2 H6 hq2 n3 e6 ho2 h1 h2 h3 => ?_⟩
      have e16 := e15.trans e6
      refine ⟨d, dx, na, ra, nb, Vbtoad.empty, Vbtoad.bytes row, rfl, desk e16, rowN (by rw [ep]; decide +kernel) e16, ⟨pl2, cl2, gl2, ⟨dn2, ho2⟩, ⟨[], h1, .nil⟩, ⟨[], h2, .nil⟩, ⟨[], h3, .nil⟩⟩, netOk_empty, bl, fun er her H7 q e7 h7 => ?_, fun m' hm ok' H7 q na' e7 h7 hn7 hq7 => ?_⟩
      · refine no (xs := faultV er) (e16.trans e7) ?_ h7
        rw [ec]
        show readN n Vbtoad.empty _ = _
        unfold readN
        rw [her]
        rfl
      · refine yes e16 e7 h7 hn7 ok' ?_ hq7
        show readN n Vbtoad.empty _ = _
        unfold readN
        rw [hm]
    refine q_when (b := decide ((kind : Int) = ((1 : Nat) : Int))) (et_test (ev_eqI (ev_var rfl) ev_c)) (fun hk H6 e6 => ?_) (fun hk1 H6 e6 => ?_)
    · have z := dec hk
      subst z
      have ep : p = (("" : Str), ("text" : Str)) := by cases hp; rfl
      have e16 := e14.trans (e5.trans e6)
      refine x_meth (ev_var rfl) (desk e16) lDesk_read (ea_cons (ev_var rfl) (ea_cons (net e16 rfl) ea_nil)) fun H7 e7 => ?_
      have e17 := e16.trans e7
      refine ⟨d, dx, na, ra, na, n, Vbtoad.bytes row, rfl, desk e17, rowN (by rw [ep]; decide +kernel) e17, hn.ex e17, ok, bl, fun er her H8 q e8 h8 => ?_, fun m' hm ok' H8 q na' e8 h8 hn8 hq8 => ?_⟩
      · refine no (xs := faultV er) (e17.trans e8) ?_ h8
        rw [ec]
        show readN n n _ = _
        unfold readN
        rw [her]
        rfl
      · refine yes e17 e8 h8 hn8 ok' ?_ hq8
        show readN n n _ = _
        unfold readN
        rw [hm]
    -- 2: the net written
    refine q_when (b := decide ((kind : Int) = ((2 : Nat) : Int))) (et_test (ev_eqI (ev_var rfl) ev_c)) (fun hk H7 e7 => ?_) (fun hk2 H7 e7 => ?_)
    · have z := dec hk
      subst z
      have e17 := e14.trans (e5.trans (e6.trans e7))
      have lw := written_len ok
      refine s_retL (el_cat (el_lst (ea_cons ev_c ea_nil) (by show 1 ≤ 100000; decide)) (el_call (ea_cons (net e17 rfl) ea_nil) (spl_pure ⟨na, n, rfl, hn.ex e17, ok, rfl⟩)) (by rw [List.length_map]; show 1 + _ ≤ 100000; omega)) fun q H8 hq e8 h8 => no (xs := 0 :: Vbtoad.ints (Vbtoad.written n)) (e17.trans e8) (by rw [ec]; rfl) ?_
      rw [h8]
      unfold Vbtoad.ints
      rw [List.map_cons, List.map_map]
      rfl
    -- 3: a departure is left out
    refine q_when (b := decide ((kind : Int) = ((3 : Nat) : Int))) (et_test (ev_eqI (ev_var rfl) ev_c)) (fun hk H8 e8 => ?_) (fun hk3 H8 e8 => ?_)
    · have z := dec hk
      subst z
      have ep : p = (("" : Str), ("name" : Str)) := by cases hp; rfl
      have e18 := e14.trans (e5.trans (e6.trans (e7.trans e8)))
      refine x_meth (ev_var rfl) (desk e18) lDesk_leave_out (ea_cons (ev_var rfl) ea_nil) fun H9 e9 => ?_
      have e19 := e18.trans e9
      refine ⟨d, dx, na, ra, n, Vbtoad.bytes row, rfl, desk e19, hn.ex e19, ok, rowN (by rw [ep]; decide +kernel) e19, fun hg0 H10 q e10 h10 => ?_, fun i hi H10 q na' e10 h10 hn10 hq10 => ?_⟩
      · refine no (xs := [-5]) (e19.trans e10) ?_ h10
        rw [ec]
        show leaveN n _ = _
        unfold leaveN
        rw [hg0]
      · refine yes (xs := [0]) e19 e10 h10 hn10 (net_without ok i) ?_ hq10
        show leaveN n _ = _
        unfold leaveN
        rw [hi]
    -- 4: a departure goes later
    refine q_when (b := decide ((kind : Int) = ((4 : Nat) : Int))) (et_test (ev_eqI (ev_var rfl) ev_c)) (fun hk H9 e9 => ?_) (fun hk4 H9 e9 => ?_)
    · have z := dec hk
      subst z
      have ep : p = (("m" : Str), ("name" : Str)) := by cases hp; rfl
      have e19 := e14.trans (e5.trans (e6.trans (e7.trans (e8.trans e9))))
      obtain ⟨x, hx1, -⟩ := letI_some p.1.cps.toList ns 109 (by rw [ep]; decide +kernel) (by rw [Array.length_toList]; exact hl)
      have hx : letI_ p.1 ns 109 = some x := hx1
      have hvm : valV kvs (.inr ("m" : Str)) = some (.int x) := (vl 109).trans (by rw [hx]; rfl)
      refine x_meth (ev_var rfl) (desk e19) lDesk_shift (ea_cons (ev_dget (ev_var rfl) ev_c ((e4.trans (e5.trans (e6.trans (e7.trans (e8.trans e9))))) _ _ hgv) hvm) (ea_cons (ev_var rfl) ea_nil)) fun H10 e10 => ?_
      have e10' := e19.trans e10
      refine ⟨d, dx, na, ra, n, Vbtoad.bytes row, x, rfl, desk e10', hn.ex e10', ok, rowN (by rw [ep]; decide +kernel) e10', fun hg0 H11 q e11 h11 => ?_, fun i gg hi hgg hbad H11 q e11 h11 => ?_, fun i gg hi hgg hgood H11 q na' e11 h11 hn11 hq11 => ?_⟩
      · refine no (xs := [-5]) (e10'.trans e11) ?_ h11
        rw [ec]
        show shiftN n _ _ = _
        unfold shiftN
        rw [hg0]
      · refine no (xs := [-8]) (e10'.trans e11) ?_ h11
        rw [ec]
        show shiftN n ((letI_ p.1 ns 109).getD 0) _ = _
        unfold shiftN
        rw [hi, hx]
        show (match n.goes[i]? with
          | none => (n, [-5])
          | some g => if (g.dep : Int) + x < 0 ∨ 100000 < (g.arr : Int) + x then (n, [-8]) else ({ n with goes := n.goes.set i (shiftGo x g) }, [0, (g.dep : Int) + x, (g.arr : Int) + x])) = _
        rw [hgg]
        exact if_pos hbad
      · refine yes (xs := [0, (gg.dep : Int) + x, (gg.arr : Int) + x]) e10' e11 h11 hn11 (net_shift ok hgg (by omega) (by omega)) ?_ hq11
        show shiftN n ((letI_ p.1 ns 109).getD 0) _ = _
        unfold shiftN
        rw [hi, hx]
        show (match n.goes[i]? with
          | none => (n, [-5])
          | some g => if (g.dep : Int) + x < 0 ∨ 100000 < (g.arr : Int) + x then (n, [-8]) else ({ n with goes := n.goes.set i (shiftGo x g) }, [0, (g.dep : Int) + x, (g.arr : Int) + x])) = _
        rw [hgg]
        exact if_neg hgood
    -- 15: how many
    refine q_when (b := decide ((kind : Int) = ((15 : Nat) : Int))) (et_test (ev_eqI (ev_var rfl) ev_c)) (fun hk H10 e10 => ?_) (fun hk5 H10 e10 => ?_)
    · have z := dec hk
      subst z
      have ez := e14.trans (e5.trans (e6.trans (e7.trans (e8.trans (e9.trans e10)))))
      exact s_retL (el_call (ea_cons (net ez rfl) ea_nil) (spl_pure ⟨na, n, rfl, hn.ex ez, rfl⟩)) fun q H11 hq e11 h11 => no (xs := lensL n) (ez.trans e11) (by rw [ec]; rfl) h11
    -- 16: what a name stands for
    refine q_when (b := decide ((kind : Int) = ((16 : Nat) : Int))) (et_test (ev_eqI (ev_var rfl) ev_c)) (fun hk H11 e11 => ?_) (fun hk6 H11 e11 => ?_)
    · have z := dec hk
      subst z
      have ep : p = (("" : Str), ("name" : Str)) := by cases hp; rfl
      have ez := e14.trans (e5.trans (e6.trans (e7.trans (e8.trans (e9.trans (e10.trans e11))))))
      exact s_retL (el_call (ea_cons (net ez rfl) (ea_cons (ev_var rfl) ea_nil)) (spl_pure ⟨na, ra, n, Vbtoad.bytes row, rfl, hn.ex ez, rowN (by rw [ep]; decide +kernel) ez, rfl⟩)) fun q H12 hq e12 h12 => no (xs := findL n (Vbtoad.bytes row)) (ez.trans e12) (by rw [ec]; rfl) h12
    -- what's sure
    have ez := e14.trans (e5.trans (e6.trans (e7.trans (e8.trans (e9.trans (e10.trans e11))))))
    have n0 := ndec hk0
    have n1 := ndec hk1
    have n2 := ndec hk2
    have n3 := ndec hk3
    have n4 := ndec hk4
    have n5 := ndec hk5
    have n6 := ndec hk6
    have k18 : kind < 18 := klt
    have ea : actN n p.1 kind ns (Vbtoad.bytes row) = (n, waysL n kind (argN p.1 ns 107) (argN p.1 ns 116) (argN p.1 ns 108) (argN p.1 ns 112) (argN p.1 ns 100) (Vbtoad.bytes row)) := by
      unfold actN
      rw [if_neg n0, if_neg n1, if_neg n2, if_neg n3, if_neg n4, if_neg n5, if_neg n6]
    have hgz : H11 g = some (.dK kvs) := (e4.trans (e5.trans (e6.trans (e7.trans (e8.trans (e9.trans (e10.trans e11))))))) _ _ hgv
    have at_ : ∀ {c : Nat}, c ∈ p.1.cps.toList → (rangeOf c).1 = 0 → letI_ p.1 ns c = some (argN p.1 ns c : Int) ∧ (argN p.1 ns c : Int) ≤ (rangeOf c).2 ∧ valV kvs (.inr ⟨#[c]⟩) = some (nV (argN p.1 ns c)) := fun {c} hc h0 => by
      rw [← hkv]
      exact letter_at pm hl told.1 hc h0
    have hmem : ∀ {l : List Nat} {c : Nat}, (∀ kd ∈ l, ∀ p ∈ shapeL[kd]?, c ∈ p.1.cps.toList) → kind ∈ l → c ∈ p.1.cps.toList := fun h hk => h kind hk p hp
    have low : ∀ {c : Nat}, (c = 112 ∨ c = 100) → letI_ p.1 ns c = some (argN p.1 ns c : Int) → argN p.1 ns c < n.places.length := fun {c} h e => by
      have hh : ¬ (n.places.length : Int) ≤ highN p.1 ns := hc'
      unfold highN at hh
      rcases h with h | h
      · subst h
        rw [e] at hh
        simp only [Option.getD_some] at hh
        split at hh <;> omega
      · subst h
        rw [e] at hh
        simp only [Option.getD_some] at hh
        split at hh <;> omega
    refine r_tabL (G := noTab H11) (ea_cons (net ez rfl) (ea_cons (ev_var rfl) (ea_cons (ev_var rfl) (ea_cons (ev_var rfl) ea_nil)))) noTab_ex noTab_no (hT.ext ez) ⟨na, g, ra, kvs, n, kind, argN p.1 ns 107, argN p.1 ns 116, argN p.1 ns 108, argN p.1 ns 112, argN p.1 ns 100, Vbtoad.bytes row, rfl, noTab_net (hn.ex ez), ok, ⟨noTab_at hgz fun _ z => (by cases z), ?_, fun hk => ?_, fun hk => ?_, fun hk => ?_, fun hk => ?_, fun hk => ?_⟩, fun hk8 => ?_, rfl⟩ fun q H12 _ e12 t12 h12 => ?_
    · simp only [List.mem_cons, List.not_mem_nil, or_false]
      omega
    · obtain ⟨-, a2, a3⟩ := at_ (hmem has_k hk) rfl
      have a2' : (argN p.1 ns 107 : Int) ≤ 3 := a2
      exact ⟨a3, by omega⟩
    · exact (at_ (hmem has_t hk) rfl).2.2
    · exact (at_ (hmem has_l hk) rfl).2.2
    · obtain ⟨a1, -, a3⟩ := at_ (hmem has_p hk) rfl
      exact ⟨a3, low (.inl rfl) a1⟩
    · obtain ⟨a1, -, a3⟩ := at_ (hmem has_d hk) rfl
      exact ⟨a3, low (.inr rfl) a1⟩
    · subst hk8
      have ep : p = (("ktpd" : Str), ("cancelled" : Str)) := by cases hp; rfl
      exact noTab_at (rowN (by rw [ep]; decide +kernel) ez) fun _ z => by cases z
    · refine k H12 q na (fun b o hb hno2 _ => e12 _ _ (noTab_at (ez _ _ hb) hno2)) t12 (e12 _ _ (noTab_at (desk ez) fun _ z => (by cases z))) ?_ ?_ ?_
      · rw [ec, ea]
        exact (noTab_net (hn.ex ez)).ex e12
      · rw [ec, ea]
        exact ok
      · rw [ec, ea]
        exact h12
end SJ
/-! What a call answers is what the specification tells. -/
namespace SJ
open PySem PySem.Spec PyProof.Rows L2 Evl LamX
theorem len0 {l : List Int} (h : 0 = l.length) : l = [] := List.length_eq_zero_iff.mp h.symm
theorem len1 {l : List Int} (h : 1 = l.length) : ∃ a, l = [a] := by
  match l, h with
  | [a], _ => exact ⟨a, rfl⟩
theorem len2 {l : List Int} (h : 2 = l.length) : ∃ a b, l = [a, b] := by
  match l, h with
  | [a, b], _ => exact ⟨a, b, rfl⟩
theorem len3 {l : List Int} (h : 3 = l.length) : ∃ a b c, l = [a, b, c] := by
  match l, h with
  | [a, b, c], _ => exact ⟨a, b, c, rfl⟩
theorem len4 {l : List Int} (h : 4 = l.length) : ∃ a b c d, l = [a, b, c, d] := by
  match l, h with
  | [a, b, c, d], _ => exact ⟨a, b, c, d, rfl⟩
theorem glue {n : Vbtoad.Net} {q : Str × Str} {kd : Nat} {nums row : List Int} {c : List (List Int)} {d : Vbtoad.Call} (hd : Vbtoad.decode c = some d) (hT : (numsOk q.1.cps.toList nums && listOk q.2 row) = Vbtoad.ranged d)
    (hA : Vbtoad.ranged d = true → (if (n.places.length : Int) ≤ highN q.1 nums then (n, [-4]) else actN n q.1 kd nums (Vbtoad.bytes row)) = Vbtoad.act n d) : callN n q kd nums row = Vbtoad.stepRows n c := by
  unfold callN Vbtoad.stepRows
  rw [hd, hT]
  show _ = Vbtoad.step n d
  unfold Vbtoad.step
  cases h : Vbtoad.ranged d with
  | false => rw [if_pos rfl, if_pos rfl]
  | true =>
    rw [if_neg (show ¬ (true = false) by decide), if_neg (show ¬ (true = false) by decide)]
    exact hA h
theorem low_high {n : Vbtoad.Net} {L : Str} {nums : List Int} {X : Vbtoad.Net × List Int} (h : highN L nums = -1) : (if (n.places.length : Int) ≤ highN L nums then (n, [-4]) else X) = X := by
  rw [h]
  exact if_neg (by omega)
theorem on1 {n : Vbtoad.Net} {h : Int} {p : Int} {xs : List Int} {f : List Nat → List Int} (hh : h = p) (h0 : 0 ≤ p) (hx : p.toNat < n.places.length → xs = f [p.toNat]) : (if (n.places.length : Int) ≤ h then (n, [-4]) else (n, xs)) = (n, Vbtoad.onPlaces n [p] f) := by
  subst hh
  unfold Vbtoad.onPlaces
  by_cases z : (n.places.length : Int) ≤ h
  · rw [if_pos z, if_pos (by simp [z])]
  · rw [if_neg z, if_neg (by simp; omega), hx (by omega)]
    rfl
theorem on2 {n : Vbtoad.Net} {h : Int} {p d : Int} {xs : List Int} {f : List Nat → List Int} (hh : h = if d > p then d else p) (h0 : 0 ≤ p) (h1 : 0 ≤ d) (hx : p.toNat < n.places.length → d.toNat < n.places.length → xs = f [p.toNat, d.toNat]) : (if (n.places.length : Int) ≤ h then (n, [-4]) else (n, xs)) = (n, Vbtoad.onPlaces n [p, d] f) := by
  unfold Vbtoad.onPlaces
  by_cases z : (n.places.length : Int) ≤ h
  · rw [if_pos z, if_pos (by
      simp only [List.any_cons, List.any_nil, Bool.or_false, Bool.or_eq_true, decide_eq_true_iff]
      rw [hh] at z
      split at z <;> omega)]
  · have zz : ¬ (n.places.length : Int) ≤ p ∧ ¬ (n.places.length : Int) ≤ d := by
      rw [hh] at z
      split at z <;> omega
    rw [if_neg z, if_neg (by simp only [List.any_cons, List.any_nil, Bool.or_false, Bool.or_eq_true, decide_eq_true_iff]; omega), hx (by omega) (by omega)]
    rfl
theorem text_ok (row : List Int) (m : Nat) : (decide ((row.length : Int) ≤ (m : Int)) && row.all fun x => decide (0 ≤ x) && decide (x ≤ 255)) = Vbtoad.bytesOk row m := by
  unfold Vbtoad.bytesOk Vbtoad.within
  congr 1
  exact decide_eq_decide.mpr (by omega)
theorem wi {n lo hi : Int} (h : Vbtoad.within n lo hi = true) : lo ≤ n ∧ n ≤ hi := by
  unfold Vbtoad.within at h
  rw [Bool.and_eq_true, decide_eq_true_iff, decide_eq_true_iff] at h
  exact h
section
variable {n : Vbtoad.Net} (ok : NetOk n) {q : Str × Str} {nums row : List Int}
include ok
theorem call0 (hq : shapeL[0]? = some q) (hl : q.1.cps.size = nums.length) : callN n q 0 nums row = Vbtoad.stepRows n [(0 : Int) :: nums, row] := by
  cases hq
  cases len0 hl
  refine glue (d := .net row) rfl (by show (true && (false || _)) = _; exact text_ok row 4000) fun _ => (low_high rfl).trans ?_
  show readN n Vbtoad.empty _ = _
  unfold readN Vbtoad.act
  dsimp only
  cases Vbtoad.readNet Vbtoad.empty (Vbtoad.bytes row) <;> rfl
theorem call1 (hq : shapeL[1]? = some q) (hl : q.1.cps.size = nums.length) : callN n q 1 nums row = Vbtoad.stepRows n [(1 : Int) :: nums, row] := by
  cases hq
  cases len0 hl
  refine glue (d := .add row) rfl (by show (true && (false || _)) = _; exact text_ok row 4000) fun _ => (low_high rfl).trans ?_
  show readN n n _ = _
  unfold readN Vbtoad.act
  dsimp only
  cases Vbtoad.readNet n (Vbtoad.bytes row) <;> rfl
theorem call2 (hq : shapeL[2]? = some q) (hl : q.1.cps.size = nums.length) : callN n q 2 nums row = Vbtoad.stepRows n [(2 : Int) :: nums] := by
  cases hq
  cases len0 hl
  exact glue (d := .text) rfl rfl fun _ => (low_high rfl).trans rfl
theorem call3 (hq : shapeL[3]? = some q) (hl : q.1.cps.size = nums.length) : callN n q 3 nums row = Vbtoad.stepRows n [(3 : Int) :: nums, row] := by
  cases hq
  cases len0 hl
  refine glue (d := .without row) rfl (by show (true && (false || _)) = _; exact text_ok row 12) fun _ => (low_high rfl).trans ?_
  show leaveN n _ = _
  unfold leaveN Vbtoad.act
  dsimp only
  cases Vbtoad.goAt n (Vbtoad.bytes row) <;> rfl
theorem call4 (hq : shapeL[4]? = some q) (hl : q.1.cps.size = nums.length) : callN n q 4 nums row = Vbtoad.stepRows n [(4 : Int) :: nums, row] := by
  cases hq
  obtain ⟨m, rfl⟩ := len1 hl
  refine glue (d := .shift m row) rfl ?_ fun _ => (low_high rfl).trans ?_
  · show ((Vbtoad.within m (-100000) 100000 && true) && (false || _)) = (Vbtoad.within m (-100000) 100000 && _)
    rw [Bool.and_true, Bool.false_or]
    exact congrArg _ (text_ok row 12)
  · show shiftN n m _ = _
    unfold shiftN Vbtoad.act
    dsimp only
    cases Vbtoad.goAt n (Vbtoad.bytes row) with
    | none => rfl
    | some i =>
      dsimp only
      cases n.goes[i]? with
      | none => rfl
      | some g => rfl
theorem call15 (hq : shapeL[15]? = some q) (hl : q.1.cps.size = nums.length) : callN n q 15 nums row = Vbtoad.stepRows n [(15 : Int) :: nums] := by
  cases hq
  cases len0 hl
  exact glue (d := .state) rfl rfl fun _ => (low_high rfl).trans rfl
theorem call16 (hq : shapeL[16]? = some q) (hl : q.1.cps.size = nums.length) : callN n q 16 nums row = Vbtoad.stepRows n [(16 : Int) :: nums, row] := by
  cases hq
  cases len0 hl
  refine glue (d := .find row) rfl (by show (true && (false || _)) = _; exact text_ok row 12) fun _ => (low_high rfl).trans ?_
  show (n, findL n _) = _
  unfold findL Vbtoad.act
  dsimp only
  cases n.places.findIdx? fun p => p.name == Vbtoad.bytes row with
  | some i => rfl
  | none =>
    dsimp only
    cases n.cars.findIdx? fun c => c.name == Vbtoad.bytes row with
    | some i => rfl
    | none =>
      dsimp only
      cases Vbtoad.goAt n (Vbtoad.bytes row) <;> rfl
theorem call5 (hq : shapeL[5]? = some q) (hl : q.1.cps.size = nums.length) : callN n q 5 nums row = Vbtoad.stepRows n [(5 : Int) :: nums] := by
  cases hq
  obtain ⟨k, t, p, d, rfl⟩ := len4 hl
  refine glue (d := .sure k t p d) rfl ?_ fun h => ?_
  · show ((Vbtoad.isK k && (Vbtoad.isTime t && (Vbtoad.isPlace p && (Vbtoad.isPlace d && true)))) && true) = _
    rw [Bool.and_true, Bool.and_true]
    rfl
  · have h' : (Vbtoad.isK k && (Vbtoad.isTime t && (Vbtoad.isPlace p && Vbtoad.isPlace d))) = true := h
    simp only [Bool.and_eq_true] at h'
    obtain ⟨-, -, hp, hd⟩ := h'
    refine on2 rfl (wi hp).1 (wi hd).1 fun lp ld => ?_
    show Vbtoad.toldOr (sureK n d.toNat k.toNat p.toNat t.toNat) = Vbtoad.toldOr (Vbtoad.sureIn n (Vbtoad.roadsOf n) d.toNat k.toNat p.toNat t.toNat)
    rw [sureIn_K ok lp ld]
theorem call6 (hq : shapeL[6]? = some q) (hl : q.1.cps.size = nums.length) : callN n q 6 nums row = Vbtoad.stepRows n [(6 : Int) :: nums] := by
  cases hq
  obtain ⟨k, t, p, rfl⟩ := len3 hl
  refine glue (d := .table k t p) rfl ?_ fun h => ?_
  · show ((Vbtoad.isK k && (Vbtoad.isTime t && (Vbtoad.isPlace p && true))) && true) = _
    rw [Bool.and_true, Bool.and_true]
    rfl
  · have h' : (Vbtoad.isK k && (Vbtoad.isTime t && Vbtoad.isPlace p)) = true := h
    simp only [Bool.and_eq_true] at h'
    obtain ⟨-, -, hp⟩ := h'
    have hp' := wi hp
    refine on1 (show (if (-1 : Int) > p then (-1 : Int) else p) = p from if_neg (by omega)) hp'.1 fun lp => ?_
    show 0 :: tableV n k.toNat t.toNat p.toNat = 0 :: (List.range n.places.length).map fun d => Vbtoad.orNone (Vbtoad.sureIn n (Vbtoad.roadsOf n) d k.toNat p.toNat t.toNat)
    unfold tableV
    congr 1
    refine List.map_congr_left fun d hd => ?_
    rw [sureIn_K ok lp (List.mem_range.mp hd)]
theorem call7 (hq : shapeL[7]? = some q) (hl : q.1.cps.size = nums.length) : callN n q 7 nums row = Vbtoad.stepRows n [(7 : Int) :: nums] := by
  cases hq
  obtain ⟨k, t, p, d, rfl⟩ := len4 hl
  refine glue (d := .toDo k t p d) rfl ?_ fun h => ?_
  · show ((Vbtoad.isK k && (Vbtoad.isTime t && (Vbtoad.isPlace p && (Vbtoad.isPlace d && true)))) && true) = _
    rw [Bool.and_true, Bool.and_true]
    rfl
  · have h' : (Vbtoad.isK k && (Vbtoad.isTime t && (Vbtoad.isPlace p && Vbtoad.isPlace d))) = true := h
    simp only [Bool.and_eq_true] at h'
    obtain ⟨-, -, hp, hd⟩ := h'
    refine on2 rfl (wi hp).1 (wi hd).1 fun lp ld => ?_
    show nextL (Vbtoad.toDo n (Vbtoad.roadsOf n) d.toNat k.toNat p.toNat t.toNat) = match Vbtoad.toDo n (Vbtoad.roadsOf n) d.toNat k.toNat p.toNat t.toNat with
      | none => [-7]
      | some .there => [0, 0, 0]
      | some (.drive c) => [0, 1, (c : Int)]
      | some (.wait g) => [0, 2, (g : Int)]
    cases Vbtoad.toDo n (Vbtoad.roadsOf n) d.toNat k.toNat p.toNat t.toNat with
    | none => rfl
    | some a => cases a <;> rfl
theorem call8 (hq : shapeL[8]? = some q) (hl : q.1.cps.size = nums.length) : callN n q 8 nums row = Vbtoad.stepRows n [(8 : Int) :: nums, row] := by
  cases hq
  obtain ⟨k, t, p, d, rfl⟩ := len4 hl
  refine glue (d := .play k t p d row) rfl ?_ fun h => ?_
  · show ((Vbtoad.isK k && (Vbtoad.isTime t && (Vbtoad.isPlace p && (Vbtoad.isPlace d && true)))) && (false || (decide ((row.length : Int) ≤ 30) && row.all fun x => Vbtoad.within x 0 29))) = (Vbtoad.isK k && (Vbtoad.isTime t && (Vbtoad.isPlace p && (Vbtoad.isPlace d && (decide (row.length ≤ 30) && row.all fun x => Vbtoad.within x 0 29)))))
    rw [Bool.and_true, Bool.false_or, show decide ((row.length : Int) ≤ 30) = decide (row.length ≤ 30) from decide_eq_decide.mpr (by omega)]
    simp only [Bool.and_assoc]
  · have h' : (Vbtoad.isK k && (Vbtoad.isTime t && (Vbtoad.isPlace p && (Vbtoad.isPlace d && (decide (row.length ≤ 30) && row.all fun x => Vbtoad.within x 0 29))))) = true := h
    rw [Bool.and_eq_true, Bool.and_eq_true, Bool.and_eq_true, Bool.and_eq_true] at h'
    obtain ⟨-, -, hp, hd, -⟩ := h'
    exact on2 rfl (wi hp).1 (wi hd).1 fun lp ld => rfl
theorem call9 (hq : shapeL[9]? = some q) (hl : q.1.cps.size = nums.length) : callN n q 9 nums row = Vbtoad.stepRows n [(9 : Int) :: nums] := by
  cases hq
  obtain ⟨k, t, p, d, rfl⟩ := len4 hl
  refine glue (d := .last k t p d) rfl ?_ fun h => ?_
  · show ((Vbtoad.isK k && (Vbtoad.isTime t && (Vbtoad.isPlace p && (Vbtoad.isPlace d && true)))) && true) = _
    rw [Bool.and_true, Bool.and_true]
    rfl
  · have h' : (Vbtoad.isK k && (Vbtoad.isTime t && (Vbtoad.isPlace p && Vbtoad.isPlace d))) = true := h
    simp only [Bool.and_eq_true] at h'
    obtain ⟨-, -, hp, hd⟩ := h'
    exact on2 rfl (wi hp).1 (wi hd).1 fun lp ld => rfl
theorem call10 (hq : shapeL[10]? = some q) (hl : q.1.cps.size = nums.length) : callN n q 10 nums row = Vbtoad.stepRows n [(10 : Int) :: nums] := by
  cases hq
  obtain ⟨k, p, d, rfl⟩ := len3 hl
  refine glue (d := .profile k p d) rfl ?_ fun h => ?_
  · show ((Vbtoad.isK k && (Vbtoad.isPlace p && (Vbtoad.isPlace d && true))) && true) = _
    rw [Bool.and_true, Bool.and_true]
    rfl
  · have h' : (Vbtoad.isK k && (Vbtoad.isPlace p && Vbtoad.isPlace d)) = true := h
    simp only [Bool.and_eq_true] at h'
    obtain ⟨-, hp, hd⟩ := h'
    exact on2 rfl (wi hp).1 (wi hd).1 fun lp ld => rfl
theorem call11 (hq : shapeL[11]? = some q) (hl : q.1.cps.size = nums.length) : callN n q 11 nums row = Vbtoad.stepRows n [(11 : Int) :: nums] := by
  cases hq
  obtain ⟨k, t, p, d, rfl⟩ := len4 hl
  refine glue (d := .worst k t p d) rfl ?_ fun h => ?_
  · show ((Vbtoad.isK k && (Vbtoad.isTime t && (Vbtoad.isPlace p && (Vbtoad.isPlace d && true)))) && true) = _
    rw [Bool.and_true, Bool.and_true]
    rfl
  · have h' : (Vbtoad.isK k && (Vbtoad.isTime t && (Vbtoad.isPlace p && Vbtoad.isPlace d))) = true := h
    simp only [Bool.and_eq_true] at h'
    obtain ⟨-, -, hp, hd⟩ := h'
    refine on2 rfl (wi hp).1 (wi hd).1 fun lp ld => ?_
    show worstL (sureK n d.toNat k.toNat p.toNat t.toNat) (Vbtoad.worst n (Vbtoad.roadsOf n) d.toNat Vbtoad.FUEL k.toNat p.toNat t.toNat) = match Vbtoad.sureIn n (Vbtoad.roadsOf n) d.toNat k.toNat p.toNat t.toNat with
      | none => [-7]
      | some a => let l := Vbtoad.worst n (Vbtoad.roadsOf n) d.toNat Vbtoad.FUEL k.toNat p.toNat t.toNat
        0 :: (a : Int) :: (l.length : Int) :: Vbtoad.ints l
    rw [sureIn_K ok lp ld]
    unfold worstL
    cases sureK n d.toNat k.toNat p.toNat t.toNat <;> rfl
theorem call12 (hq : shapeL[12]? = some q) (hl : q.1.cps.size = nums.length) : callN n q 12 nums row = Vbtoad.stepRows n [(12 : Int) :: nums] := by
  cases hq
  obtain ⟨p, d, rfl⟩ := len2 hl
  refine glue (d := .cars p d) rfl ?_ fun h => ?_
  · show ((Vbtoad.isPlace p && (Vbtoad.isPlace d && true)) && true) = _
    rw [Bool.and_true, Bool.and_true]
    rfl
  · have h' : (Vbtoad.isPlace p && Vbtoad.isPlace d) = true := h
    simp only [Bool.and_eq_true] at h'
    obtain ⟨hp, hd⟩ := h'
    refine on2 rfl (wi hp).1 (wi hd).1 fun lp ld => ?_
    show Vbtoad.toldOr (fwD n p.toNat d.toNat) = Vbtoad.toldOr (Vbtoad.driveTo n (Vbtoad.roadsOf n) p.toNat d.toNat)
    rw [drive_fw ok lp ld]
theorem call13 (hq : shapeL[13]? = some q) (hl : q.1.cps.size = nums.length) : callN n q 13 nums row = Vbtoad.stepRows n [(13 : Int) :: nums] := by
  cases hq
  obtain ⟨k, t, m, p, rfl⟩ := len4 hl
  refine glue (d := .who k t m p) rfl ?_ fun h => ?_
  · show ((Vbtoad.isK k && (Vbtoad.isTime t && (Vbtoad.isTime m && (Vbtoad.isPlace p && true)))) && true) = _
    rw [Bool.and_true, Bool.and_true]
    rfl
  · have h' : (Vbtoad.isK k && (Vbtoad.isTime t && (Vbtoad.isTime m && Vbtoad.isPlace p))) = true := h
    simp only [Bool.and_eq_true] at h'
    obtain ⟨-, -, -, hp⟩ := h'
    have hp' := wi hp
    refine on1 (show (if (-1 : Int) > p then (-1 : Int) else p) = p from if_neg (by omega)) hp'.1 fun lp => ?_
    have e : whoK n k.toNat t.toNat m.toNat p.toNat = (List.range n.places.length).filter fun d => (Vbtoad.sureIn n (Vbtoad.roadsOf n) d k.toNat p.toNat t.toNat).any fun a => decide (a ≤ m.toNat) := by
      unfold whoK
      refine List.filter_congr fun d hd => ?_
      rw [sureIn_K ok lp (List.mem_range.mp hd)]
    show 0 :: ((whoK n k.toNat t.toNat m.toNat p.toNat).length : Int) :: Vbtoad.ints (whoK n k.toNat t.toNat m.toNat p.toNat) = _
    rw [e]
    rfl
theorem call14 (hq : shapeL[14]? = some q) (hl : q.1.cps.size = nums.length) : callN n q 14 nums row = Vbtoad.stepRows n [(14 : Int) :: nums] := by
  cases hq
  obtain ⟨t, m, p, d, rfl⟩ := len4 hl
  refine glue (d := .stands t m p d) rfl ?_ fun h => ?_
  · show ((Vbtoad.isTime t && (Vbtoad.isTime m && (Vbtoad.isPlace p && (Vbtoad.isPlace d && true)))) && true) = _
    rw [Bool.and_true, Bool.and_true]
    rfl
  · have h' : (Vbtoad.isTime t && (Vbtoad.isTime m && (Vbtoad.isPlace p && Vbtoad.isPlace d))) = true := h
    simp only [Bool.and_eq_true] at h'
    obtain ⟨-, -, hp, hd⟩ := h'
    refine on2 rfl (wi hp).1 (wi hd).1 fun lp ld => ?_
    show Vbtoad.toldOr (standsK n t.toNat m.toNat p.toNat d.toNat) = Vbtoad.toldOr (Vbtoad.stands n (Vbtoad.roadsOf n) d.toNat p.toNat t.toNat m.toNat)
    unfold standsK Vbtoad.stands
    rw [show (fun k => (Vbtoad.sureIn n (Vbtoad.roadsOf n) d.toNat k p.toNat t.toNat).any fun a => decide (a ≤ m.toNat)) = fun k => (sureK n d.toNat k p.toNat t.toNat).any fun a => decide (a ≤ m.toNat) from funext fun k => by rw [sureIn_K ok lp ld]]
theorem call17 (hq : shapeL[17]? = some q) (hl : q.1.cps.size = nums.length) : callN n q 17 nums row = Vbtoad.stepRows n [(17 : Int) :: nums] := by
  cases hq
  obtain ⟨k, d, rfl⟩ := len2 hl
  refine glue (d := .worths k d) rfl ?_ fun h => ?_
  · show ((Vbtoad.isK k && (Vbtoad.isPlace d && true)) && true) = _
    rw [Bool.and_true, Bool.and_true]
    rfl
  · have h' : (Vbtoad.isK k && Vbtoad.isPlace d) = true := h
    simp only [Bool.and_eq_true] at h'
    obtain ⟨-, hd⟩ := h'
    have hd' := wi hd
    refine on1 (show (if d > (-1 : Int) then d else (-1 : Int)) = d from if_pos (by omega)) hd'.1 fun ld => ?_
    rfl
end
/-- a call, as the specification has it -/
theorem callN_eq {n : Vbtoad.Net} (ok : NetOk n) {q : Str × Str} {kd : Nat} {nums row : List Int} (hq : shapeL[kd]? = some q) (hl : q.1.cps.size = nums.length) : callN n q kd nums row = Vbtoad.stepRows n (((kd : Int) :: nums) :: (if q.2 = ("" : Str) then [] else [row])) := by
  have lt : kd < 18 := (List.getElem?_eq_some_iff.mp hq).1
  have yes : q.2 = ("" : Str) → (if q.2 = ("" : Str) then [] else [row]) = [] := fun e => if_pos e
  have no : q.2 ≠ ("" : Str) → (if q.2 = ("" : Str) then [] else [row]) = [row] := fun e => if_neg e
  match kd, lt, hq with
  | 0, _, hq => rw [no (by cases hq; decide +kernel)]; exact call0 ok hq hl
  | 1, _, hq => rw [no (by cases hq; decide +kernel)]; exact call1 ok hq hl
  | 2, _, hq => rw [yes (by cases hq; decide +kernel)]; exact call2 ok hq hl
  | 3, _, hq => rw [no (by cases hq; decide +kernel)]; exact call3 ok hq hl
  | 4, _, hq => rw [no (by cases hq; decide +kernel)]; exact call4 ok hq hl
  | 5, _, hq => rw [yes (by cases hq; decide +kernel)]; exact call5 ok hq hl
  | 6, _, hq => rw [yes (by cases hq; decide +kernel)]; exact call6 ok hq hl
  | 7, _, hq => rw [yes (by cases hq; decide +kernel)]; exact call7 ok hq hl
  | 8, _, hq => rw [no (by cases hq; decide +kernel)]; exact call8 ok hq hl
  | 9, _, hq => rw [yes (by cases hq; decide +kernel)]; exact call9 ok hq hl
  | 10, _, hq => rw [yes (by cases hq; decide +kernel)]; exact call10 ok hq hl
  | 11, _, hq => rw [yes (by cases hq; decide +kernel)]; exact call11 ok hq hl
  | 12, _, hq => rw [yes (by cases hq; decide +kernel)]; exact call12 ok hq hl
  | 13, _, hq => rw [yes (by cases hq; decide +kernel)]; exact call13 ok hq hl
  | 14, _, hq => rw [yes (by cases hq; decide +kernel)]; exact call14 ok hq hl
  | 15, _, hq => rw [yes (by cases hq; decide +kernel)]; exact call15 ok hq hl
  | 16, _, hq => rw [no (by cases hq; decide +kernel)]; exact call16 ok hq hl
  | 17, _, hq => rw [yes (by cases hq; decide +kernel)]; exact call17 ok hq hl
end SJ
/-! A list of calls, one call after another; how long answers are. -/
namespace SJ
open PySem PySem.Spec PyProof.Rows L2 Evl LamX
theorem shape_eq {p : Int} {m k : Nat} (h : PyVbtoad.shape p = some (m, k)) : ∃ (kd : Nat) (q : Str × Str), p = (kd : Int) ∧ shapeL[kd]? = some q ∧ q.1.cps.size = m ∧ ((q.2 = ("" : Str) ∧ k = 0) ∨ (q.2 ≠ ("" : Str) ∧ k = 1)) := by
  unfold PyVbtoad.shape at h
  by_cases h0 : p = 0
  · rw [if_pos h0] at h
    cases h
    exact ⟨0, _, h0, rfl, by decide +kernel, .inr ⟨by decide +kernel, rfl⟩⟩
  rw [if_neg h0] at h
  by_cases h1 : p = 1
  · rw [if_pos h1] at h
    cases h
    exact ⟨1, _, h1, rfl, by decide +kernel, .inr ⟨by decide +kernel, rfl⟩⟩
  rw [if_neg h1] at h
  by_cases h2 : p = 2
  · rw [if_pos h2] at h
    cases h
    exact ⟨2, _, h2, rfl, by decide +kernel, .inl ⟨by decide +kernel, rfl⟩⟩
  rw [if_neg h2] at h
  by_cases h3 : p = 3
  · rw [if_pos h3] at h
    cases h
    exact ⟨3, _, h3, rfl, by decide +kernel, .inr ⟨by decide +kernel, rfl⟩⟩
  rw [if_neg h3] at h
  by_cases h4 : p = 4
  · rw [if_pos h4] at h
    cases h
    exact ⟨4, _, h4, rfl, by decide +kernel, .inr ⟨by decide +kernel, rfl⟩⟩
  rw [if_neg h4] at h
  by_cases h5 : p = 5
  · rw [if_pos h5] at h
    cases h
    exact ⟨5, _, h5, rfl, by decide +kernel, .inl ⟨by decide +kernel, rfl⟩⟩
  rw [if_neg h5] at h
  by_cases h6 : p = 6
  · rw [if_pos h6] at h
    cases h
    exact ⟨6, _, h6, rfl, by decide +kernel, .inl ⟨by decide +kernel, rfl⟩⟩
  rw [if_neg h6] at h
  by_cases h7 : p = 7
  · rw [if_pos h7] at h
    cases h
    exact ⟨7, _, h7, rfl, by decide +kernel, .inl ⟨by decide +kernel, rfl⟩⟩
  rw [if_neg h7] at h
  by_cases h8 : p = 8
  · rw [if_pos h8] at h
    cases h
    exact ⟨8, _, h8, rfl, by decide +kernel, .inr ⟨by decide +kernel, rfl⟩⟩
  rw [if_neg h8] at h
  by_cases h9 : p = 9
  · rw [if_pos h9] at h
    cases h
    exact ⟨9, _, h9, rfl, by decide +kernel, .inl ⟨by decide +kernel, rfl⟩⟩
  rw [if_neg h9] at h
  by_cases h10 : p = 10
  · rw [if_pos h10] at h
    cases h
    exact ⟨10, _, h10, rfl, by decide +kernel, .inl ⟨by decide +kernel, rfl⟩⟩
  rw [if_neg h10] at h
  by_cases h11 : p = 11
  · rw [if_pos h11] at h
    cases h
    exact ⟨11, _, h11, rfl, by decide +kernel, .inl ⟨by decide +kernel, rfl⟩⟩
  rw [if_neg h11] at h
  by_cases h12 : p = 12
  · rw [if_pos h12] at h
    cases h
    exact ⟨12, _, h12, rfl, by decide +kernel, .inl ⟨by decide +kernel, rfl⟩⟩
  rw [if_neg h12] at h
  by_cases h13 : p = 13
  · rw [if_pos h13] at h
    cases h
    exact ⟨13, _, h13, rfl, by decide +kernel, .inl ⟨by decide +kernel, rfl⟩⟩
  rw [if_neg h13] at h
  by_cases h14 : p = 14
  · rw [if_pos h14] at h
    cases h
    exact ⟨14, _, h14, rfl, by decide +kernel, .inl ⟨by decide +kernel, rfl⟩⟩
  rw [if_neg h14] at h
  by_cases h15 : p = 15
  · rw [if_pos h15] at h
    cases h
    exact ⟨15, _, h15, rfl, by decide +kernel, .inl ⟨by decide +kernel, rfl⟩⟩
  rw [if_neg h15] at h
  by_cases h16 : p = 16
  · rw [if_pos h16] at h
    cases h
    exact ⟨16, _, h16, rfl, by decide +kernel, .inr ⟨by decide +kernel, rfl⟩⟩
  rw [if_neg h16] at h
  by_cases h17 : p = 17
  · rw [if_pos h17] at h
    cases h
    exact ⟨17, _, h17, rfl, by decide +kernel, .inl ⟨by decide +kernel, rfl⟩⟩
  rw [if_neg h17] at h
  cases h
theorem calls_step {f : Nat} {p : Int} {r : List Int} {cs : List (List (List Int))} (h : PyFlat.calls PyVbtoad.shape f (p :: r) = some cs) : ∃ f' c t cs', PyFlat.call PyVbtoad.shape (p :: r) = some (c, t) ∧ PyFlat.calls PyVbtoad.shape f' t = some cs' ∧ cs = c :: cs' := by
  cases f with
  | zero => cases h
  | succ f =>
    unfold PyFlat.calls at h
    split at h
    · cases h
    · rename_i c t hc
      split at h
      · cases h
      · rename_i cs' hcs
        cases h
        exact ⟨f, c, t, cs', hc, hcs, rfl⟩
theorem call_step {p : Int} {r t : List Int} {c : List (List Int)} (h : PyFlat.call PyVbtoad.shape (p :: r) = some (c, t)) : ∃ (kd : Nat) (q : Str × Str), p = (kd : Int) ∧ shapeL[kd]? = some q ∧ q.1.cps.size ≤ r.length ∧
    ((q.2 = ("" : Str) ∧ c = [p :: r.take q.1.cps.size] ∧ t = r.drop q.1.cps.size) ∨
      (q.2 ≠ ("" : Str) ∧ ∃ (l : Nat) (r' : List Int), r.drop q.1.cps.size = (l : Int) :: r' ∧ l ≤ r'.length ∧ c = [p :: r.take q.1.cps.size, r'.take l] ∧ t = r'.drop l)) := by
  simp only [PyFlat.call] at h
  split at h
  · cases h
  · rename_i m k hs
    obtain ⟨kd, q, h1, h2, h3, h4⟩ := shape_eq hs
    split at h
    · cases h
    · rename_i hlt
      refine ⟨kd, q, h1, h2, by omega, ?_⟩
      rw [h3]
      rcases h4 with ⟨h4, rfl⟩ | ⟨h4, rfl⟩
      · refine .inl ⟨h4, ?_⟩
        unfold PyFlat.rows at h
        cases h
        exact ⟨rfl, rfl⟩
      · refine .inr ⟨h4, ?_⟩
        split at h
        · cases h
        · rename_i xs t' hx
          cases h
          unfold PyFlat.rows at hx
          split at hx
          · cases hx
          · rename_i x s hrow
            unfold PyFlat.rows at hx
            cases hx
            unfold PyFlat.row at hrow
            split at hrow
            · cases hrow
            · rename_i ℓ r' hd
              split at hrow
              · rename_i hc
                cases hrow
                refine ⟨ℓ.toNat, r', ?_, hc.2, rfl, rfl⟩
                rw [hd, Int.toNat_of_nonneg hc.1]
              · cases hrow
theorem row_bound {kd : Nat} {q : Str × Str} {xs row : List Int} (hq : shapeL[kd]? = some q) (ne : q.2 ≠ ("" : Str)) (h : PyInside.call PyVbtoad.bound [(kd : Int) :: xs, row] = true) : row.length ≤ 4000 := by
  have key : ∀ (b : List (Int × Int)) (lo hi : Int), PyVbtoad.bound (kd : Int) = (b, [(lo, hi, 0, 4000)]) → row.length ≤ 4000 := fun b lo hi e => by
    unfold PyInside.call at h
    dsimp only at h
    rw [e] at h
    simp only [PyInside.lists, Bool.and_eq_true, decide_eq_true_iff] at h
    exact h.2.1.1.2
  have lt : kd < 18 := (List.getElem?_eq_some_iff.mp hq).1
  match kd, lt, hq, key with
  | 0, _, _, key => exact key _ _ _ rfl
  | 1, _, _, key => exact key _ _ _ rfl
  | 2, _, hq, _ => exact absurd (by cases hq; decide +kernel) ne
  | 3, _, _, key => exact key _ _ _ rfl
  | 4, _, _, key => exact key _ _ _ rfl
  | 5, _, hq, _ => exact absurd (by cases hq; decide +kernel) ne
  | 6, _, hq, _ => exact absurd (by cases hq; decide +kernel) ne
  | 7, _, hq, _ => exact absurd (by cases hq; decide +kernel) ne
  | 8, _, _, key => exact key _ _ _ rfl
  | 9, _, hq, _ => exact absurd (by cases hq; decide +kernel) ne
  | 10, _, hq, _ => exact absurd (by cases hq; decide +kernel) ne
  | 11, _, hq, _ => exact absurd (by cases hq; decide +kernel) ne
  | 12, _, hq, _ => exact absurd (by cases hq; decide +kernel) ne
  | 13, _, hq, _ => exact absurd (by cases hq; decide +kernel) ne
  | 14, _, hq, _ => exact absurd (by cases hq; decide +kernel) ne
  | 15, _, hq, _ => exact absurd (by cases hq; decide +kernel) ne
  | 16, _, _, key => exact key _ _ _ rfl
  | 17, _, hq, _ => exact absurd (by cases hq; decide +kernel) ne
theorem whole_eq (c : List (List Int)) : PyVbtoad.whole c = c := by
  unfold PyVbtoad.whole
  split <;> rfl
theorem wholes_eq (cs : List (List (List Int))) : cs.map PyVbtoad.whole = cs := by
  rw [show PyVbtoad.whole = id from funext whole_eq, List.map_id]
/-! ### lengths -/
theorem told_len (a : Option Nat) : (Vbtoad.toldOr a).length ≤ 40000 := by
  cases a with
  | none => exact (by decide : 1 ≤ 40000)
  | some m => exact (by decide : 2 ≤ 40000)
theorem playL_len (n : Vbtoad.Net) (d : Nat) (out : List Nat) (k p t : Nat) : (playL (Vbtoad.play n (Vbtoad.roadsOf n) d out Vbtoad.FUEL k p t)).length ≤ 40000 := by
  have h := play_len n (Vbtoad.roadsOf n) d out Vbtoad.FUEL k p t
  generalize Vbtoad.play n (Vbtoad.roadsOf n) d out Vbtoad.FUEL k p t = r at h
  have h' : r.1.length ≤ 400 := h
  have e := congrArg List.length (stepsV_ints r.1)
  rw [stepsV_len, List.length_map] at e
  unfold playL
  rw [List.length_cons, List.length_cons, List.length_cons, ← e]
  omega
theorem profL_len {n : Vbtoad.Net} (ok : NetOk n) (d k p : Nat) : (profL (Vbtoad.profile n (Vbtoad.roadsOf n) d k p)).length ≤ 40000 := by
  have h := profile_len n (Vbtoad.roadsOf n) d k p
  have g := ok.gl
  generalize Vbtoad.profile n (Vbtoad.roadsOf n) d k p = r at h
  have e := congrArg List.length (profV_ints r)
  rw [profV_len, List.length_map] at e
  unfold profL
  rw [List.length_cons, List.length_cons, ← e]
  omega
theorem ways_len {n : Vbtoad.Net} (ok : NetOk n) (kind k t l p d : Nat) (out : List Nat) : (waysL n kind k t l p d out).length ≤ 40000 := by
  have hp := ok.pl
  have hg := ok.gl
  unfold waysL
  split
  · unfold tableV
    rw [List.length_cons, List.length_map, List.length_range]
    omega
  split
  · cases Vbtoad.toDo n (Vbtoad.roadsOf n) d k p t with
    | none => exact (by decide : 1 ≤ 40000)
    | some a => cases a <;> exact (by decide : 3 ≤ 40000)
  split
  · exact playL_len n d out k p t
  split
  · exact profL_len ok d k p
  split
  · have h := worst_len n (Vbtoad.roadsOf n) d Vbtoad.FUEL k p t
    generalize Vbtoad.worst n (Vbtoad.roadsOf n) d Vbtoad.FUEL k p t = r at h
    have h' : r.length ≤ 400 := h
    unfold worstL
    split
    · exact (by decide : 1 ≤ 40000)
    · unfold Vbtoad.ints
      rw [List.length_cons, List.length_cons, List.length_cons, List.length_map]
      omega
  split
  · unfold Vbtoad.ints whoK
    rw [List.length_cons, List.length_cons, List.length_map]
    have := List.length_filter_le (fun d => (sureK n d k p t).any fun a => decide (a ≤ l)) (List.range n.places.length)
    rw [List.length_range] at this
    omega
  split
  · exact told_len _
  split
  · exact told_len _
  split
  · exact told_len _
  split
  · exact told_len _
  · rw [List.length_cons, show (rowK n d k).length = n.goes.length from rowOf_len n _]
    omega
theorem callN_len {n : Vbtoad.Net} (ok : NetOk n) (q : Str × Str) (kd : Nat) (nums row : List Int) : (callN n q kd nums row).2.length ≤ 40000 := by
  have one : ∀ {x : Int}, [x].length ≤ 40000 := fun {x} => (by decide : 1 ≤ 40000)
  unfold callN
  split
  · exact one
  split
  · exact one
  unfold actN
  have rd : ∀ m t, (readN n m t).2.length ≤ 40000 := fun m t => by
    unfold readN
    split
    · exact (by decide : 3 ≤ 40000)
    · exact (by decide : 4 ≤ 40000)
  split
  · exact rd _ _
  split
  · exact rd _ _
  split
  · have := written_len ok
    unfold Vbtoad.ints
    rw [List.length_cons, List.length_map]
    omega
  split
  · unfold leaveN
    split
    · exact one
    · exact one
  split
  · unfold shiftN
    split
    · exact one
    · split
      · exact one
      · split
        · exact one
        · exact (by decide : 3 ≤ 40000)
  split
  · exact (by decide : 4 ≤ 40000)
  split
  · unfold findL
    split
    · exact (by decide : 3 ≤ 40000)
    · split
      · exact (by decide : 3 ≤ 40000)
      · split
        · exact (by decide : 3 ≤ 40000)
        · exact one
  · exact ways_len ok ..
end SJ
/-! All calls. -/
namespace SJ
open PySem PySem.Spec PyProof.Rows L2 Evl LamX
section
variable {K : PySem.W.Frag} {σ : L2.St} {H H' : Hp} {te tl : TE} {a l b : Addr} {xs ys : List V} {D : Ends} {tz : TS} {v : V}
theorem el_listN (h : EvL te σ H xs) : EvL (tCB (fun vs H Q => ∃ p ys, vs = [V.ref p] ∧ (SqL K H p ys ∨ SqT K H p ys) ∧ ∀ l, H l = none → Q (.ref l) (upd H l (.lst ys))) (tCons te tNil)) σ H xs := fun H1 e Q q =>
  h H1 e _ fun p H2 hp e2 h2 => ⟨p, xs, rfl, .inl (sq_of h2), fun l hl => q l _ (fresh_back e2 hl) (e2.trans (Ex.new hl)) upd_same⟩
theorem ev_lenS {z : Str} (h : Ev te σ H (.str z)) (hz : z.length ≤ 100000) : Ev (tCB (fun xs H Q => ∃ z : Str, xs = [V.str z] ∧ z.length ≤ sizeLine ∧ Q (.int z.length) H) (tCons te tNil)) σ H (.int z.length) := fun H1 e Q q =>
  h H1 e _ fun H2 e2 => ⟨z, rfl, sz_of hz, q H2 e2⟩
theorem q_appB (hl : H l = some (.lst xs)) (ha : Ev te σ H (.ref l)) (h : Ev tl σ H v) (hz : xs.length < sizeLine) (k : ∀ H1, Ex H H1 → tz D σ (upd H1 l (.lst (xs ++ [v])))) : tSeq (tDrop (tBM K "list" rAppend te (tCons tl tNil))) tz D σ H := ha H (Ex.refl H) _ fun H1 e1 =>
  ⟨Or.inl ⟨rfl, xs, sq_of (e1 l _ hl)⟩, h H1 e1 _ fun H2 e2 => ⟨l, xs, v, rfl, rfl, e2 l _ (e1 l _ hl), hz, k H2 (e1.trans e2)⟩⟩
theorem s_extV (hl : H l = some (.lst xs)) (ha : Ev te σ H (.ref l)) (h : Ev tl σ H (.ref b)) (hb : H b = some (.lst ys)) (hz : xs.length + ys.length ≤ sizeLine) (k : ∀ H1, Ex H H1 → D.nx σ (upd H1 l (.lst (xs ++ ys)))) : tDrop (tBM K "list" rExtend te (tCons tl tNil)) D σ H :=
  ha H (Ex.refl H) _ fun H1 e1 => ⟨Or.inl ⟨rfl, xs, sq_of (e1 l _ hl)⟩, h H1 e1 _ fun H2 e2 => ⟨l, b, xs, ys, rfl, rfl, e2 _ _ (e1 _ _ hl), (e1.trans e2) _ _ hb, hz, k H2 (e1.trans e2)⟩⟩
theorem exR {fa : Addr} (e : Ex H H') : Ex (noRows [fa] H) (noRows [fa] H') := fun b o hb => by
  unfold noRows at hb ⊢
  split at hb
  · cases hb
  · rename_i n
    rw [if_neg n]
    exact e _ _ hb
theorem exR_upd {fa : Addr} {o : HO} : Ex (noRows [fa] H) (noRows [fa] (upd H fa o)) := fun b u hb => by
  unfold noRows at hb ⊢
  split at hb
  · cases hb
  · rename_i n
    rw [if_neg n, upd_ne (fun z => n (by rw [z]; exact List.mem_singleton.mpr rfl))]
    exact hb
theorem exR_of {fa : Addr} {o : HO} : Ex (noRows [fa] H) (upd H fa o) := fun b u hb => by
  unfold noRows at hb
  split at hb
  · cases hb
  · rename_i n
    rw [upd_ne (fun z => n (by rw [z]; exact List.mem_singleton.mpr rfl))]
    exact hb
theorem exR_new {fa : Addr} (h : H fa = none) (e : Ex H H') : Ex H (noRows [fa] H') := fun b o hb => noRows_at (e _ _ hb) fun z => by
  rw [List.mem_singleton.mp z, h] at hb
  cases hb
theorem tabs_upd {T : List (Addr × Str)} {p : Addr} {o u : HO} (t : Tabs T H) (hp : H p = some o) (h1 : ∀ ps, o ≠ .tbl ps) (h2 : ∀ φ, o ≠ .ext φ) : Tabs T (upd H p u) := fun q hq => by
  obtain ⟨ps, h3, h4, h5⟩ := t q hq
  refine ⟨ps, ?_, h4, fun pos cv hc => ?_⟩
  · rw [upd_ne fun z => by rw [z, hp] at h3; exact h1 _ (Option.some.inj h3)]
    exact h3
  · obtain ⟨c, e1, e2⟩ := h5 pos cv hc
    refine ⟨c, e1, ?_⟩
    rw [upd_ne fun z => by rw [z, hp] at e2; unfold CodeO at e2; exact h2 _ (Option.some.inj e2)]
    exact e2
theorem noTab_sq (h : SqL K H a xs) : SqL K (noTab H) a xs := by
  rcases h with (h | ⟨o, h⟩) | h
  · exact .inl (.inl (noTab_at h fun _ z => by cases z))
  · exact .inl (.inr ⟨o, noTab_at h fun _ z => by cases z⟩)
  · exact .inr h
theorem q_lock {t : TS} {d : Addr} {u : HO} (hd : H d = some u) (mu : Mut (some u)) (k : ∀ od, t ⟨fun σ' H' => H' d = some (.frz od u) ∧ tz D σ' (upd H' d u), fun v H' => H' d = some (.frz od u) ∧ D.rt v (upd H' d u), fun σ' H' => H' d = some (.frz od u) ∧ D.bk σ' (upd H' d u), fun σ' H' => H' d = some (.frz od u) ∧ D.ct σ' (upd H' d u)⟩ σ (upd H d (.frz od u))) : tSeq (tLock t) tz D σ H := ⟨d, u, hd, mu, k⟩
end
theorem played_cons {S : Type} (step : S → List (List Int) → S × List Int) (s : S) (c : List (List Int)) (r : List (List (List Int))) : PyFlat.told (PyFlat.played step s (c :: r)) = (((step s c).2.length : Int) :: (step s c).2) ++ PyFlat.told (PyFlat.played step (step s c).1 r) := rfl
theorem asked_raw {ns : List Int} (h : PyVbtoad.answers_asked ns = true) : ∃ raw, PyFlat.calls PyVbtoad.shape ns.length ns = some raw ∧ raw.length ≤ 150 ∧ PyInside.calls PyVbtoad.bound raw = true ∧ PyVbtoad.answers ns = PyFlat.told (PyFlat.played VbtoadNeutral.step Vbtoad.empty raw) := by
  unfold PyVbtoad.answers_asked at h
  split at h
  · cases h
  · rename_i raw hraw
    simp only [Bool.and_eq_true] at h
    obtain ⟨⟨⟨⟨-, h1⟩, h2⟩, -⟩, -⟩ := h
    refine ⟨raw, hraw, of_decide_eq_true h1, h2, ?_⟩
    unfold PyVbtoad.answers PyVbtoad.calls
    rw [hraw]
    show PyFlat.told (PyFlat.played VbtoadNeutral.step VbtoadNeutral.start (raw.map PyVbtoad.whole)) = _
    rw [wholes_eq]
    rfl
def spAnswers (K : PySem.W.Frag) : Sp := fun vs H Q _ => ∃ (a : Addr) (ns : List Int), vs = [.ref a] ∧ SqL K H a (ns.map V.int) ∧ H (pS K) = some (.tbl #[]) ∧ PyVbtoad.answers_asked ns = true ∧
  ∀ (H' : Hp) (p : Addr), H' p = some (.lst ((PyVbtoad.answers ns).map V.int)) → Q (.ref p) H'
abbrev sp_answers (K : PySem.W.Frag) : Sp := spAnswers K
theorem sc_answers : FnScope ["calls", "desk", "found", "at", "kind", "letters", "sort", "numbers", "row", "told"] ["calls"] (defScope s_answers) := ⟨rfl, rfl, rfl, by decide +kernel, rfl, by decide +kernel, by decide +kernel⟩
theorem fn_answers {P : Program} {w : World} {K : PySem.W.Frag} {mg : Str → Option Value} {base : Heap} (T : Txt w K mg) (TB : TabB base mg (cS K) (pS K)) {fd : FuncData} (F : FunD K "answers" "answers" (defArgs s_answers) (defBody s_answers) (defScope s_answers) [] [] (He.ga K "answers") fd) : FnOk P w K mg base CX0 13 (He.ga K "answers") fd ["calls"] (sp_answers K) := by
  obtain ⟨fd_Desk_call, G_Desk_call, B_Desk_call, K_Desk_call⟩ := ok_Desk_call (P := P) (w := w) (base := base) T TB
  obtain ⟨fd_Desk_init, G_Desk_init, B_Desk_init, K_Desk_init⟩ := ok_Desk_init (P := P) (w := w) (base := base) T
  refine F.ok sc_answers (fun vs H Q E h => ?_) (fun cdv A outer s H vs Q E hr h => ?_)
  · obtain ⟨a, ns, rfl, ha, hS, asked, k⟩ := h
    rfl
  · refine ⟨_, PSs.nox (pss_cons (ps_set (i := 1) sc_answers.nd rfl (Or.inl rfl) (pe_make0 T.k_Desk G_Desk_init (hr.mono (by decide)) rfl T.g_Desk B_Desk_init .nil pass0 )) (pss_cons (ps_set (i := 2) sc_answers.nd rfl (Or.inl rfl) (pe_lst pa_nil)) (pss_cons (ps_set (i := 3) sc_answers.nd rfl (Or.inl rfl) pe_int) (pss_cons (ps_while PassesOwn.never (pt_cmpR op_lt (pv 3) (pe_callB call_len_seq (by rfl) T.b_len PySem.boot_len (pa_cons (pv 0) pa_nil)) (nomark _)) (pss_cons (ps_set (i := 4) sc_answers.nd rfl (Or.inl rfl) (pe_ix ix_list (pv 0) (pv 3) (fun _ _ => rfl))) (pss_cons (ps_asg (pe_ix ix_tup (pe_glob rfl T.g_SHAPES (show L2.RelV (V.ref (He.ga K "SHAPES")) _ from rfl)) (pv 4) (fun _ _ => rfl)) (pg_tup rfl (pgs_cons (pg_name (i := 5) sc_answers.nd rfl (Or.inl rfl)) (pgs_cons (pg_name (i := 6) sc_answers.nd rfl (Or.inl rfl)) pgs_nil)))) (pss_cons (ps_set (i := 7) sc_answers.nd rfl (Or.inl rfl) (pe_callTy call_list_of (by rfl) T.b_list (by decide +kernel) (pa_cons (pe_slice sl_list (pv 0) (po_some (pe_op op_add (pv 3) pe_int)) (po_some (pe_op op_add (pe_op op_add (pv 3) pe_int) (pe_callB call_len_str (by rfl) T.b_len (by decide +kernel) (pa_cons (pv 5) pa_nil))))) pa_nil))) (pss_cons (ps_set (i := 3) sc_answers.nd rfl (Or.inl rfl) (pe_op op_add (pe_op op_add (pv 3) pe_int) (pe_callB call_len_seq (by rfl) T.b_len PySem.boot_len (pa_cons (pv 7) pa_nil)))) (pss_cons (ps_set (i := 8) sc_answers.nd rfl (Or.inl rfl) (pe_lst pa_nil)) (pss_cut (ps_if (pt_cmpR op_ne (pv 6) pe_str (nomark _)) (pss_cons (ps_set (i := 8) sc_answers.nd rfl (Or.inl rfl) (pe_callTy call_list_of (by rfl) T.b_list (by decide +kernel) (pa_cons (pe_slice sl_list (pv 0) (po_some (pe_op op_add (pv 3) pe_int)) (po_some (pe_op op_add (pe_op op_add (pv 3) pe_int) (pe_ix ix_list (pv 0) (pv 3) (fun _ _ => rfl))))) pa_nil))) (pss_one (ps_set (i := 3) sc_answers.nd rfl (Or.inl rfl) (pe_op op_add (pe_op op_add (pv 3) pe_int) (pe_callB call_len_seq (by rfl) T.b_len PySem.boot_len (pa_cons (pv 8) pa_nil)))))) pss_nil) (pss_cons (ps_lock (ps_set (i := 9) sc_answers.nd rfl (Or.inl rfl) (pe_meth (pv 1) T.c_Desk T.m_Desk_call G_Desk_call (hr.mono (by decide)) B_Desk_call .nil pass0 (pa_cons (pv 4) (pa_cons (pv 7) (pa_cons (pv 8) pa_nil)))))) (pss_cons (ps_expr (pe_bm PySem.F.plainAttrs_list PySem.F.slot_list_append PySem.F.type_list_append mt_append (pv 2) (pa_cons (pe_callB call_len_seq (by rfl) T.b_len PySem.boot_len (pa_cons (pv 9) pa_nil)) pa_nil))) (pss_one (ps_expr (pe_bm PySem.F.plainAttrs_list PySem.F.slot_list_extend PySem.F.type_list_extend mt_extend (pv 2) (pa_cons (pv 9) pa_nil))))))))))))) (pss_one (ps_ret (pv 2))))))), ?_⟩
    obtain ⟨a, ns, rfl, ha, hS, asked, k⟩ := h
    obtain ⟨raw, hraw, hr150, hbound, hans⟩ := asked_raw asked
    refine fun dk dx nx ndx nex => ⟨dk, dx, rfl, upd_same, fun H1 na0 e1 hdk1 hn1 => ⟨rfl, ?_⟩⟩
    have gk : ∀ {b o}, H b = some o → H1 b = some o := fun {b o} hb => e1 _ _ (by rw [upd_ne (ne_of_none hb nx), upd_ne (ne_of_none hb ndx)]; exact hb) (ne_of_none hb nx)
    have g1 : Ex (noTab H) H1 := fun b o hb => gk (noTab_ex _ _ hb)
    have gdk : noTab H dk = none := fresh_back noTab_ex nx
    have t1 : Tabs (tS K) H1 := fun q hq => by
      cases List.mem_singleton.mp hq
      exact TabS.nil (gk hS)
    have sq0 := noTab_sq ha
    have nG := noTab_no (H := H)
    generalize noTab H = G at g1 gdk sq0 nG
    refine q_asgL (el_lst ea_nil (by show 0 ≤ 100000; decide)) fun fa H2 hfa e2 hF2 => ?_
    have gfa : G fa = none := fresh_back g1 hfa
    have dkfa : dk ≠ fa := ne_of_none hdk1 hfa
    refine q_asg ev_c fun H3 e3 => ?_
    refine q_while (fun m σ' H' => ∃ (at_ : Nat) (n : Vbtoad.Net) (F : List Int) (cs : List (List (List Int))) (f : Nat) (na : Addr) (x4 x5 x6 x7 x8 x9 : Option V),
        σ' = [some (.ref a), some (.ref dk), some (.ref fa), some (nV at_), x4, x5, x6, x7, x8, x9] ∧ m = (ns.drop at_).length ∧ Ex G H' ∧ Tabs (tS K) H' ∧ H' dk = some (.ins (cDesk K) dx (FDesk (.ref na))) ∧ NetAt K (noRows [fa] H') na n ∧ NetOk n ∧ H' fa = some (.lst (F.map V.int)) ∧ at_ ≤ ns.length ∧
        PyFlat.calls PyVbtoad.shape f (ns.drop at_) = some cs ∧ PyInside.calls PyVbtoad.bound cs = true ∧ F.length + 40001 * cs.length ≤ 6000150 ∧ PyVbtoad.answers ns = F ++ PyFlat.told (PyFlat.played VbtoadNeutral.step n cs))
      ns.length ⟨0, Vbtoad.empty, [], raw, ns.length, na0, _, _, _, _, _, _, rfl, rfl, g1.trans (e2.trans e3), t1.ext (e2.trans e3), (e2.trans e3) _ _ hdk1, hn1.ex (exR_new hfa (e2.trans e3)), netOk_empty, e3 _ _ hF2, Nat.zero_le _, hraw, hbound, by show 0 + _ ≤ _; omega, hans⟩ ?_
    rintro m σ' H' ⟨at_, n, F, cs, f, na, x4, x5, x6, x7, x8, x9, rfl, rfl, eG, hT, hd, hn, ok, hF, hle, hcs, hb, hlen, hA⟩
    have sq : ∀ {H4 : Hp}, Ex H' H4 → SqL K H4 a (ns.map V.int) := fun e => ex_l (eG.trans e) sq0
    refine ⟨decide ((at_ : Int) < (ns.length : Int)), et_test (ev_op (ev_var rfl) (ev_is (ev_len (ev_var rfl) (sq (Ex.refl _))) (by rw [List.length_map])) rv_I0), fun hlt H1' e1' => ?_, fun hge H1' e1' => ?_⟩
    · have lt : at_ < ns.length := by
        have := of_decide_eq_true hlt
        omega
      obtain ⟨p, hp⟩ : ∃ p, ns[at_]? = some p := ⟨_, List.getElem?_eq_getElem lt⟩
      have hdrop := dropC hp
      rw [hdrop] at hcs
      obtain ⟨f', c, t, cs', hc, hcs', rfl⟩ := calls_step hcs
      obtain ⟨kd, q, rfl, hq, hsz, hcase⟩ := call_step hc
      have klt : kd < shapeL.length := (List.getElem?_eq_some_iff.mp hq).1
      have qm : q ∈ shapeL := List.mem_of_getElem? hq
      have lr : (ns.drop (at_ + 1)).length = ns.length - (at_ + 1) := List.length_drop
      generalize hmm : q.1.cps.size = mm at hsz hcase
      have mm4 : mm ≤ 4 := by
        have : ∀ z ∈ shapeL, z.1.cps.size ≤ 4 := by decide +kernel
        rw [← hmm]
        exact this q qm
      have lnum : ((ns.drop (at_ + 1)).take mm).length = mm := by rw [List.length_take]; omega
      refine ⟨_, fun σ2 H2 h => h, ?_⟩
      -- kind, letters, sort
      refine q_asg (v := nV kd) (ev_op (ev_var rfl) (ev_var rfl) (rv_ixL (sq e1') (atI_nat (by rw [List.getElem?_map, hp]; rfl)))) fun H4 e4 => ?_
      obtain ⟨sh1, sh2⟩ := T.shapes H4
      refine q_pairT (ev_op ev_c (ev_var rfl) (rv_ixT sh1 (atI_nat (i := kd) (by rw [List.getElem?_map, List.getElem?_range klt]; rfl)))) (sh2 kd q hq) fun H5 e5 => ?_
      have e15 := e1'.trans (e4.trans e5)
      -- numbers
      refine q_asgL (xs := ((ns.drop (at_ + 1)).take mm).map V.int) (el_is (el_listN (el_sl (lo := some ((at_ + 1 : Nat) : Int)) (hi := some ((at_ + 1 + mm : Nat) : Int)) (ev_var rfl) (eo_some (ev_is (ev_op (ev_var rfl) ev_c rv_I0) (congrArg V.int (by omega))))
        (eo_some (ev_is (ev_op (ev_op (ev_var rfl) ev_c rv_I0) (ev_lenS (ev_var rfl) (by show q.1.cps.size ≤ 100000; omega)) rv_I0) (congrArg V.int (by show (at_ : Int) + 1 + (q.1.cps.size : Int) = _; omega)))) (sq e15))) ?_) fun nu H6 hnu e6 h6 => ?_
      · rw [cut_mid (by rw [List.length_map]; omega) (by omega), ← List.map_drop, ← List.map_take]
        rw [show at_ + 1 + mm - (at_ + 1) = mm by omega]
      have e16 := e15.trans e6
      refine q_asg (v := nV (at_ + 1 + mm)) (ev_is (ev_op (ev_op (ev_var rfl) ev_c rv_I0) (ev_len (ev_var rfl) (sq_of h6)) rv_I0) (congrArg V.int (by rw [List.length_map, lnum]; omega))) fun H7 e7 => ?_
      refine q_asgL (el_lst ea_nil (by show 0 ≤ 100000; decide)) fun rw0 H8 hrw0 e8 h8 => ?_
      have e18 := e16.trans (e7.trans e8)
      have hnu8 : IntsAt H8 nu ((ns.drop (at_ + 1)).take mm) := (e7.trans e8) _ _ h6
      -- the row
      refine q_cut (M := fun σ'' H'' => ∃ (ra : Addr) (row : List Int) (at2 : Nat) (y9 : Option V), ra ≠ fa ∧ σ'' = [some (.ref a), some (.ref dk), some (.ref fa), some (nV at2), some (nV kd), some (.str q.1), some (.str q.2), some (.ref nu), some (.ref ra), y9] ∧ Ex H8 H'' ∧ IntsAt H'' ra row ∧ row.length ≤ 4000 ∧
        c = (((kd : Int) :: (ns.drop (at_ + 1)).take mm) :: (if q.2 = ("" : Str) then [] else [row])) ∧ at2 ≤ ns.length ∧ ns.drop at2 = t ∧ at_ < at2) ?_ ?_
      · have fa7 : H7 fa = some (.lst (F.map V.int)) := (e16.trans e7) _ _ hF
        have dd : ns.drop (at_ + 1 + mm) = (ns.drop (at_ + 1)).drop mm := by rw [List.drop_drop]
        refine s_when (b := !decide (V.str q.2 = V.str "")) (et_test (ev_op (ev_var rfl) ev_c (rv_ne rfl))) (fun hs H9 e9 => ?_) (fun hs H9 e9 => ?_)
        · have ne : ¬ q.2 = ("" : Str) := fun z => by
            rw [decide_eq_true (show V.str q.2 = V.str "" by rw [z])] at hs
            cases hs
          rcases hcase with ⟨z, -⟩ | ⟨-, l, r', h1, h2, h3, h4⟩
          · exact absurd z ne
          have hA1 : ns[at_ + 1 + mm]? = some (l : Int) := by
            have z := congrArg (fun z : List Int => z[0]?) (dd.trans h1)
            simpa using z
          have hr' : r' = ns.drop (at_ + 1 + mm + 1) := by
            have z := (dropC hA1).symm.trans (dd.trans h1)
            exact (List.cons.inj z).2.symm
          have lr' : r'.length = ns.length - (at_ + 1 + mm + 1) := by rw [hr', List.length_drop]
          have ltA := (List.getElem?_eq_some_iff.mp hA1).1
          have e19 := e18.trans e9
          refine q_asgL (xs := (r'.take l).map V.int) (el_is (el_listN (el_sl (lo := some ((at_ + 1 + mm + 1 : Nat) : Int)) (hi := some ((at_ + 1 + mm + 1 + l : Nat) : Int)) (ev_var rfl) (eo_some (ev_is (ev_op (ev_var rfl) ev_c rv_I0) (congrArg V.int (by omega))))
            (eo_some (ev_is (ev_op (ev_op (ev_var rfl) ev_c rv_I0) (ev_op (ev_var rfl) (ev_var rfl) (rv_ixL (sq e19) (atI_nat (by rw [List.getElem?_map, hA1]; rfl)))) rv_I0) (congrArg V.int (by omega)))) (sq e19))) ?_) fun ra H10 hra e10 h10 => ?_
          · rw [cut_mid (by rw [List.length_map]; omega) (by omega), ← List.map_drop, ← List.map_take, hr']
            rw [show at_ + 1 + mm + 1 + l - (at_ + 1 + mm + 1) = l by omega]
          refine s_asg (v := nV (at_ + 1 + mm + 1 + l)) (ev_is (ev_op (ev_op (ev_var rfl) ev_c rv_I0) (ev_len (ev_var rfl) (sq_of h10)) rv_I0) (congrArg V.int (by rw [List.length_map, List.length_take]; omega))) fun H11 e11 => ?_
          refine ⟨ra, r'.take l, at_ + 1 + mm + 1 + l, _, (ne_of_none ((e19) _ _ hF) hra).symm, rfl, e9.trans (e10.trans e11), e11 _ _ h10, ?_, by rw [if_neg ne, h3], by omega, ?_, by omega⟩
          · have hb1 : PyInside.call PyVbtoad.bound c = true := (List.all_eq_true.mp hb) c (List.mem_cons_self ..)
            rw [h3] at hb1
            exact row_bound hq ne hb1
          · rw [h4, hr', List.drop_drop]
        · have em : q.2 = ("" : Str) := by
            cases z : decide (V.str q.2 = V.str "") with
            | true => exact V.str.inj (of_decide_eq_true z)
            | false => rw [z] at hs; cases hs
          rcases hcase with ⟨-, h3, h4⟩ | ⟨z, -⟩
          · exact ⟨rw0, [], at_ + 1 + mm, _, (ne_of_none fa7 hrw0).symm, rfl, e9, e9 _ _ h8, Nat.zero_le _, by rw [if_pos em, h3], by omega, by rw [h4, dd], by omega⟩
          · exact absurd em z
      · rintro σ'' H9 ⟨ra, row, at2, y9, hrafa, rfl, e9, hrow, hrl, hceq, hat2, hdt, hlt2⟩
        have e19 := e18.trans e9
        have hF9 := e19 _ _ hF
        have hnufa : nu ≠ fa := (ne_of_none (e15 _ _ hF) hnu).symm
        refine q_lock hF9 True.intro fun od => ?_
        have exf : Ex (noRows [fa] H') (upd H9 fa (.frz od (.lst (F.map V.int)))) := (exR e19).trans exR_of
        have dkf : upd H9 fa (.frz od (.lst (F.map V.int))) dk = some (.ins (cDesk K) dx (FDesk (.ref na))) := (upd_ne dkfa).trans (e19 _ _ hd)
        refine x_meth (ev_var rfl) dkf lDesk_call (ea_cons (ev_var rfl) (ea_cons (ev_var rfl) (ea_cons (ev_var rfl) ea_nil))) fun H10 e10 => ?_
        refine ⟨dk, dx, na, nu, ra, n, kd, q, (ns.drop (at_ + 1)).take mm, row, rfl, e10 _ _ dkf, hn.ex (exf.trans e10), ok, (tabs_lst (hT.ext e19) hF9).ext e10, e10 _ _ ((upd_ne hnufa).trans (e9 _ _ hnu8)), e10 _ _ ((upd_ne hrafa).trans hrow), hq, by rw [lnum, hmm], hrl, fun H11 tl na' enb tb hd11 hn11 ok11 h11 => ?_⟩
        have hf11 : H11 fa = some (.frz od (.lst (F.map V.int))) := enb _ _ (e10 _ _ upd_same) (fun _ z => by cases z) (Ne.symm dkfa)
        refine ⟨hf11, ?_⟩
        have htl : tl ≠ fa := fun z => by
          rw [z, hf11] at h11
          cases h11
        have hstep : VbtoadNeutral.step n c = callN n q kd ((ns.drop (at_ + 1)).take mm) row := by
          rw [hceq, callN_eq ok hq (by rw [lnum, hmm])]
          rfl
        have rl := callN_len ok q kd ((ns.drop (at_ + 1)).take mm) row
        rw [played_cons, hstep] at hA
        generalize callN n q kd ((ns.drop (at_ + 1)).take mm) row = R at hn11 ok11 h11 hA rl
        rw [List.length_cons] at hlen
        have szL : sizeLine = 16777216 := rfl
        dsimp only
        refine q_appB (l := fa) (xs := F.map V.int) (v := .int (R.2.length : Int)) upd_same (ev_var rfl) (ev_is (ev_len (ev_var rfl) (sq_of ((upd_ne htl).trans h11))) (by rw [List.length_map])) (by rw [List.length_map]; omega) fun H12 e12 => ?_
        have htl12 : upd H12 fa (.lst (F.map V.int ++ [V.int (R.2.length : Int)])) tl = some (.lst (R.2.map V.int)) := (upd_ne htl).trans (e12 _ _ ((upd_ne htl).trans h11))
        refine s_extV (l := fa) (xs := F.map V.int ++ [V.int (R.2.length : Int)]) (b := tl) upd_same (ev_var rfl) (ev_var rfl) htl12 (by rw [List.length_append, List.length_map, List.length_map]; show _ + 1 + _ ≤ _; omega) fun H13 e13 => ?_
        have hb2 : PyInside.calls PyVbtoad.bound cs' = true := by
          have z : (PyInside.call PyVbtoad.bound c && cs'.all (PyInside.call PyVbtoad.bound)) = true := hb
          rw [Bool.and_eq_true] at z
          exact z.2
        have eG11 : Ex G H11 := fun b o hbo => enb _ _ (e10 _ _ ((upd_ne fun z => by rw [z, gfa] at hbo; cases hbo).trans ((eG.trans e19) _ _ hbo))) (fun ps z => nG b ps (by rw [hbo, z])) fun z => by
          rw [z, gdk] at hbo
          cases hbo
        refine ⟨(ns.drop at2).length, by rw [List.length_drop, List.length_drop]; omega, at2, R.1, F ++ ((R.2.length : Int) :: R.2), cs', f', na', _, _, _, _, _, _, rfl, rfl, Ex.mut ((Ex.mut ((Ex.mut eG11 gfa).trans e12) gfa).trans e13) gfa,
          tabs_lst ((tabs_lst ((tabs_upd tb hf11 (fun _ z => by cases z) (fun _ z => by cases z)).ext e12) (e12 _ _ upd_same)).ext e13) (e13 _ _ upd_same), ?_, ?_, ok11, ?_, hat2, by rw [hdt]; exact hcs', hb2, ?_, ?_⟩
        · rw [upd_ne dkfa]
          exact e13 _ _ ((upd_ne dkfa).trans (e12 _ _ ((upd_ne dkfa).trans hd11)))
        · exact (hn11.but apart_frz hf11 (fun b o h nb => noRows_at h fun z => nb (List.mem_singleton.mp z))).ex (exR_upd.trans ((exR e12).trans (exR_upd.trans ((exR e13).trans exR_upd))))
        · rw [upd_same, List.map_append, List.map_cons, List.append_assoc]
          rfl
        · rw [List.length_append, List.length_cons]
          omega
        · rw [hA, List.append_assoc]
    · have ge : ns.length ≤ at_ := by
        have := of_decide_eq_false hge
        omega
      rw [List.drop_eq_nil_of_le ge] at hcs
      have ecs : cs = [] := by
        cases f <;> (unfold PyFlat.calls at hcs; cases hcs; rfl)
      rw [ecs] at hA
      refine s_ret (ev_var rfl) fun H2' e2' => k H2' fa ?_
      rw [(e1'.trans e2') _ _ hF, hA]
      show some (HO.lst (F.map V.int)) = some (HO.lst ((F ++ []).map V.int))
      rw [List.append_nil]
end SJ
/-! The end of a Spec row with one list of ints for an argument, where one def's code object has a table of its own lambda. -/
namespace SJ
open PySem PySem.Spec PyProof.Rows L2 LamX
open PySem.W (WData Codec OpenSpec Well WellAll ReadsW ReadsAllW)
theorem ints_vals : ∀ (ns : List Int) (vs : List Value) {Pm : Params} {h : Heap}, WellAll Pm h vs (ns.map WData.int) → Vals (ns.map V.int) vs
  | [], vs, _, _, x => by
    cases x
    exact .nil
  | n :: r, vs, _, _, x => by
    obtain ⟨v, vs', rfl, x1, x2⟩ := well_cons x
    refine .cons ?_ (ints_vals r vs' x2)
    cases x1
    exact ⟨_, rfl⟩
theorem spec_callT {P : Program} {w : World} {K : PySem.W.Frag} {mg mb : Str → Option Value} {CX : CXT} {k : Nat} {fa c T : Addr} {fd : FuncData} {x : Str} {sp : Sp} {s₁ : Shared} {vals : List Value} {ns : List Int} {R : PySem.W.WRecords} {cl : Str → Option Addr} {d0 : WData}
    (KX : K.In s₁.heap) (hns : s₁.heap.Ns mainGlobals mg) (hb : s₁.heap.Ns builtinsNs mb) (hbb : ∀ x : Str, x ≠ "__name__" → mb x = bootBuiltins x) (hlim : s₁.heap.NoLimit) (hg : s₁.gens = #[])
    (hT : s₁.heap.get? T = some { cls := .none, data := .fields #[] }) (nT : K.lookup T = none) (C : PySem.W.CodeHd s₁.heap c T)
    (hbm : ∃ (bm : Addr) (ob : Obj), mg "__builtins__" = some (.ref bm) ∧ bm ≠ builtinsNs ∧ s₁.heap.get? bm = some ob ∧ ob.cls = .type "module" ∧ ob.dict = some builtinsNs ∧ ob.data = .plain)
    (hwl : WellAll w.params s₁.heap vals [.list (ns.map WData.int)]) (hl : ns.length ≤ sizeLine) (hr : Room k callerA)
    (F : ∀ base : Heap, K.In base → base.Ns mainGlobals mg → TabB base mg c T → FnOk P w K mg base CX k fa fd [x] sp) (hbind : ∀ (s : Shared) (us : List Value), us.length = 1 → BindsTo s fd ⟨us, []⟩ (([x] : List Str).zip us))
    (hsp : ∀ (H : Hp) (a : Addr), H T = some (.tbl #[]) → SqL K H a (ns.map V.int) → sp [.ref a] H (fun v H' => Dw K H' v d0) fun _ _ _ => False)
    (hCX : ∀ H e s', CX [] H s₁ (fun _ _ _ => False) e s' → False) :
    codeAny (model P w) callerA (.call (.ref fa) ⟨vals, []⟩) (fun r s' => ∃ u as, r = .ok (.ret u) ∧ ReadsW R cl s'.heap u d0 as ∧ OldK s₁.heap s'.heap ∧ s'.os = s₁.os ∧ AllBare s'.gens) s₁ := by
  obtain ⟨v0, vs0, rfl, x1, x2⟩ := well_cons hwl
  cases x2
  obtain ⟨a, vs, rfl, ha, hall⟩ := well_list x1
  have rv := ints_vals ns vs hall
  have lenV : ns.length = vs.length := by
    have := rv.length
    rwa [List.length_map] at this
  have aT : a ≠ T := fun z => by
    rw [z, hT] at ha
    have z' : Data.fields #[] = Data.seq vs.toArray _ := congrArg Obj.data (Option.some.inj ha)
    cases z'
  have core : ∀ H : Hp, H T = some (.tbl #[]) → (∀ b, H b = none ∨ b = T ∨ ∃ o xs, H b = some (.frz o (.lst xs))) → SqL K H a (ns.map V.int) → HOk P w H s₁.heap → (∀ b, H b ≠ none → b = a ∨ b = T) → (H a ≠ none → K.lookup a = none) →
      codeAny (model P w) callerA (.call (.ref fa) ⟨[.ref a], []⟩) (fun r s' => ∃ u as, r = .ok (.ret u) ∧ ReadsW R cl s'.heap u d0 as ∧ OldK s₁.heap s'.heap ∧ s'.os = s₁.os ∧ AllBare s'.gens) s₁ := by
    intro H hH hO hS hok hA hK
    have base_of : ∀ {b : Addr} {o : Obj}, s₁.heap.get? b = some o → H b = none → (hidT s₁.heap H).get? b = some o := fun e n => hidT_get e n
    have noD : ∀ {b : Addr} {o : Obj}, s₁.heap.get? b = some o → (∀ vs n, o.data ≠ .seq vs n) → o.data ≠ .fields #[] → H b = none := fun {b o} e h1 h2 => by
      cases q : H b with
      | none => rfl
      | some u =>
        rcases hA b (by rw [q]; simp) with e' | e'
        · rw [e', ha] at e
          cases e
          exact (h1 _ _ rfl).elim
        · rw [e', hT] at e
          cases e
          exact (h2 rfl).elim
    have noA : ∀ {b : Addr} {o : Obj} {es : Array DictEntry} {ep : Nat}, s₁.heap.get? b = some o → o.data = .dict es ep → H b = none := fun {b o es ep} e d => by
      refine noD e (fun vs n z => ?_) fun z => ?_
      · rw [d] at z
        cases z
      · rw [d] at z
        cases z
    have nsK : ∀ {b : Addr} {m : Str → Option Value}, s₁.heap.Ns b m → (hidT s₁.heap H).Ns b m := fun {b m} ⟨o, es, ep, e, d, r⟩ => ⟨o, es, ep, base_of e (noA e d), d, r⟩
    have hKb : K.In (hidT s₁.heap H) := fun b o e => base_of (KX b o e) (by
      cases q : H b with
      | none => rfl
      | some u =>
        rcases hA b (by rw [q]; simp) with e' | e'
        · rw [e'] at e q
          rw [hK (by rw [q]; simp)] at e
          cases e
        · rw [e', nT] at e
          cases e)
    have hM : L2.Mod K mg (hidT s₁.heap H) := ⟨hKb, nsK hns, ⟨mb, nsK hb, hbb⟩, let ⟨mc, h1, h2⟩ := hlim; ⟨mc, nsK h1, h2⟩⟩
    have TB : TabB (hidT s₁.heap H) mg c T := by
      refine ⟨?_, ?_, fun z => ?_⟩
      · obtain ⟨o, us, file, tf, flags, tg, inF, text, tt, e1, r1, r2, r3, r4, r5, r6, r7, r8, hne⟩ := C
        refine ⟨o, us, file, tf, flags, tg, inF, text, tt, base_of e1 (noD e1 (fun vs n z => ?_) fun z => ?_), r1, r2, r3, r4, r5, r6, r7, r8, hne⟩
        · rw [r2] at z
          cases z
        · rw [r2] at z
          cases z
          simp at r3
      · obtain ⟨bm, ob, b1, b2, b3, b4, b5, b6⟩ := hbm
        have nG : bm ≠ mainGlobals := fun q => by
          obtain ⟨o, es, ep, e, hd, _⟩ := hns
          rw [q, e] at b3
          cases b3
          rw [hd] at b6
          cases b6
        have nP : bm ≠ T := fun q => by
          rw [q, hT] at b3
          cases b3
          cases b6
        refine ⟨bm, ob, b1, b2, nG, nP, base_of b3 (noD b3 (fun vs n z => ?_) fun z => ?_), b4, b5, b6⟩
        · rw [b6] at z
          cases z
        · rw [b6] at z
          cases z
      · obtain ⟨o, es, ep, e, hd, _⟩ := hns
        rw [z, hT] at e
        cases e
        cases hd
    have e0 : Env0 P w K mg (hidT s₁.heap H) callerA [] s₁ H := ⟨rfl, hM, fun b o e => of_hidT e, Nat.le_of_eq (hidT_size _ _), trivial, fun b hb => absurd (show b ∈ ([] : List Addr) from hb) (by simp), hok, .of_eq hg⟩
    refine codeAny_mono ((F _ hKb (nsK hns) TB).run callerA [] s₁ H ⟨[.ref a], []⟩ [.ref a] [.ref a] _ _ hr e0 (hbind s₁ [.ref a] rfl) (.cons rfl .nil) (hsp H a hH hS)) fun r s' h => ?_
    cases r with
    | error e => exact (hCX H e s' h).elim
    | ok fl =>
      cases fl with
      | next => exact False.elim h
      | brk => exact False.elim h
      | cont => exact False.elim h
      | ret u =>
        obtain ⟨v, H', os, bare, un, hok', r', q⟩ := h
        have key : ∀ b o, b ≠ T → s₁.heap.get? b = some o → s'.heap.get? b = some o := fun b o nb e => by
          cases q : H b with
          | none => exact un.keep b o e q (by intro z; exact absurd (show b ∈ ([] : List Addr) from z) (by simp)) (by simp)
          | some u =>
            rcases hO b with z | z | ⟨ob, xs, z⟩
            · rw [q] at z; cases z
            · exact absurd z nb
            · have z2 := un.frzs b ob _ z
              obtain ⟨e1, _⟩ := hok b _ z
              obtain ⟨e2, _⟩ := hok' b _ z2
              rw [e] at e1; cases e1
              exact e2
        obtain ⟨more, zt⟩ := un.tbls T #[] hH
        have grown : s'.heap.get? T = some { cls := .none, data := .fields (#[] ++ more) } := hok' T _ zt
        have KX' : K.In s'.heap := fun b o e => key b o (fun z => by rw [z, nT] at e; cases e) (KX b o e)
        obtain ⟨as, hrd⟩ := Dw.reads (R := R) (cl := cl) hok' KX' d0 v u q r'
        refine ⟨u, as, rfl, hrd, ⟨fun b o e => ?_, fun b o e => ?_⟩, os, bare⟩
        · by_cases hb : b = T
          · subst hb
            rw [hT] at e
            cases e
            exact .inr (.inl ⟨(C.tab hT).isCodeTable, rfl, #[], more, rfl, by rw [Array.empty_append] at grown ⊢; exact grown⟩)
          · exact .inl (key b o hb e)
        · by_cases hb : b = T
          · subst hb
            exact ⟨_, grown⟩
          · exact ⟨o, key b o hb e⟩
  cases hk : K.lookup a with
  | some o =>
    have e := KX a o hk
    rw [ha] at e
    cases e
    refine core (fun b => if b = T then some (.tbl #[]) else none) (if_pos rfl) (fun b => ?_) (.inr ⟨_, vs.toArray, _, hk, rfl, rfl, rfl, by rw [List.size_toArray, ← lenV]; exact hl, by simpa using rv⟩) (fun b u z => ?_) (fun b z => ?_) fun z => absurd (show (if a = T then some (HO.tbl #[]) else none) = none from if_neg aT) z
    · by_cases hb : b = T
      · exact .inr (.inl hb)
      · exact .inl (if_neg hb)
    · by_cases hb : b = T
      · have z' := (if_pos hb).symm.trans z
        cases z'
        rw [hb]
        exact hT
      · have z' := (if_neg hb).symm.trans z
        cases z'
    · by_cases hb : b = T
      · exact .inr hb
      · exact absurd (if_neg hb) z
  | none =>
    refine core (fun b => if b = a then some (.frz { cls := .type "list", data := .seq vs.toArray } (.lst (ns.map V.int))) else if b = T then some (.tbl #[]) else none) ((if_neg (Ne.symm aT)).trans (if_pos rfl)) (fun b => ?_)
      (.inl (.inr ⟨{ cls := .type "list", data := .seq vs.toArray }, if_pos rfl⟩)) (fun b u z => ?_) (fun b z => ?_) fun _ => hk
    · by_cases hb : b = a
      · exact .inr (.inr ⟨_, _, if_pos hb⟩)
      · by_cases hb2 : b = T
        · exact .inr (.inl hb2)
        · exact .inl ((if_neg hb).trans (if_neg hb2))
    · by_cases hb : b = a
      · have z' := (if_pos hb).symm.trans z
        cases z'
        rw [hb]
        exact ⟨ha, by rw [List.length_map]; exact hl, vs, _, rv, ha⟩
      · have z1 := (if_neg hb).symm.trans z
        by_cases hb2 : b = T
        · have z' := (if_pos hb2).symm.trans z1
          cases z'
          rw [hb2]
          exact hT
        · have z' := (if_neg hb2).symm.trans z1
          cases z'
    · by_cases hb : b = a
      · exact .inl hb
      · by_cases hb2 : b = T
        · exact .inr hb2
        · exact absurd ((if_neg hb).trans (if_neg hb2)) z
end SJ
namespace SJ
open PySem PySem.Spec PyProof.Rows L2 LamX
open PySem.W (WData Codec OpenSpec Well WellAll ReadsW ReadsAllW)
theorem said : R.wellSaid = true := by decide +kernel
theorem finish (k : Nat) (hr : Room k callerA)
    (F : ∀ (w : World) (K : PySem.W.Frag) (mg : Str → Option Value) (base h : Heap), K.In h → h.Ns mainGlobals mg → Says w h K → K.In base → base.Ns mainGlobals mg → TabB base mg (cS K) (pS K) →
      ∀ fd, FunD K "answers" "answers" (defArgs s_answers) (defBody s_answers) (defScope s_answers) [] [] (He.fAd K ("answers", none)) fd → FnOk R.prog w K mg base CX0 k (He.fAd K ("answers", none)) fd ["calls"] (spAnswers K)) : R.Holds := by
  refine HandSHeadRun.head_spec (r := R) (q := qv) (H := hookY) (ob := ob) (M := 6000) (loose := names) (d := HandSHeadRun.topDef R.prog 92) (kwd := []) ob_eq (by kernel_rfl) (fun s => by kernel_rfl) run (by kernel_rfl) (by kernel_rfl) (by kernel_rfl)
    PySem.W.os_shapes said (by decide +kernel) ⟨rfl, rfl, rfl, rfl, rfl, by decide +kernel⟩ ⟨[.list [.int 15]], by decide +kernel, by decide +kernel⟩ ?hc
  intro w s₀ s₁ mg mb G Y fa o pm cd doc dV kV ho hd hcd hD hmg hg args vals as hpre hlay hrd hwl hlo
  obtain ⟨K, KX, c⟩ := Y
  obtain ⟨a, e1, e2⟩ := PySem.W.os_pre_some hpre
  obtain ⟨e3, hwi⟩ := Codec.encAll_of_decAll _ args a e1
  subst e3
  obtain ⟨fd, FD⟩ := f_answers c.t.d
  have hmg0 : mg ("answers" : Str) = some (.ref fa) := by
    have e : (HandSHeadRun.topDef R.prog 92).name = ("answers" : PySem.Str) := by kernel_rfl
    rw [← e]
    exact hmg
  have efa : fa = He.fAd K ("answers", none) := by
    have z := hmg0.symm.trans (g_answers KX G.T.g c.t.d)
    cases z
    rfl
  subst efa
  have b := FunD.bindsA (ps := ["calls"]) FD fun _ _ _ _ _ _ us hl => match us, hl with | [_], _ => rfl
  obtain ⟨ns, u⟩ := a
  have hw2 : ((Codec.inLen 0 17000 ns && ns.all (Codec.inInt (-1000000000000000000) 1000000000000000000)) && true) = true := hwi
  rw [Bool.and_eq_true, Bool.and_eq_true] at hw2
  have hlen : ns.length ≤ 17000 := (Codec.inNat_iff.mp hw2.1.1).2
  have hsz : ns.length ≤ sizeLine := Nat.le_trans hlen (by decide)
  have hT := c.empty ("Sureness", some "__init__") (List.mem_singleton.mpr rfl)
  have nT := c.out ("Sureness", some "__init__") (List.mem_singleton.mpr rfl)
  have C : PySem.W.CodeHd s₁.heap (cS K) (pS K) := PySem.W.codeHd_of_K KX (c.hd ("Sureness", some "__init__") (List.mem_singleton.mpr rfl))
  refine PySem.W.enter_call (codeAny_mono (spec_callT (R := []) (cl := classAt s₀.heap) (d0 := R.ret.enc (Codec.app R.args R.f (ns, u))) (ns := ns) (CX := CX0) KX G.T.g G.T.b G.T.builtins G.T.nolimit hg hT nT C G.T.bmain hwl hsz hr
    (fun base KB GB TB => F w K mg base _ KX G.T.g c KB GB TB fd FD) (fun s us hl => b s us hl) (fun H a hH hS => ?_) fun H e s' z => z) fun r' s' hq => ?_)
  · exact ⟨a, ns, rfl, hS, hH, e2, fun H' p hp => .lst (SqL.of hp) (dw_ints _)⟩
  · obtain ⟨u, as', rfl, h1, h2, h3, h4⟩ := hq
    exact ⟨.inl ⟨u, _, as', rfl, fun _ => rfl, h1, (OpenSpec.post_iff said hwi _ _).mpr rfl, fun z => Bool.noConfusion (show false = true from z)⟩, h2, h3, h4⟩
end SJ
namespace SJ
open PySem PySem.Spec PyProof.Rows L2 LamX
theorem holds : R.Holds := finish 13 ⟨rfl, by decide, by decide⟩ fun w K mg base h KX G c KB GB TB fd FD => fn_answers ⟨h, KX, G, c⟩ TB FD
end SJ
theorem PySem.Challenge.cw_surejourney_s01_answers_holds : PySem.Challenge.rw_surejourney_s01_answers.Holds :=
  SJ.holds
