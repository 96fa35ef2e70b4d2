import PyProof.Rows.All
import Wide.All
import OpenK.AllK
import Wide.FinOn
import HandS.ForExc
import HandS.Comp
import HandS.Iter
import HandS.Wide
import HandS.Gcd
import HandS.Style
import HandS.IsInst
import HandS.Star
import KE.GoesEnum
import KE.KRevSl
import HandS.TryOnly
import HandS.WordsExc
import HandS.WideBits
import PyProof.Rows.NestShow
import HandS.Ends
import PySem.Challenge.RW_withinrim_k12_whole_quotients_by_own_red
set_option Elab.async false
set_option linter.all false
set_option maxRecDepth 100000
set_option maxHeartbeats 4000000
/-! Gaussian rationals -/
namespace K12
structure G where
  re : Rat
  im : Rat
deriving DecidableEq
namespace G
theorem ext' {x y : G} (h1 : x.re = y.re) (h2 : x.im = y.im) : x = y := by
  cases x; cases y; simp at h1 h2; simp [h1, h2]
instance : Add G := ⟨fun x y => ⟨x.re + y.re, x.im + y.im⟩⟩
instance : Sub G := ⟨fun x y => ⟨x.re - y.re, x.im - y.im⟩⟩
instance : Neg G := ⟨fun x => ⟨-x.re, -x.im⟩⟩
instance : Mul G := ⟨fun x y => ⟨x.re * y.re - x.im * y.im, x.re * y.im + x.im * y.re⟩⟩
/-- the size squared -/
def nm (x : G) : Rat := x.re * x.re + x.im * x.im
instance : Inv G := ⟨fun x => ⟨x.re * (x.nm)⁻¹, -x.im * (x.nm)⁻¹⟩⟩
instance : Div G := ⟨fun x y => x * y⁻¹⟩
instance : NatCast G := ⟨fun n => ⟨n, 0⟩⟩
instance : IntCast G := ⟨fun n => ⟨n, 0⟩⟩
instance (n : Nat) : OfNat G n := ⟨⟨(n : Rat), 0⟩⟩
def npow (x : G) : Nat → G
  | 0 => 1
  | n + 1 => npow x n * x
instance : HPow G Nat G := ⟨npow⟩
def zpow (x : G) : Int → G
  | .ofNat n => npow x n
  | .negSucc n => (npow x (n + 1))⁻¹
instance : HPow G Int G := ⟨zpow⟩
instance : SMul Nat G := ⟨fun n x => (n : G) * x⟩
instance : SMul Int G := ⟨fun n x => (n : G) * x⟩
theorem add_re (x y : G) : (x + y).re = x.re + y.re := rfl
theorem add_im (x y : G) : (x + y).im = x.im + y.im := rfl
theorem sub_re (x y : G) : (x - y).re = x.re - y.re := rfl
theorem sub_im (x y : G) : (x - y).im = x.im - y.im := rfl
theorem neg_re (x : G) : (-x).re = -x.re := rfl
theorem neg_im (x : G) : (-x).im = -x.im := rfl
theorem mul_re (x y : G) : (x * y).re = x.re * y.re - x.im * y.im := rfl
theorem mul_im (x y : G) : (x * y).im = x.re * y.im + x.im * y.re := rfl
theorem inv_re (x : G) : (x⁻¹).re = x.re * (x.nm)⁻¹ := rfl
theorem inv_im (x : G) : (x⁻¹).im = -x.im * (x.nm)⁻¹ := rfl
theorem ofNat_re (n : Nat) : (OfNat.ofNat n : G).re = (n : Rat) := rfl
theorem ofNat_im (n : Nat) : (OfNat.ofNat n : G).im = 0 := rfl
theorem nat_re (n : Nat) : ((n : G)).re = (n : Rat) := rfl
theorem nat_im (n : Nat) : ((n : G)).im = 0 := rfl
theorem int_re (n : Int) : ((n : G)).re = (n : Rat) := rfl
theorem int_im (n : Int) : ((n : G)).im = 0 := rfl
theorem zero_re : (0 : G).re = 0 := rfl
theorem zero_im : (0 : G).im = 0 := rfl
theorem one_re : (1 : G).re = 1 := rfl
theorem one_im : (1 : G).im = 0 := rfl
theorem sq_nn (a : Rat) : 0 ≤ a * a := by
  rcases Rat.le_total (a := 0) (b := a) with h | h
  · exact Rat.mul_nonneg h h
  · have h' : 0 ≤ -a := by grind
    have := Rat.mul_nonneg h' h'
    grind
theorem nm_zero {x : G} (h : x.nm = 0) : x = 0 := by
  have h1 := sq_nn x.re
  have h2 := sq_nn x.im
  unfold nm at h
  have e1 : x.re * x.re = 0 := by grind
  have e2 : x.im * x.im = 0 := by grind
  have f1 : x.re = 0 := by rcases Rat.mul_eq_zero.mp e1 with h | h <;> exact h
  have f2 : x.im = 0 := by rcases Rat.mul_eq_zero.mp e2 with h | h <;> exact h
  exact ext' (by rw [f1]; rfl) (by rw [f2]; rfl)
theorem nm_ne {x : G} (h : x ≠ 0) : x.nm ≠ 0 := fun e => h (nm_zero e)
instance : Lean.Grind.CommRing G where
  add_zero a := ext' (by simp only [add_re, zero_re]; grind) (by simp only [add_im, zero_im]; grind)
  add_comm a b := ext' (by simp only [add_re]; grind) (by simp only [add_im]; grind)
  add_assoc a b c := ext' (by simp only [add_re]; grind) (by simp only [add_im]; grind)
  mul_assoc a b c := ext' (by simp only [mul_re, mul_im]; grind) (by simp only [mul_re, mul_im]; grind)
  mul_one a := ext' (by simp only [mul_re, mul_im, one_re, one_im]; grind) (by simp only [mul_re, mul_im, one_re, one_im]; grind)
  one_mul a := ext' (by simp only [mul_re, mul_im, one_re, one_im]; grind) (by simp only [mul_re, mul_im, one_re, one_im]; grind)
  left_distrib a b c := ext' (by simp only [mul_re, mul_im, add_re, add_im]; grind) (by simp only [mul_re, mul_im, add_re, add_im]; grind)
  right_distrib a b c := ext' (by simp only [mul_re, mul_im, add_re, add_im]; grind) (by simp only [mul_re, mul_im, add_re, add_im]; grind)
  zero_mul a := ext' (by simp only [mul_re, mul_im, zero_re, zero_im]; grind) (by simp only [mul_re, mul_im, zero_re, zero_im]; grind)
  mul_zero a := ext' (by simp only [mul_re, mul_im, zero_re, zero_im]; grind) (by simp only [mul_re, mul_im, zero_re, zero_im]; grind)
  mul_comm a b := ext' (by simp only [mul_re, mul_im]; grind) (by simp only [mul_re, mul_im]; grind)
  pow_zero a := rfl
  pow_succ a n := rfl
  ofNat_succ a := ext' (by rw [add_re, ofNat_re, ofNat_re, one_re]; push_cast; grind) (by rw [add_im, ofNat_im, ofNat_im, one_im]; grind)
  ofNat_eq_natCast n := rfl
  nsmul_eq_natCast_mul n a := rfl
  neg_add_cancel a := ext' (by simp only [add_re, neg_re, zero_re]; grind) (by simp only [add_im, neg_im, zero_im]; grind)
  sub_eq_add_neg a b := ext' (by simp only [add_re, neg_re, sub_re]; grind) (by simp only [add_im, neg_im, sub_im]; grind)
  neg_zsmul i a := ext' (by show ((((-i : Int) : G)) * a).re = (-((i : G) * a)).re; simp only [neg_re, mul_re, int_re, int_im]; push_cast; grind) (by show ((((-i : Int) : G)) * a).im = (-((i : G) * a)).im; simp only [neg_im, mul_im, int_re, int_im]; push_cast; grind)
  zsmul_natCast_eq_nsmul n a := ext' (by show ((((n : Int) : G)) * a).re = ((n : G) * a).re; simp only [mul_re, int_re, int_im, nat_re, nat_im]; push_cast; grind) (by show ((((n : Int) : G)) * a).im = ((n : G) * a).im; simp only [mul_im, int_re, int_im, nat_re, nat_im]; push_cast; grind)
  intCast_ofNat n := ext' (by simp only [int_re, ofNat_re]; rfl) (by simp only [int_im, ofNat_im])
  intCast_neg i := ext' (by simp only [int_re, neg_re]; push_cast; rfl) (by simp only [int_im, neg_im]; grind)
theorem mul_inv {a : G} (h : a ≠ 0) : a * a⁻¹ = 1 := by
  have hn := nm_ne h
  refine ext' ?_ ?_
  · simp only [mul_re, inv_re, inv_im, one_re]
    have e : a.re * (a.re * a.nm⁻¹) - a.im * (-a.im * a.nm⁻¹) = a.nm * a.nm⁻¹ := by unfold nm; grind
    rw [e]
    exact Rat.mul_inv_cancel _ hn
  · simp only [mul_im, inv_re, inv_im, one_im]
    grind
instance : Lean.Grind.Field G where
  div_eq_mul_inv a b := rfl
  zero_ne_one h := by
    have := congrArg G.re h
    simp only [zero_re, one_re] at this
    grind
  inv_zero := ext' (by simp only [inv_re, zero_re]; grind) (by simp only [inv_im, zero_im]; grind)
  mul_inv_cancel h := mul_inv h
  zpow_zero a := rfl
  zpow_succ a n := rfl
  zpow_neg a n := by
    match n with
    | .ofNat 0 => 
      show (1 : G) = (1 : G)⁻¹
      refine ext' ?_ ?_
      · simp only [inv_re, one_re, nm, one_im]; grind
      · simp only [inv_im, one_im]; grind
    | .ofNat (k + 1) => rfl
    | .negSucc k =>
      show npow a (k + 1) = ((npow a (k + 1))⁻¹)⁻¹
      by_cases h : npow a (k + 1) = 0
      · rw [h]
        refine ext' ?_ ?_ 
        · simp only [inv_re, zero_re]; grind
        · simp only [inv_im, zero_im]; grind
      · generalize npow a (k + 1) = b at h
        have h1 := mul_inv h
        have h2 : b⁻¹ ≠ 0 := fun e => by
          rw [e] at h1
          have := congrArg G.re h1
          simp only [mul_re, zero_re, zero_im, one_re] at this
          grind
        have h3 := mul_inv h2
        have : b = b * (b⁻¹ * b⁻¹⁻¹) := by rw [h3]; grind
        rw [this]
        have : b * (b⁻¹ * b⁻¹⁻¹) = (b * b⁻¹) * b⁻¹⁻¹ := by grind
        rw [this, h1]
        grind
theorem mul_eq_zero {a b : G} (h : a * b = 0) : a = 0 ∨ b = 0 := by
  by_cases ha : a = 0
  · exact .inl ha
  · right; grind
end G
example (a b c d : G) (h : b ≠ 0) (h2 : d ≠ 0) : a / b + c / d = (a * d + c * b) / (b * d) := by grind
end K12
/-! DL: a layer of data over HandS. -/
namespace DL
open PySem PySem.Spec PyProof.Rows L2

/-! ### data in a heap -/
mutual
inductive Dv (K : PySem.W.Frag) (G : Hp) : V → PyData → Prop
  | non : Dv K G .non .none
  | bl (b : Bool) : Dv K G (.bl b) (.bool b)
  | int (i : Int) : Dv K G (.int i) (.int i)
  | str (x : Str) : Dv K G (.str x) (.str x)
  | lst {a : Addr} {xs : List V} {ds : List PyData} : Rd G a (.lst xs) → DvAll K G xs ds → Dv K G (.ref a) (.list ds)
  | tup {a : Addr} {xs : List V} {ds : List PyData} : SqT K G a xs → DvAll K G xs ds → Dv K G (.ref a) (.tuple ds)
inductive DvAll (K : PySem.W.Frag) (G : Hp) : List V → List PyData → Prop
  | nil : DvAll K G [] []
  | cons {v : V} {vs : List V} {d : PyData} {ds : List PyData} : Dv K G v d → DvAll K G vs ds → DvAll K G (v :: vs) (d :: ds)
end
theorem rd_mono {G G' : Hp} {a : Addr} {u : HO} (e : Same G G') (h : Rd G a u) : Rd G' a u := by
  rcases h with h | ⟨o, h⟩
  · exact .inl (e _ _ h)
  · exact .inr ⟨o, e _ _ h⟩
theorem SqT.mono {K : PySem.W.Frag} {G G' : Hp} {a : Addr} {xs : List V} (e : Same G G') (h : SqT K G a xs) : SqT K G' a xs := by
  rcases h with (h | ⟨o, h⟩) | h
  · exact .inl (.inl (e _ _ h))
  · exact .inl (.inr ⟨o, e _ _ h⟩)
  · exact .inr h
section
variable {K : PySem.W.Frag} {G G' : Hp}
mutual
theorem Dv.mono (e : Same G G') : ∀ {v : V} {d : PyData}, Dv K G v d → Dv K G' v d
  | _, _, .non => .non
  | _, _, .bl b => .bl b
  | _, _, .int i => .int i
  | _, _, .str x => .str x
  | _, _, .lst h a => .lst (rd_mono e h) (DvAll.mono e a)
  | _, _, .tup h a => .tup (SqT.mono e h) (DvAll.mono e a)
theorem DvAll.mono (e : Same G G') : ∀ {vs : List V} {ds : List PyData}, DvAll K G vs ds → DvAll K G' vs ds
  | _, _, .nil => .nil
  | _, _, .cons h a => .cons (Dv.mono e h) (DvAll.mono e a)
end
mutual
theorem Dv.dp : ∀ {v : V} {d : PyData}, Dv K G v d → Dp K G v d
  | _, _, .non => .non
  | _, _, .bl b => .bl b
  | _, _, .int i => .int i
  | _, _, .str x => .str x
  | _, _, .lst h a => .lst (.inl h) (DvAll.dp a)
  | _, _, .tup h a => .tup h (DvAll.dp a)
theorem DvAll.dp : ∀ {vs : List V} {ds : List PyData}, DvAll K G vs ds → DpAll K G vs ds
  | _, _, .nil => .nil
  | _, _, .cons h a => .cons (Dv.dp h) (DvAll.dp a)
end
theorem DvAll.len : ∀ {vs : List V} {ds : List PyData}, DvAll K G vs ds → vs.length = ds.length
  | _, _, .nil => rfl
  | _, _, .cons _ a => by rw [List.length_cons, List.length_cons, DvAll.len a]
theorem DvAll.get : ∀ {vs : List V} {ds : List PyData} {i : Nat} {d : PyData}, DvAll K G vs ds → ds[i]? = some d → ∃ v, vs[i]? = some v ∧ Dv K G v d
  | _, _, _, _, .nil, h => by simp at h
  | _, _, 0, _, .cons h _, e => by simp at e; subst e; exact ⟨_, rfl, h⟩
  | _, _, i + 1, d, .cons _ a, e => by
    obtain ⟨v, h1, h2⟩ := DvAll.get (i := i) (d := d) a (by simpa using e)
    exact ⟨v, by simpa using h1, h2⟩
theorem DvAll.append : ∀ {vs ws : List V} {ds es : List PyData}, DvAll K G vs ds → DvAll K G ws es → DvAll K G (vs ++ ws) (ds ++ es)
  | _, _, _, _, .nil, b => b
  | _, _, _, _, .cons h a, b => .cons h (DvAll.append a b)
theorem DvAll.set {v : V} {d : PyData} (h : Dv K G v d) : ∀ {vs : List V} {ds : List PyData} (i : Nat), DvAll K G vs ds → DvAll K G (vs.set i v) (ds.set i d)
  | _, _, _, .nil => .nil
  | _, _, 0, .cons _ a => .cons h a
  | _, _, i + 1, .cons g a => .cons g (DvAll.set h i a)
theorem DvAll.take : ∀ {vs : List V} {ds : List PyData} (n : Nat), DvAll K G vs ds → DvAll K G (vs.take n) (ds.take n)
  | _, _, 0, _ => .nil
  | _, _, _ + 1, .nil => .nil
  | _, _, n + 1, .cons h a => .cons h (DvAll.take n a)
theorem DvAll.drop : ∀ {vs : List V} {ds : List PyData} (n : Nat), DvAll K G vs ds → DvAll K G (vs.drop n) (ds.drop n)
  | _, _, 0, a => a
  | _, _, _ + 1, .nil => .nil
  | _, _, n + 1, .cons _ a => DvAll.drop n a
theorem DvAll.reverse : ∀ {vs : List V} {ds : List PyData}, DvAll K G vs ds → DvAll K G vs.reverse ds.reverse
  | _, _, .nil => .nil
  | _, _, .cons h a => by
    rw [List.reverse_cons, List.reverse_cons]
    exact (DvAll.reverse a).append (.cons h .nil)
theorem DvAll.dropLast {vs : List V} {ds : List PyData} (h : DvAll K G vs ds) : DvAll K G vs.dropLast ds.dropLast := by
  rw [List.dropLast_eq_take, List.dropLast_eq_take, h.len]
  exact h.take _
theorem DvAll.rep {v : V} {d : PyData} (h : Dv K G v d) : ∀ n : Nat, DvAll K G (List.replicate n v) (List.replicate n d)
  | 0 => .nil
  | n + 1 => .cons h (DvAll.rep h n)
theorem DvAll.reps {vs : List V} {ds : List PyData} (h : DvAll K G vs ds) : ∀ n : Nat, DvAll K G (List.replicate n vs).flatten (List.replicate n ds).flatten
  | 0 => .nil
  | n + 1 => by
    rw [List.replicate_succ, List.replicate_succ, List.flatten_cons, List.flatten_cons]
    exact h.append (DvAll.reps h n)
theorem DvAll.ints : ∀ (ns : List Int), DvAll K G (ns.map V.int) (ns.map PyData.int)
  | [] => .nil
  | n :: r => .cons (.int n) (DvAll.ints r)
end

/-! ### slots -/
/-- what is told of a slot: nothing, data, a list of one's own (it may still be changed), the pail -/
inductive Sl where
  | un
  | dat (d : PyData)
  | own (ds : List PyData)
  | pl

/-- the pail: a list of three ints -/
def PailAt (H : Hp) (p : Addr) : Prop := ∃ a b c : Int, H p = some (.lst [.int a, .int b, .int c])

/-- a call's entry: the written part, the data that stand, the heap, the pail's address -/
structure Bs where
  K : PySem.W.Frag
  G0 : Hp
  H0 : Hp
  pa : Option Addr

structure OkG (B : Bs) (G : Hp) (ad : Nat → Addr) (H : Hp) (xs : List (Option V)) (ρ : List Sl) : Prop where
  g0 : Same B.G0 G
  fr : ∀ a, G a ≠ none → B.G0 a = none → B.H0 a = none
  gh : Same G H
  keep : ∀ a o, B.H0 a = some o → B.pa ≠ some a → H a = some o
  len : xs.length = ρ.length
  dat : ∀ (i : Nat) (d : PyData), ρ[i]? = some (Sl.dat d) → ∃ v, xs[i]? = some (some v) ∧ Dv B.K G v d
  own : ∀ (i : Nat) (ds : List PyData), ρ[i]? = some (Sl.own ds) → xs[i]? = some (some (.ref (ad i))) ∧ G (ad i) = none ∧ B.H0 (ad i) = none ∧ ∃ vs, H (ad i) = some (.lst vs) ∧ DvAll B.K G vs ds
  sep : ∀ (i j : Nat) (ds es : List PyData), ρ[i]? = some (Sl.own ds) → ρ[j]? = some (Sl.own es) → ad i = ad j → i = j
  pl : ∀ (i : Nat), ρ[i]? = some Sl.pl → ∃ p, B.pa = some p ∧ xs[i]? = some (some (V.ref p))
  pail : ∀ p, B.pa = some p → G p = none ∧ B.H0 p ≠ none ∧ PailAt H p
/-- the state: slots (and pending values) xs are as ρ says -/
def Ok (B : Bs) (H : Hp) (xs : List (Option V)) (ρ : List Sl) : Prop := ∃ G ad, OkG B G ad H xs ρ

theorem some_of_ne {α : Type} {o : Option α} (h : o ≠ none) : ∃ a, o = some a := by
  cases o with
  | none => exact absurd rfl h
  | some a => exact ⟨a, rfl⟩
theorem same_upd {H : Hp} {p : Addr} {o : HO} (h : H p = none) : Same H (upd H p o) := fun b x e => by
  rw [upd_ne (ne_of_none e h)]
  exact e
theorem same_upd2 {G H : Hp} {p : Addr} {o : HO} (h : Same G H) (hp : G p = none) : Same G (upd H p o) := fun b x e => by
  rw [upd_ne (ne_of_none e hp)]
  exact h _ _ e

section
variable {B : Bs} {G : Hp} {ad : Nat → Addr} {H : Hp} {xs : List (Option V)} {ρ : List Sl}

theorem OkG.length (h : OkG B G ad H xs ρ) : xs.length = ρ.length := h.len
/-- free in H: free at the entry -/
theorem OkG.free0 (h : OkG B G ad H xs ρ) {a : Addr} (hn : H a = none) : B.H0 a = none := by
  cases q : B.H0 a with
  | none => rfl
  | some o =>
    by_cases hp : B.pa = some a
    · obtain ⟨_, _, x, y, z, e⟩ := h.pail a hp
      rw [hn] at e; cases e
    · have := h.keep a o q hp
      rw [hn] at this; cases this
theorem OkG.freeG (h : OkG B G ad H xs ρ) {a : Addr} (hn : H a = none) : G a = none := Same.free h.gh hn

/-- other slots out of the same -/
theorem OkG.reix (h : OkG B G ad H xs ρ) {xs' : List (Option V)} {ρ' : List Sl} (f : Nat → Nat) (hl : xs'.length = ρ'.length)
    (hf : ∀ (i : Nat) (r : Sl), ρ'[i]? = some r → r ≠ .un → ρ[f i]? = some r ∧ xs'[i]? = xs[f i]?)
    (inj : ∀ (i j : Nat) (ds es : List PyData), ρ'[i]? = some (Sl.own ds) → ρ'[j]? = some (Sl.own es) → f i = f j → i = j) : OkG B G (fun i => ad (f i)) H xs' ρ' where
  g0 := h.g0
  fr := h.fr
  gh := h.gh
  keep := h.keep
  len := hl
  dat := fun i d e => by
    obtain ⟨e1, e2⟩ := hf i _ e (fun z => nomatch z)
    rw [e2]
    exact h.dat _ _ e1
  own := fun i ds e => by
    obtain ⟨e1, e2⟩ := hf i _ e (fun z => nomatch z)
    rw [e2]
    exact h.own _ _ e1
  sep := fun i j ds es e1 e2 e3 => by
    obtain ⟨a1, _⟩ := hf i _ e1 (fun z => nomatch z)
    obtain ⟨a2, _⟩ := hf j _ e2 (fun z => nomatch z)
    exact inj i j ds es e1 e2 (h.sep _ _ _ _ a1 a2 e3)
  pl := fun i e => by
    obtain ⟨e1, e2⟩ := hf i _ e (fun z => nomatch z)
    rw [e2]
    exact h.pl _ e1
  pail := h.pail
theorem Ok.reix (h : Ok B H xs ρ) {xs' : List (Option V)} {ρ' : List Sl} (f : Nat → Nat) (hl : xs'.length = ρ'.length)
    (hf : ∀ (i : Nat) (r : Sl), ρ'[i]? = some r → r ≠ .un → ρ[f i]? = some r ∧ xs'[i]? = xs[f i]?)
    (inj : ∀ (i j : Nat) (ds es : List PyData), ρ'[i]? = some (Sl.own ds) → ρ'[j]? = some (Sl.own es) → f i = f j → i = j) : Ok B H xs' ρ' :=
  let ⟨G, ad, o⟩ := h
  ⟨G, _, o.reix f hl hf inj⟩
theorem Ok.len (h : Ok B H xs ρ) : xs.length = ρ.length := let ⟨_, _, o⟩ := h; o.len

/-- a new slot at the end -/
theorem OkG.push (h : OkG B G ad H xs ρ) {G' H' : Hp} {v : Option V} {r : Sl} (p : Addr) (g : Same G G') (fr : ∀ a, G' a ≠ none → G a = none → H a = none) (gh : Same G' H')
    (keep : ∀ a o, H a = some o → B.pa ≠ some a → H' a = some o) (pail : ∀ p, B.pa = some p → G' p = none ∧ PailAt H' p)
    (dat : ∀ d, r = .dat d → ∃ w, v = some w ∧ Dv B.K G' w d)
    (own : ∀ ds, r = .own ds → v = some (.ref p) ∧ G' p = none ∧ H p = none ∧ ∃ vs, H' p = some (.lst vs) ∧ DvAll B.K G' vs ds)
    (pl : r = .pl → ∃ q, B.pa = some q ∧ v = some (.ref q)) :
    OkG B G' (fun i => if i = xs.length then p else ad i) H' (xs ++ [v]) (ρ ++ [r]) := by
  have at1 : ∀ (i : Nat) (q : Sl), (ρ ++ [r])[i]? = some q → (i < ρ.length ∧ ρ[i]? = some q) ∨ (i = ρ.length ∧ r = q) := fun i q e => by
    by_cases hi : i < ρ.length
    · rw [List.getElem?_append_left hi] at e
      exact .inl ⟨hi, e⟩
    · rw [List.getElem?_append_right (by omega)] at e
      have : i - ρ.length = 0 := by
        cases hz : i - ρ.length with
        | zero => rfl
        | succ n => rw [hz] at e; simp at e
      rw [this] at e
      simp at e
      exact .inr ⟨by omega, e⟩
  have x1 : ∀ {i : Nat}, i < ρ.length → (xs ++ [v])[i]? = xs[i]? := fun {i} hi => List.getElem?_append_left (by rw [h.len]; exact hi)
  have x2 : (xs ++ [v])[ρ.length]? = some v := by
    rw [← h.len, List.getElem?_append_right (Nat.le_refl _), Nat.sub_self]; rfl
  have okeep : ∀ (i : Nat) (ds : List PyData), ρ[i]? = some (Sl.own ds) → G' (ad i) = none ∧ ∃ vs, H' (ad i) = some (.lst vs) ∧ DvAll B.K G vs ds := fun i ds e => by
    obtain ⟨e1, e2, e3, vs, e4, e5⟩ := h.own i ds e
    refine ⟨?_, vs, keep _ _ e4 (fun z => ?_), e5⟩
    · cases q : G' (ad i) with
      | none => rfl
      | some o =>
        have := fr (ad i) (by rw [q]; exact fun z => nomatch z) e2
        rw [e4] at this; cases this
    · exact absurd e3 (h.pail _ z).2.1
  refine ⟨Same.trans h.g0 g, fun a q1 q2 => ?_, gh, fun a o q1 q2 => keep a o (h.keep a o q1 q2) q2, by simp [h.len], fun i d e => ?_, fun i ds e => ?_, fun i j ds es e1 e2 e3 => ?_, fun i e => ?_, fun p hp => ?_⟩
  · cases q : G a with
    | some o => exact h.fr a (by rw [q]; exact fun z => nomatch z) q2
    | none => exact h.free0 (fr a q1 q)
  · rcases at1 i _ e with ⟨hi, e⟩ | ⟨rfl, ee⟩
    · obtain ⟨w, a1, a2⟩ := h.dat i d e
      exact ⟨w, by rw [x1 hi]; exact a1, a2.mono g⟩
    · obtain ⟨w, a1, a2⟩ := dat d ee
      exact ⟨w, by rw [x2, a1], a2⟩
  · rcases at1 i _ e with ⟨hi, e⟩ | ⟨rfl, ee⟩
    · obtain ⟨e1, e2, e3, _⟩ := h.own i ds e
      obtain ⟨a2, vs, a4, a5⟩ := okeep i ds e
      have : i ≠ xs.length := by rw [h.len]; omega
      rw [if_neg this]
      exact ⟨by rw [x1 hi]; exact e1, a2, e3, vs, a4, a5.mono g⟩
    · obtain ⟨a1, a2, a3, vs, a4, a5⟩ := own ds ee
      rw [if_pos h.len.symm]
      exact ⟨by rw [x2, a1], a2, h.free0 a3, vs, a4, a5⟩
  · rcases at1 i _ e1 with ⟨hi, e1⟩ | ⟨rfl, ee1⟩
    · rcases at1 j _ e2 with ⟨hj, e2⟩ | ⟨rfl, ee2⟩
      · have i1 : i ≠ xs.length := by rw [h.len]; omega
        have j1 : j ≠ xs.length := by rw [h.len]; omega
        rw [if_neg i1, if_neg j1] at e3
        exact h.sep i j ds es e1 e2 e3
      · have i1 : i ≠ xs.length := by rw [h.len]; omega
        rw [if_neg i1, if_pos h.len.symm] at e3
        obtain ⟨_, _, _, vs, a4, _⟩ := h.own i ds e1
        obtain ⟨_, _, a3, _⟩ := own es ee2
        rw [e3, a3] at a4; cases a4
    · rcases at1 j _ e2 with ⟨hj, e2⟩ | ⟨rfl, ee2⟩
      · have j1 : j ≠ xs.length := by rw [h.len]; omega
        rw [if_neg j1, if_pos h.len.symm] at e3
        obtain ⟨_, _, _, vs, a4, _⟩ := h.own j es e2
        obtain ⟨_, _, a3, _⟩ := own ds ee1
        rw [← e3, a3] at a4; cases a4
      · rfl
  · rcases at1 i _ e with ⟨hi, e⟩ | ⟨rfl, ee⟩
    · rw [x1 hi]; exact h.pl i e
    · rw [x2]
      obtain ⟨q, a1, a2⟩ := pl ee
      exact ⟨q, a1, by rw [a2]⟩
  · exact ⟨(pail p hp).1, (h.pail p hp).2.1, (pail p hp).2⟩

/-- a flat value -/
theorem Ok.flat (h : Ok B H xs ρ) {v : V} {d : PyData} (q : ∀ G, Dv B.K G v d) : Ok B H (xs ++ [some v]) (ρ ++ [.dat d]) := by
  obtain ⟨G, ad, o⟩ := h
  exact ⟨_, _, o.push 0 (Same.refl _) (fun a q1 q2 => absurd q2 q1) o.gh (fun _ _ e _ => e) (fun p hp => ⟨(o.pail p hp).1, (o.pail p hp).2.2⟩)
    (fun d' e => by cases e; exact ⟨v, rfl, q G⟩) (fun ds e => nomatch e) (fun e => nomatch e)⟩
/-- a slot's data once more -/
theorem Ok.dup (h : Ok B H xs ρ) {i : Nat} {d : PyData} (e : ρ[i]? = some (.dat d)) : ∃ v, xs[i]? = some (some v) ∧ Ok B H (xs ++ [some v]) (ρ ++ [.dat d]) := by
  obtain ⟨G, ad, o⟩ := h
  obtain ⟨v, e1, e2⟩ := o.dat i d e
  refine ⟨v, e1, _, _, o.push 0 (Same.refl _) (fun a q1 q2 => absurd q2 q1) o.gh (fun _ _ e _ => e) (fun p hp => ⟨(o.pail p hp).1, (o.pail p hp).2.2⟩)
    (fun d' e => by cases e; exact ⟨v, rfl, e2⟩) (fun ds e => nomatch e) (fun e => nomatch e)⟩
theorem Ok.dupPl (h : Ok B H xs ρ) {i : Nat} (e : ρ[i]? = some .pl) : ∃ v, xs[i]? = some (some v) ∧ Ok B H (xs ++ [some v]) (ρ ++ [.pl]) := by
  obtain ⟨G, ad, o⟩ := h
  obtain ⟨p, e1, e2⟩ := o.pl i e
  refine ⟨.ref p, e2, _, _, o.push 0 (Same.refl _) (fun a q1 q2 => absurd q2 q1) o.gh (fun _ _ e _ => e) (fun p hp => ⟨(o.pail p hp).1, (o.pail p hp).2.2⟩)
    (fun d' e => nomatch e) (fun ds e => nomatch e) (fun _ => ⟨p, e1, rfl⟩)⟩
/-- an item of a slot's tuple or list -/
theorem Ok.item (h : Ok B H xs ρ) {i j : Nat} {ds : List PyData} {d : PyData} (e : ρ[i]? = some (.dat (.tuple ds)) ∨ ρ[i]? = some (.dat (.list ds)) ∨ ρ[i]? = some (.own ds)) (hj : ds[j]? = some d) :
    ∃ a vs v, xs[i]? = some (some (.ref a)) ∧ (SqL B.K H a vs ∨ SqT B.K H a vs) ∧ vs.length = ds.length ∧ vs[j]? = some v ∧ Ok B H (xs ++ [some v]) (ρ ++ [.dat d]) := by
  obtain ⟨G, ad, o⟩ := h
  have main : ∃ a vs, xs[i]? = some (some (.ref a)) ∧ (SqL B.K H a vs ∨ SqT B.K H a vs) ∧ DvAll B.K G vs ds := by
    rcases e with e | e | e
    · obtain ⟨v, e1, e2⟩ := o.dat i _ e
      cases e2 with
      | tup s a => exact ⟨_, _, e1, .inr (SqT.mono o.gh s), a⟩
    · obtain ⟨v, e1, e2⟩ := o.dat i _ e
      cases e2 with
      | lst s a => exact ⟨_, _, e1, .inl (.inl (rd_mono o.gh s)), a⟩
    · obtain ⟨e1, _, _, vs, e4, e5⟩ := o.own i _ e
      exact ⟨_, vs, e1, .inl (SqL.of e4), e5⟩
  obtain ⟨a, vs, e1, e2, e3⟩ := main
  obtain ⟨v, e4, e5⟩ := e3.get hj
  refine ⟨a, vs, v, e1, e2, e3.len, e4, _, _, o.push 0 (Same.refl _) (fun a q1 q2 => absurd q2 q1) o.gh (fun _ _ e _ => e) (fun p hp => ⟨(o.pail p hp).1, (o.pail p hp).2.2⟩)
    (fun d' e => by cases e; exact ⟨v, rfl, e5⟩) (fun ds e => nomatch e) (fun e => nomatch e)⟩
/-- the values of a slot's tuple or list -/
theorem Ok.seq (h : Ok B H xs ρ) {i : Nat} {ds : List PyData} (e : ρ[i]? = some (.dat (.tuple ds)) ∨ ρ[i]? = some (.dat (.list ds)) ∨ ρ[i]? = some (.own ds)) :
    ∃ a vs, xs[i]? = some (some (.ref a)) ∧ (SqL B.K H a vs ∨ SqT B.K H a vs) ∧ vs.length = ds.length := by
  obtain ⟨G, ad, o⟩ := h
  rcases e with e | e | e
  · obtain ⟨v, e1, e2⟩ := o.dat i _ e
    cases e2 with
    | tup s a => exact ⟨_, _, e1, .inr (SqT.mono o.gh s), a.len⟩
  · obtain ⟨v, e1, e2⟩ := o.dat i _ e
    cases e2 with
    | lst s a => exact ⟨_, _, e1, .inl (.inl (rd_mono o.gh s)), a.len⟩
  · obtain ⟨e1, _, _, vs, e4, e5⟩ := o.own i _ e
    exact ⟨_, vs, e1, .inl (SqL.of e4), e5.len⟩
/-- a slot's data by the library's word -/
theorem Ok.dp (h : Ok B H xs ρ) {i : Nat} {d : PyData} (e : ρ[i]? = some (.dat d)) : ∃ v, xs[i]? = some (some v) ∧ Dp B.K H v d := by
  obtain ⟨G, ad, o⟩ := h
  obtain ⟨v, e1, e2⟩ := o.dat i _ e
  exact ⟨v, e1, (e2.mono o.gh).dp⟩

/-- the last of a list's slots: pending data -/
theorem get_pend {ρ : List Sl} {ds : List PyData} {j : Nat} {d : PyData} (e : ds[j]? = some d) : (ρ ++ ds.map Sl.dat)[ρ.length + j]? = some (.dat d) := by
  rw [List.getElem?_append_right (by omega), Nat.add_sub_cancel_left, List.getElem?_map, e]; rfl
theorem OkG.pend {vs : List V} {ds : List PyData} (o : OkG B G ad H (xs ++ vs.map some) (ρ ++ ds.map Sl.dat)) (hl : vs.length = ds.length) : DvAll B.K G vs ds := by
  have hx : xs.length = ρ.length := by
    have := o.len
    simp only [List.length_append, List.length_map] at this
    omega
  have all : ∀ (ds' : List PyData) (vs' : List V) (k : Nat), vs'.length = ds'.length → (∀ (j : Nat) (d : PyData), ds'[j]? = some d → ds[k + j]? = some d) → (∀ (j : Nat) (v : V), vs'[j]? = some v → vs[k + j]? = some v) → DvAll B.K G vs' ds' := by
    intro ds'
    induction ds' with
    | nil => intro vs' k h _ _; cases vs' with
      | nil => exact .nil
      | cons _ _ => simp at h
    | cons d r ih =>
      intro vs' k h h1 h2
      cases vs' with
      | nil => simp at h
      | cons v s =>
        refine .cons ?_ (ih s (k + 1) (by simpa using h) (fun j d e => ?_) fun j v e => ?_)
        · obtain ⟨w, e1, e2⟩ := o.dat (ρ.length + k) d (get_pend (h1 0 d rfl))
          rw [← hx, List.getElem?_append_right (by omega), Nat.add_sub_cancel_left, List.getElem?_map, show vs[k]? = some v from h2 0 v rfl] at e1
          cases e1
          exact e2
        · have := h1 (j + 1) d (by simpa using e)
          rw [show k + 1 + j = k + (j + 1) by omega]; exact this
        · have := h2 (j + 1) v (by simpa using e)
          rw [show k + 1 + j = k + (j + 1) by omega]; exact this
  exact all ds vs 0 hl (fun j d e => by rw [Nat.zero_add]; exact e) fun j v e => by rw [Nat.zero_add]; exact e
/-- pending values dropped -/
theorem Ok.drop {ys : List (Option V)} {rs : List Sl} (h : Ok B H (xs ++ ys) (ρ ++ rs)) (hl : xs.length = ρ.length) : Ok B H xs ρ :=
  h.reix id hl (fun i r e _ => by
    have hi : i < ρ.length := (List.getElem?_eq_some_iff.mp e).1
    refine ⟨?_, ?_⟩
    · rw [id, List.getElem?_append_left hi]; exact e
    · rw [id, List.getElem?_append_left (by omega)]) (fun i j _ _ _ _ e => e)
/-- a new tuple of pending data -/
theorem Ok.tup {vs : List V} {ds : List PyData} {p : Addr} (h : Ok B H (xs ++ vs.map some) (ρ ++ ds.map Sl.dat)) (hl : vs.length = ds.length) (hp : H p = none) :
    Ok B (upd H p (.tup vs)) (xs ++ [some (.ref p)]) (ρ ++ [.dat (.tuple ds)]) := by
  have h2 := h
  obtain ⟨G, ad, o⟩ := h
  have hx : xs.length = ρ.length := by
    have := o.len
    simp only [List.length_append, List.length_map] at this
    omega
  have a := o.pend hl
  have hGp := o.freeG hp
  have o1 : OkG B G ad H xs ρ := o.reix id hx (fun i r e _ => by
    have hi : i < ρ.length := (List.getElem?_eq_some_iff.mp e).1
    refine ⟨?_, ?_⟩
    · rw [id, List.getElem?_append_left hi]; exact e
    · rw [id, List.getElem?_append_left (by omega)]) (fun i j _ _ _ _ e => e)
  have sg : Same G (upd G p (.tup vs)) := same_upd hGp
  refine ⟨upd G p (.tup vs), _, o1.push 0 sg (fun b q1 q2 => ?_) (fun b x e => ?_) (fun b x e _ => same_upd hp _ _ e) (fun q hq => ?_) (fun d' e => ?_) (fun _ e => nomatch e) (fun e => nomatch e)⟩
  · by_cases hb : b = p
    · rw [hb]; exact hp
    · rw [upd_ne hb] at q1; exact absurd q2 q1
  · by_cases hb : b = p
    · subst hb; rw [upd_same] at e ⊢; exact e
    · rw [upd_ne hb] at e ⊢; exact o.gh _ _ e
  · obtain ⟨a1, a2, x, y, z, a3⟩ := o.pail q hq
    have : q ≠ p := ne_of_none a3 hp
    exact ⟨by rw [upd_ne this]; exact a1, x, y, z, by rw [upd_ne this]; exact a3⟩
  · cases e
    exact ⟨_, rfl, .tup (SqT.of upd_same) (a.mono sg)⟩
/-- a new list of pending data: one's own -/
theorem Ok.lst {vs : List V} {ds : List PyData} {p : Addr} (h : Ok B H (xs ++ vs.map some) (ρ ++ ds.map Sl.dat)) (hl : vs.length = ds.length) (hp : H p = none) :
    Ok B (upd H p (.lst vs)) (xs ++ [some (.ref p)]) (ρ ++ [.own ds]) := by
  obtain ⟨G, ad, o⟩ := h
  have hx : xs.length = ρ.length := by
    have := o.len
    simp only [List.length_append, List.length_map] at this
    omega
  have a := o.pend hl
  have hGp := o.freeG hp
  have o1 : OkG B G ad H xs ρ := o.reix id hx (fun i r e _ => by
    have hi : i < ρ.length := (List.getElem?_eq_some_iff.mp e).1
    refine ⟨?_, ?_⟩
    · rw [id, List.getElem?_append_left hi]; exact e
    · rw [id, List.getElem?_append_left (by omega)]) (fun i j _ _ _ _ e => e)
  refine ⟨G, _, o1.push p (Same.refl _) (fun b q1 q2 => absurd q2 q1) (same_upd2 o.gh hGp) (fun b x e _ => same_upd hp _ _ e) (fun q hq => ?_) (fun d' e => nomatch e) (fun ds' e => ?_) (fun e => nomatch e)⟩
  · obtain ⟨a1, a2, x, y, z, a3⟩ := o.pail q hq
    have : q ≠ p := ne_of_none a3 hp
    exact ⟨a1, x, y, z, by rw [upd_ne this]; exact a3⟩
  · cases e
    exact ⟨rfl, hGp, hp, vs, upd_same, a⟩
/-- a list of one's own becomes data -/
theorem Ok.frz (h : Ok B H xs ρ) {i : Nat} {ds : List PyData} (e : ρ[i]? = some (.own ds)) : Ok B H xs (ρ.set i (.dat (.list ds))) := by
  obtain ⟨G, ad, o⟩ := h
  obtain ⟨e1, e2, e3, vs, e4, e5⟩ := o.own i ds e
  have hi : i < ρ.length := (List.getElem?_eq_some_iff.mp e).1
  have sg : Same G (upd G (ad i) (.lst vs)) := same_upd e2
  have at1 : ∀ (j : Nat) (r : Sl), (ρ.set i (.dat (.list ds)))[j]? = some r → (j = i ∧ r = .dat (.list ds)) ∨ (j ≠ i ∧ ρ[j]? = some r) := fun j r q => by
    by_cases hj : i = j
    · subst hj
      rw [List.getElem?_set_self hi] at q
      cases q
      exact .inl ⟨rfl, rfl⟩
    · rw [List.getElem?_set_ne hj] at q
      exact .inr ⟨fun z => hj z.symm, q⟩
  refine ⟨upd G (ad i) (.lst vs), ad, Same.trans o.g0 sg, fun a q1 q2 => ?_, fun b x q => ?_, o.keep, by rw [List.length_set]; exact o.len, fun j d q => ?_, fun j es q => ?_, fun j k es fs q1 q2 q3 => ?_, fun j q => ?_, fun p hp => ?_⟩
  · by_cases ha : a = ad i
    · rw [ha]; exact e3
    · rw [upd_ne ha] at q1; exact o.fr a q1 q2
  · by_cases hb : b = ad i
    · subst hb; rw [upd_same] at q; cases q; exact e4
    · rw [upd_ne hb] at q; exact o.gh _ _ q
  · rcases at1 j _ q with ⟨rfl, qq⟩ | ⟨hj, q⟩
    · cases qq
      exact ⟨_, e1, .lst (.inl upd_same) (e5.mono sg)⟩
    · obtain ⟨v, a1, a2⟩ := o.dat j d q
      exact ⟨v, a1, a2.mono sg⟩
  · rcases at1 j _ q with ⟨rfl, qq⟩ | ⟨hj, q⟩
    · cases qq
    · obtain ⟨a1, a2, a3, ws, a4, a5⟩ := o.own j es q
      have : ad j ≠ ad i := fun z => hj (o.sep _ _ _ _ q e z)
      exact ⟨a1, by rw [upd_ne this]; exact a2, a3, ws, a4, a5.mono sg⟩
  · rcases at1 j _ q1 with ⟨rfl, qq⟩ | ⟨hj, q1⟩
    · cases qq
    · rcases at1 k _ q2 with ⟨rfl, qq⟩ | ⟨hk, q2⟩
      · cases qq
      · exact o.sep _ _ _ _ q1 q2 q3
  · rcases at1 j _ q with ⟨rfl, qq⟩ | ⟨hj, q⟩
    · cases qq
    · exact o.pl j q
  · obtain ⟨a1, a2, a3⟩ := o.pail p hp
    have : p ≠ ad i := fun z => a2 (by rw [z]; exact e3)
    exact ⟨by rw [upd_ne this]; exact a1, a2, a3⟩
/-- a list of one's own changes -/
theorem OkG.mut (o : OkG B G ad H xs ρ) {i : Nat} {ds es : List PyData} {ws : List V} (e : ρ[i]? = some (.own ds)) (a : DvAll B.K G ws es) : OkG B G ad (upd H (ad i) (.lst ws)) xs (ρ.set i (.own es)) := by
  obtain ⟨e1, e2, e3, vs, e4, e5⟩ := o.own i ds e
  have hi : i < ρ.length := (List.getElem?_eq_some_iff.mp e).1
  have at1 : ∀ (j : Nat) (r : Sl), (ρ.set i (.own es))[j]? = some r → (j = i ∧ r = .own es) ∨ (j ≠ i ∧ ρ[j]? = some r) := fun j r q => by
    by_cases hj : i = j
    · subst hj
      rw [List.getElem?_set_self hi] at q
      cases q
      exact .inl ⟨rfl, rfl⟩
    · rw [List.getElem?_set_ne hj] at q
      exact .inr ⟨fun z => hj z.symm, q⟩
  have hold : ∀ (j : Nat) (fs : List PyData), (ρ.set i (.own es))[j]? = some (.own fs) → ∃ gs, ρ[j]? = some (.own gs) := fun j fs q => by
    rcases at1 j _ q with ⟨rfl, q⟩ | ⟨hj, q⟩
    · exact ⟨ds, e⟩
    · exact ⟨_, q⟩
  refine ⟨o.g0, o.fr, same_upd2 o.gh e2, fun b x q1 q2 => ?_, by rw [List.length_set]; exact o.len, fun j d q => ?_, fun j fs q => ?_, fun j k fs gs q1 q2 q3 => ?_, fun j q => ?_, fun p hp => ?_⟩
  · have : b ≠ ad i := ne_of_none q1 e3
    rw [upd_ne this]; exact o.keep _ _ q1 q2
  · rcases at1 j _ q with ⟨rfl, qq⟩ | ⟨hj, q⟩
    · cases qq
    · exact o.dat j d q
  · rcases at1 j _ q with ⟨rfl, qq⟩ | ⟨hj, q⟩
    · cases qq
      exact ⟨e1, e2, e3, ws, upd_same, a⟩
    · obtain ⟨a1, a2, a3, us, a4, a5⟩ := o.own j fs q
      have : ad j ≠ ad i := fun z => hj (o.sep _ _ _ _ q e z)
      exact ⟨a1, a2, a3, us, by rw [upd_ne this]; exact a4, a5⟩
  · obtain ⟨_, r1⟩ := hold j fs q1
    obtain ⟨_, r2⟩ := hold k gs q2
    exact o.sep _ _ _ _ r1 r2 q3
  · rcases at1 j _ q with ⟨rfl, qq⟩ | ⟨hj, q⟩
    · cases qq
    · exact o.pl j q
  · obtain ⟨a1, a2, x, y, z, a3⟩ := o.pail p hp
    have : p ≠ ad i := fun z => a2 (by rw [z]; exact e3)
    exact ⟨a1, a2, x, y, z, by rw [upd_ne this]; exact a3⟩
end
end DL
/-! DL2: expressions over data. -/
namespace DL
open PySem PySem.Spec PyProof.Rows L2

/-- a fork: each way under its condition -/
def fIte (b : Bool) (A B : Prop) : Prop := (b = true → A) ∧ (b = false → B)
/-- what an expression asks of the slots, and hands on -/
abbrev FE := List Sl → (Sl → Prop) → Prop
abbrev FT := List Sl → (Bool → Prop) → Prop
abbrev FA := List Sl → (List Sl → Prop) → Prop
def tD (B : Bs) (F : FE) : TE := fun σ H Q => ∃ (ρ : List Sl) (ys : List (Option V)) (rs : List Sl) (P : Sl → Prop), ρ.length = σ.length ∧ Ok B H (σ ++ ys) (ρ ++ rs) ∧ F ρ P ∧
  ∀ v H' r, Ok B H' (σ ++ (ys ++ [some v])) (ρ ++ (rs ++ [r])) → P r → Q v H'
def tDT (B : Bs) (F : FT) : TT := fun σ H Q => ∃ (ρ : List Sl) (ys : List (Option V)) (rs : List Sl) (P : Bool → Prop), ρ.length = σ.length ∧ Ok B H (σ ++ ys) (ρ ++ rs) ∧ F ρ P ∧
  ∀ b H', Ok B H' (σ ++ ys) (ρ ++ rs) → P b → Q b H'
def tDA (B : Bs) (F : FA) : TA := fun σ H Q => ∃ (ρ : List Sl) (ys : List (Option V)) (rs : List Sl) (P : List Sl → Prop), ρ.length = σ.length ∧ Ok B H (σ ++ ys) (ρ ++ rs) ∧ F ρ P ∧
  ∀ vs H' qs, vs.length = qs.length → Ok B H' (σ ++ (ys ++ vs.map some)) (ρ ++ (rs ++ qs)) → P qs → Q vs H'

section
variable {X : Cx} {e : Expr} {es : List Expr}
theorem pe_w {t t' : TE} (h : PE X e t) (w : ∀ σ H Q, t' σ H Q → t σ H Q) : PE X e t' := ⟨fun pins s σ H Q I q => h.run pins s σ H Q I (w σ H Q q)⟩
theorem pt_w {t t' : TT} (h : PT X e t) (w : ∀ σ H Q, t' σ H Q → t σ H Q) : PT X e t' := ⟨fun pins s σ H Q I q => h.run pins s σ H Q I (w σ H Q q)⟩
theorem pw_w {t t' : TT} (h : PW X e t) (w : ∀ σ H Q, t' σ H Q → t σ H Q) : PW X e t' := ⟨fun wh pins s σ H Q I q => h.run wh pins s σ H Q I (w σ H Q q)⟩
theorem pa_w {t t' : TA} (h : PA X es t) (w : ∀ σ H Q, t' σ H Q → t σ H Q) : PA X es t' := ⟨fun pos pins s σ H Q I q => h.run pos pins s σ H Q I (w σ H Q q)⟩
end

/-! ### lists of slots -/
theorem ok_cast {B : Bs} {H : Hp} {xs xs' : List (Option V)} {ρ ρ' : List Sl} (h : Ok B H xs ρ) (e1 : xs = xs') (e2 : ρ = ρ') : Ok B H xs' ρ' := by
  subst e1; subst e2; exact h
theorem Ok.lens {B : Bs} {H : Hp} {xs ys : List (Option V)} {ρ rs : List Sl} (h : Ok B H (xs ++ ys) (ρ ++ rs)) (hl : ρ.length = xs.length) : ys.length = rs.length := by
  have := h.len
  simp only [List.length_append] at this
  omega
/-- the last pending value's data -/
theorem Ok.last {B : Bs} {H : Hp} {xs : List (Option V)} {ρ : List Sl} {v : V} {d : PyData} (h : Ok B H (xs ++ [some v]) (ρ ++ [.dat d])) : Dp B.K H v d := by
  have hl := h.len
  simp only [List.length_append, List.length_cons, List.length_nil] at hl
  obtain ⟨w, e1, e2⟩ := h.dp (i := ρ.length) (d := d) (by rw [List.getElem?_append_right (Nat.le_refl _), Nat.sub_self]; rfl)
  rw [show ρ.length = xs.length by omega, List.getElem?_append_right (Nat.le_refl _), Nat.sub_self] at e1
  cases e1
  exact e2
theorem Ok.two {B : Bs} {H : Hp} {xs : List (Option V)} {ρ : List Sl} {v w : V} {r r' : Sl} (h : Ok B H (xs ++ [some v, some w]) (ρ ++ [r, r'])) : xs.length = ρ.length ∧ Ok B H (xs ++ [some v]) (ρ ++ [r]) ∧ Ok B H (xs ++ [some w]) (ρ ++ [r']) ∧ Ok B H xs ρ := by
  have hl := h.len
  simp only [List.length_append, List.length_cons, List.length_nil] at hl
  have hx : xs.length = ρ.length := by omega
  have h1 : Ok B H (xs ++ [some v]) (ρ ++ [r]) := Ok.drop (xs := xs ++ [some v]) (ys := [some w]) (ρ := ρ ++ [r]) (rs := [r']) (by simpa using h) (by simp [hx])
  refine ⟨hx, h1, ?_, Ok.drop h1 hx⟩
  refine h.reix (fun i => if i = ρ.length then ρ.length + 1 else i) (by simp [hx]) (fun i q e _ => ?_) (fun i j ds es e1 e2 e3 => ?_)
  · by_cases hi : i < ρ.length
    · rw [if_neg (by omega), List.getElem?_append_left hi, List.getElem?_append_left (by omega), List.getElem?_append_left (by omega)]
      rw [List.getElem?_append_left hi] at e
      exact ⟨e, rfl⟩
    · have hi2 : i < (ρ ++ [r']).length := (List.getElem?_eq_some_iff.mp e).1
      simp only [List.length_append, List.length_cons, List.length_nil] at hi2
      have : i = ρ.length := by omega
      subst this
      rw [if_pos rfl, List.getElem?_append_right (by omega), List.getElem?_append_right (by omega), List.getElem?_append_right (by omega)]
      rw [List.getElem?_append_right (by omega)] at e
      rw [hx]
      simp at e ⊢
      exact e
  · have hi2 : i < (ρ ++ [r']).length := (List.getElem?_eq_some_iff.mp e1).1
    have hj2 : j < (ρ ++ [r']).length := (List.getElem?_eq_some_iff.mp e2).1
    simp only [List.length_append, List.length_cons, List.length_nil] at hi2 hj2
    by_cases hi : i = ρ.length
    · by_cases hj : j = ρ.length
      · omega
      · rw [if_pos hi, if_neg hj] at e3; omega
    · by_cases hj : j = ρ.length
      · rw [if_neg hi, if_pos hj] at e3; omega
      · rw [if_neg hi, if_neg hj] at e3; omega

/-! ### names and constants -/
def argOk : Sl → Bool
  | .dat _ => true
  | .pl => true
  | _ => false
/-- b holds, and A -/
def fOn (b : Bool) (A : Prop) : Prop := match b with
  | true => A
  | false => False
theorem fOn.out {b : Bool} {A : Prop} (h : fOn b A) : b = true ∧ A := by
  cases b with
  | true => exact ⟨rfl, h⟩
  | false => exact h.elim
theorem fOn.mk {b : Bool} {A : Prop} (hb : b = true) (h : A) : fOn b A := by subst hb; exact h
def fVar (i : Nat) : FE := fun ρ P => match ρ[i]? with
  | some r => fOn (argOk r) (P r)
  | none => False
def fC (d : PyData) : FE := fun _ P => P (.dat d)
section
variable {X : Cx} {B : Bs} {pos : Pos}
theorem d_var (i : Nat) {x : Str} (hN : X.N[i]? = some x := by rfl) (hv : Vis X.env.scope x := by first | exact Or.inl rfl | exact Or.inr (Or.inl rfl) | exact Or.inr (Or.inr rfl)) (hd : (x == ("__debug__" : Str)) = false := by decide)
    (hcd : (x == ("__classdict__" : Str)) = false := by decide) : PE X (.Name x pos) (tD B (fVar i)) := by
  refine pe_w (pe_var hN hv hd hcd) fun σ H Q h => ?_
  obtain ⟨ρ, ys, rs, P, hl, ok, hF, q⟩ := h
  unfold fVar at hF
  split at hF
  · rename_i r e
    obtain ⟨ha, hF⟩ := hF.out
    have hi : i < ρ.length := (List.getElem?_eq_some_iff.mp e).1
    cases r with
    | dat d =>
      obtain ⟨v, e1, ok2⟩ := ok.dup (i := i) (d := d) (by rw [List.getElem?_append_left hi]; exact e)
      rw [List.getElem?_append_left (by omega)] at e1
      exact ⟨v, e1, q v H _ (by simpa using ok2) hF⟩
    | pl =>
      obtain ⟨v, e1, ok2⟩ := ok.dupPl (i := i) (by rw [List.getElem?_append_left hi]; exact e)
      rw [List.getElem?_append_left (by omega)] at e1
      exact ⟨v, e1, q v H _ (by simpa using ok2) hF⟩
    | un => cases ha
    | own _ => cases ha
  · exact hF.elim
theorem d_const {e : Expr} {v : V} {d : PyData} (h : PE X e (tC v)) (hd : ∀ G, Dv B.K G v d) : PE X e (tD B (fC d)) := by
  refine pe_w h fun σ H Q h => ?_
  obtain ⟨ρ, ys, rs, P, hl, ok, hF, q⟩ := h
  exact q v H _ (by have := ok.flat hd; simpa using this) hF
theorem d_int {i : Int} {j} : PE X (.Constant (.int i) j pos) (tD B (fC (.int i))) := d_const pe_int fun _ => .int i
theorem d_bl {b : Bool} {j} : PE X (.Constant (.bool b) j pos) (tD B (fC (.bool b))) := d_const pe_bl fun _ => .bl b
theorem d_non {j} : PE X (.Constant .none j pos) (tD B (fC .none)) := d_const pe_non fun _ => .non
/-- a module's constant -/
theorem d_glob {x : Str} {a : Addr} {d : PyData} (hg : Gl X x) (hm : X.mg x = some (.ref a)) (hd : ∀ G, Dv B.K G (.ref a) d) (hdb : (x == ("__debug__" : Str)) = false := by decide) : PE X (.Name x pos) (tD B (fC d)) :=
  d_const (pe_glob (v := V.ref a) hg hm rfl hdb) hd

/-! ### two values, one out -/
/-- an operation on two pending values -/
def OpD (B : Bs) (r : R2) (F2 : Sl → Sl → (Sl → Prop) → Prop) : Prop := ∀ (H : Hp) (xs : List (Option V)) (ρ : List Sl) (x y : V) (qx qy : Sl) (P : Sl → Prop) (Q : VK),
  Ok B H (xs ++ [some x, some y]) (ρ ++ [qx, qy]) → F2 qx qy P → (∀ v H' r, Ok B H' (xs ++ [some v]) (ρ ++ [r]) → P r → Q v H') → r x y H Q
theorem le_op2 {r : R2} {F2 : Sl → Sl → (Sl → Prop) → Prop} {Fa Fb : FE} (h : OpD B r F2) : ∀ σ H Q, tD B (fun ρ P => Fa ρ fun x => Fb ρ fun y => F2 x y P) σ H Q → tOp r (tD B Fa) (tD B Fb) σ H Q := by
  intro σ H Q ⟨ρ, ys, rs, P, hl, ok, hF, q⟩
  refine ⟨ρ, ys, rs, _, hl, ok, hF, fun v H1 q1 ok1 hF1 => ⟨ρ, ys ++ [some v], rs ++ [q1], _, hl, ok1, hF1, fun w H2 q2 ok2 hF2 => ?_⟩⟩
  refine h H2 (σ ++ ys) (ρ ++ rs) v w q1 q2 P Q (by simpa using ok2) hF2 fun z H3 r ok3 hP => q z H3 r (by simpa using ok3) hP
theorem d_bin {a b : Expr} {op : Operator} {r : R2} {F2 : Sl → Sl → (Sl → Prop) → Prop} {Fa Fb : FE} (ho : OpR X (binaryOp op) r) (hr : OpD B r F2) (ha : PE X a (tD B Fa)) (hb : PE X b (tD B Fb)) :
    PE X (.BinOp a op b pos) (tD B (fun ρ P => Fa ρ fun x => Fb ρ fun y => F2 x y P)) := pe_w (pe_op ho ha hb) (le_op2 hr)
theorem d_cmp {a b : Expr} {op : CmpOp} {r : R2} {F2 : Sl → Sl → (Sl → Prop) → Prop} {Fa Fb : FE} (ho : OpR X (compareOp op) r) (hr : OpD B r F2) (ha : PE X a (tD B Fa)) (hb : PE X b (tD B Fb)) (hm : behindInMarks op b = false) :
    PE X (.Compare a [op] [b] pos) (tD B (fun ρ P => Fa ρ fun x => Fb ρ fun y => F2 x y P)) := pe_w (pe_cmpR ho ha hb hm) (le_op2 hr)
/-- a value that is a bool, as a test -/
def Sl.tb (P : Bool → Prop) : Sl → Prop
  | .dat (.bool b) => P b
  | _ => False
theorem le_test {F : FE} : ∀ σ H Q, tDT B (fun ρ P => F ρ (Sl.tb P)) σ H Q → tTest (tD B F) σ H Q := by
  intro σ H Q ⟨ρ, ys, rs, P, hl, ok, hF, q⟩
  refine ⟨ρ, ys, rs, _, hl, ok, hF, fun v H1 q1 ok1 hP => ?_⟩
  unfold Sl.tb at hP
  split at hP
  · rename_i b
    have hd := Ok.last (xs := σ ++ ys) (ρ := ρ ++ rs) (by simpa using ok1)
    cases hd
    have ok2 : Ok B H1 (σ ++ ys) (ρ ++ rs) := Ok.drop (ys := [some (.bl b)]) (rs := [.dat (.bool b)]) (by simpa using ok1) ok.len
    exact ⟨b, rfl, q b H1 ok2 hP⟩
  · exact hP.elim
theorem d_cmpT {a b : Expr} {op : CmpOp} {r : R2} {F2 : Sl → Sl → (Sl → Prop) → Prop} {Fa Fb : FE} (ho : OpR X (compareOp op) r) (hr : OpD B r F2) (ha : PE X a (tD B Fa)) (hb : PE X b (tD B Fb)) (hm : behindInMarks op b = false) :
    PT X (.Compare a [op] [b] pos) (tDT B (fun ρ P => Fa ρ fun x => Fb ρ fun y => F2 x y (Sl.tb P))) :=
  pt_w (pt_cmpR ho ha hb hm) fun σ H Q h => by
    obtain ⟨ρ, ys, rs, P, hl, ok, hF, q⟩ := le_test (F := fun ρ P => Fa ρ fun x => Fb ρ fun y => F2 x y P) σ H Q h
    exact le_op2 hr σ H _ ⟨ρ, ys, rs, P, hl, ok, hF, q⟩
theorem d_valT {e : Expr} {F : FE} (h : PE X e (tD B F)) (he : ∀ whole, isTrue e X.env whole = (do let v ← whole; standAt e.pos; holding [v] (truthy v)) := by intro _; rfl) : PT X e (tDT B (fun ρ P => F ρ (Sl.tb P))) :=
  pt_w (pt_val h he) fun σ H Q h => le_test σ H Q h
def fUnK (g : Int → Int) (x : Sl) (P : Sl → Prop) : Prop := match x with
  | .dat (.int i) => P (.dat (.int (g i)))
  | _ => False
theorem d_un {a : Expr} {op : UnaryOp} {g : Int → Int} {Fa : FE} (ho : UnR X (unaryOp op) (rU fun i => .int (g i))) (ha : PE X a (tD B Fa)) :
    PE X (.UnaryOp op a pos) (tD B (fun ρ P => Fa ρ fun x => fUnK g x P)) := by
  refine pe_w (pe_un ho ha) fun σ H Q h => ?_
  obtain ⟨ρ, ys, rs, P, hl, ok, hF, q⟩ := h
  refine ⟨ρ, ys, rs, _, hl, ok, hF, fun v H1 q1 ok1 hF1 => ?_⟩
  unfold fUnK at hF1
  split at hF1
  · rename_i i
    have hd := Ok.last (xs := σ ++ ys) (ρ := ρ ++ rs) (by simpa using ok1)
    cases hd
    have ok2 : Ok B H1 (σ ++ ys) (ρ ++ rs) := Ok.drop (ys := [some (.int i)]) (rs := [.dat (.int i)]) (by simpa using ok1) ok.len
    refine ⟨i, rfl, q _ H1 _ ?_ hF1⟩
    have := ok2.flat (v := .int (g i)) (d := .int (g i)) fun _ => .int _
    simpa using this
  · exact hF1.elim
/-- ints -/
def fI (C : Int → Int → Prop) (g : Int → Int → Int) : Sl → Sl → (Sl → Prop) → Prop := fun x y P => match x, y with
  | .dat (.int i), .dat (.int j) => C i j ∧ P (.dat (.int (g i j)))
  | _, _ => False
def fI0 (g : Int → Int → Int) : Sl → Sl → (Sl → Prop) → Prop := fun x y P => match x, y with
  | .dat (.int i), .dat (.int j) => P (.dat (.int (g i j)))
  | _, _ => False
def fB0 (g : Int → Int → Bool) : Sl → Sl → (Sl → Prop) → Prop := fun x y P => match x, y with
  | .dat (.int i), .dat (.int j) => P (.dat (.bool (g i j)))
  | _, _ => False
theorem Ok.two_int {H : Hp} {xs : List (Option V)} {ρ : List Sl} {x y : V} {i j : Int} (ok : Ok B H (xs ++ [some x, some y]) (ρ ++ [.dat (.int i), .dat (.int j)])) : x = .int i ∧ y = .int j ∧ Ok B H xs ρ := by
  obtain ⟨hx, o1, o2, o3⟩ := ok.two
  have h1 := o1.last
  have h2 := o2.last
  cases h1; cases h2
  exact ⟨rfl, rfl, o3⟩
theorem opd_I {C : Int → Int → Prop} {g : Int → Int → Int} : OpD B (rI C fun i j => .int (g i j)) (fI C g) := by
  intro H xs ρ x y qx qy P Q ok hF q
  unfold fI at hF
  split at hF
  · rename_i i j
    obtain ⟨rfl, rfl, o⟩ := ok.two_int
    exact ⟨i, j, rfl, rfl, hF.1, q _ H _ (o.flat fun _ => .int _) hF.2⟩
  · exact hF.elim
theorem opd_I0 {g : Int → Int → Int} : OpD B (rI0 fun i j => .int (g i j)) (fI0 g) := by
  intro H xs ρ x y qx qy P Q ok hF q
  unfold fI0 at hF
  split at hF
  · rename_i i j
    obtain ⟨rfl, rfl, o⟩ := ok.two_int
    exact ⟨i, j, rfl, rfl, q _ H _ (o.flat fun _ => .int _) hF⟩
  · exact hF.elim
theorem opd_B0 {g : Int → Int → Bool} : OpD B (rI0 fun i j => .bl (g i j)) (fB0 g) := by
  intro H xs ρ x y qx qy P Q ok hF q
  unfold fB0 at hF
  split at hF
  · rename_i i j
    obtain ⟨rfl, rfl, o⟩ := ok.two_int
    exact ⟨i, j, rfl, rfl, q _ H _ (o.flat fun _ => .bl _) hF⟩
  · exact hF.elim
/-- == and != of ints -/
theorem opd_eqI : OpD B rEq (fB0 fun i j => decide (i = j)) := by
  intro H xs ρ x y qx qy P Q ok hF q
  unfold fB0 at hF
  split at hF
  · rename_i i j
    obtain ⟨rfl, rfl, o⟩ := ok.two_int
    refine ⟨rfl, ?_⟩
    rw [dec_int, show (i == j) = decide (i = j) from (Bool.beq_eq_decide_eq i j)]
    exact q _ H _ (o.flat fun _ => .bl _) hF
  · exact hF.elim
/-- == and != of data -/
@[irreducible] def fEqD (neg : Bool) : Sl → Sl → (Sl → Prop) → Prop := fun x y P => match x, y with
  | .dat d, .dat e => SeqAt.shaped d = true ∧ SeqAt.shaped e = true ∧ P (.dat (.bool (if neg then !PyData.eqv d e else PyData.eqv d e)))
  | _, _ => False
theorem opd_eqD (hK : B.K = X.K) : OpD B (rEqD X.K) (fEqD false) := by
  intro H xs ρ x y qx qy P Q ok hF q
  unfold fEqD at hF
  split at hF
  · rename_i d e
    obtain ⟨hx, o1, o2, o3⟩ := ok.two
    have h1 := o1.last
    have h2 := o2.last
    rw [hK] at h1 h2
    exact ⟨d, e, h1, h2, hF.1, hF.2.1, q _ H _ (o3.flat fun _ => .bl _) hF.2.2⟩
  · exact hF.elim
theorem opd_neD (hK : B.K = X.K) : OpD B (rNeD X.K) (fEqD true) := by
  intro H xs ρ x y qx qy P Q ok hF q
  unfold fEqD at hF
  split at hF
  · rename_i d e
    obtain ⟨hx, o1, o2, o3⟩ := ok.two
    have h1 := o1.last
    have h2 := o2.last
    rw [hK] at h1 h2
    exact ⟨d, e, h1, h2, hF.1, hF.2.1, q _ H _ (o3.flat fun _ => .bl _) hF.2.2⟩
  · exact hF.elim

/-! ### and, or, not, if .. else -/
variable {a b c : Expr} {rest : List Expr} {Ta Tb : FT} {Fa Fb : FE}
def fAnd (Ta Tb : FT) : FT := fun ρ P => Ta ρ fun c => fIte c (Tb ρ P) (P false)
def fOr (Ta Tb : FT) : FT := fun ρ P => Ta ρ fun c => fIte c (P true) (Tb ρ P)
def fNot (Ta : FT) : FT := fun ρ P => Ta ρ fun c => P (!c)
theorem d_and1 (ha : PT X a (tDT B Ta)) : PW X (.BoolOp .And [a] pos) (tDT B Ta) := pw_and1 ha
theorem d_or1 (ha : PT X a (tDT B Ta)) : PW X (.BoolOp .Or [a] pos) (tDT B Ta) := pw_or1 ha
theorem d_and (ha : PT X a (tDT B Ta)) (hb : PW X (.BoolOp .And (b :: rest) pos) (tDT B Tb)) : PW X (.BoolOp .And (a :: b :: rest) pos) (tDT B (fAnd Ta Tb)) := by
  refine pw_w (pw_and ha hb) fun σ H Q h => ?_
  obtain ⟨ρ, ys, rs, P, hl, ok, hF, q⟩ := h
  refine ⟨ρ, ys, rs, _, hl, ok, hF, fun c H1 ok1 hP => ?_⟩
  cases c with
  | true => exact ⟨ρ, ys, rs, P, hl, ok1, hP.1 rfl, q⟩
  | false => exact q false H1 ok1 (hP.2 rfl)
theorem d_or (ha : PT X a (tDT B Ta)) (hb : PW X (.BoolOp .Or (b :: rest) pos) (tDT B Tb)) : PW X (.BoolOp .Or (a :: b :: rest) pos) (tDT B (fOr Ta Tb)) := by
  refine pw_w (pw_or ha hb) fun σ H Q h => ?_
  obtain ⟨ρ, ys, rs, P, hl, ok, hF, q⟩ := h
  refine ⟨ρ, ys, rs, _, hl, ok, hF, fun c H1 ok1 hP => ?_⟩
  cases c with
  | false => exact ⟨ρ, ys, rs, P, hl, ok1, hP.2 rfl, q⟩
  | true => exact q true H1 ok1 (hP.1 rfl)
theorem d_not (ha : PT X a (tDT B Ta)) : PT X (.UnaryOp .Not a pos) (tDT B (fNot Ta)) := by
  refine pt_w (pt_not ha) fun σ H Q h => ?_
  obtain ⟨ρ, ys, rs, P, hl, ok, hF, q⟩ := h
  exact ⟨ρ, ys, rs, _, hl, ok, hF, fun c H1 ok1 hP => q _ H1 ok1 hP⟩
/-- a bool value and a continuation -/
def fAndV (Fa Fb : FE) : FE := fun ρ P => Fa ρ (Sl.tb fun c => fIte c (Fb ρ P) (P (.dat (.bool false))))
def fOrV (Fa Fb : FE) : FE := fun ρ P => Fa ρ (Sl.tb fun c => fIte c (P (.dat (.bool true))) (Fb ρ P))
def fNotV (Fa : FE) : FE := fun ρ P => Fa ρ (Sl.tb fun c => P (.dat (.bool (!c))))
theorem Ok.lastB {H : Hp} {xs : List (Option V)} {ρ : List Sl} {v : V} {r : Sl} {P : Bool → Prop} (ok : Ok B H (xs ++ [some v]) (ρ ++ [r])) (hl : xs.length = ρ.length) (h : Sl.tb P r) : ∃ b, v = .bl b ∧ P b ∧ Ok B H xs ρ := by
  unfold Sl.tb at h
  split at h
  · rename_i b
    have hd := ok.last
    cases hd
    exact ⟨b, rfl, h, ok.drop hl⟩
  · exact h.elim
theorem d_oneV {op} (h : PE X a (tD B Fa)) : PE X (.BoolOp op [a] pos) (tD B Fa) := pe_one h
theorem d_andV (ha : PE X a (tD B Fa)) (hb : PE X (.BoolOp .And (b :: rest) pos) (tD B Fb)) : PE X (.BoolOp .And (a :: b :: rest) pos) (tD B (fAndV Fa Fb)) := by
  refine pe_w (pe_and ha hb) fun σ H Q h => ?_
  obtain ⟨ρ, ys, rs, P, hl, ok, hF, q⟩ := h
  refine ⟨ρ, ys, rs, _, hl, ok, hF, fun v H1 r ok1 hP => ?_⟩
  obtain ⟨c, rfl, hP, ok2⟩ := Ok.lastB (xs := σ ++ ys) (ρ := ρ ++ rs) (by simpa using ok1) ok.len hP
  refine ⟨c, rfl, ?_⟩
  cases c with
  | true => exact ⟨ρ, ys, rs, P, hl, ok2, hP.1 rfl, q⟩
  | false => exact q _ H1 _ (by have := ok2.flat (v := .bl false) fun _ => .bl false; simpa using this) (hP.2 rfl)
theorem d_orV (ha : PE X a (tD B Fa)) (hb : PE X (.BoolOp .Or (b :: rest) pos) (tD B Fb)) : PE X (.BoolOp .Or (a :: b :: rest) pos) (tD B (fOrV Fa Fb)) := by
  refine pe_w (pe_or ha hb) fun σ H Q h => ?_
  obtain ⟨ρ, ys, rs, P, hl, ok, hF, q⟩ := h
  refine ⟨ρ, ys, rs, _, hl, ok, hF, fun v H1 r ok1 hP => ?_⟩
  obtain ⟨c, rfl, hP, ok2⟩ := Ok.lastB (xs := σ ++ ys) (ρ := ρ ++ rs) (by simpa using ok1) ok.len hP
  refine ⟨c, rfl, ?_⟩
  cases c with
  | false => exact ⟨ρ, ys, rs, P, hl, ok2, hP.2 rfl, q⟩
  | true => exact q _ H1 _ (by have := ok2.flat (v := .bl true) fun _ => .bl true; simpa using this) (hP.1 rfl)
theorem d_notV (ha : PE X a (tD B Fa)) : PE X (.UnaryOp .Not a pos) (tD B (fNotV Fa)) := by
  refine pe_w (pe_not ha) fun σ H Q h => ?_
  obtain ⟨ρ, ys, rs, P, hl, ok, hF, q⟩ := h
  refine ⟨ρ, ys, rs, _, hl, ok, hF, fun v H1 r ok1 hP => ?_⟩
  obtain ⟨c, rfl, hP, ok2⟩ := Ok.lastB (xs := σ ++ ys) (ρ := ρ ++ rs) (by simpa using ok1) ok.len hP
  exact ⟨c, rfl, q _ H1 _ (by have := ok2.flat (v := .bl (!c)) fun _ => .bl (!c); simpa using this) hP⟩
def fIf (T : FT) (Fa Fb : FE) : FE := fun ρ P => T ρ fun c => fIte c (Fa ρ P) (Fb ρ P)
theorem d_if {T : FT} (hc : PT X c (tDT B T)) (ha : PE X a (tD B Fa)) (hb : PE X b (tD B Fb)) : PE X (.IfExp c a b pos) (tD B (fIf T Fa Fb)) := by
  refine pe_w (pe_ifExp hc ha hb) fun σ H Q h => ?_
  obtain ⟨ρ, ys, rs, P, hl, ok, hF, q⟩ := h
  refine ⟨ρ, ys, rs, _, hl, ok, hF, fun c H1 ok1 hP => ?_⟩
  cases c with
  | true => exact ⟨ρ, ys, rs, P, hl, ok1, hP.1 rfl, q⟩
  | false => exact ⟨ρ, ys, rs, P, hl, ok1, hP.2 rfl, q⟩
/-- is None -/
def isN : PyData → Bool
  | .none => true
  | _ => false
theorem isN_of {K : PySem.W.Frag} {H : Hp} {v : V} {d : PyData} (h : Dp K H v d) : decide (v = .non) = isN d := by
  cases h <;> simp [isN]
def fIsNK (x : Sl) (P : Sl → Prop) : Prop := match x with
  | .dat d => P (.dat (.bool (isN d)))
  | _ => False
def fIsN (Fa : FE) : FE := fun ρ P => Fa ρ fun x => fIsNK x P
theorem d_isN {j pos'} (ha : PE X a (tD B Fa)) : PE X (.Compare a [.Is] [.Constant .none j pos'] pos) (tD B (fIsN Fa)) := by
  refine pe_w (pe_cmp (pc_isN ha)) fun σ H Q h => ?_
  obtain ⟨ρ, ys, rs, P, hl, ok, hF, q⟩ := h
  refine ⟨ρ, ys, rs, _, hl, ok, hF, fun v H1 r ok1 hP => ?_⟩
  unfold fIsNK at hP
  split at hP
  · rename_i d
    have ok1' : Ok B H1 ((σ ++ ys) ++ [some v]) ((ρ ++ rs) ++ [.dat d]) := by simpa using ok1
    have ok2 := ok1'.drop ok.len
    rw [isN_of ok1'.last]
    refine q _ H1 _ (ok_cast (ok2.flat (v := .bl (isN d)) fun _ => .bl _) (by simp) (by simp)) hP
  · exact hP.elim
theorem d_isNT {j pos'} (ha : PE X a (tD B Fa)) : PT X (.Compare a [.Is] [.Constant .none j pos'] pos) (tDT B (fun ρ P => fIsN Fa ρ (Sl.tb P))) := by
  refine pt_w (pt_cmp (pc_isN ha)) fun σ H Q h => ?_
  obtain ⟨ρ, ys, rs, P, hl, ok, hF, q⟩ := h
  refine ⟨ρ, ys, rs, _, hl, ok, hF, fun v H1 r ok1 hP => ?_⟩
  unfold fIsNK at hP
  split at hP
  · rename_i d
    have ok1' : Ok B H1 ((σ ++ ys) ++ [some v]) ((ρ ++ rs) ++ [.dat d]) := by simpa using ok1
    have ok2 := ok1'.drop ok.len
    refine ⟨_, rfl, ?_⟩
    rw [isN_of ok1'.last]
    exact q _ H1 ok2 hP
  · exact hP.elim

/-! ### arguments, displays -/
def fNil : FA := fun _ P => P []
def fCons (F : FE) (R : FA) : FA := fun ρ P => F ρ fun r => R ρ fun rs => P (r :: rs)
theorem da_nil : PA X [] (tDA B fNil) := by
  refine pa_w pa_nil fun σ H Q h => ?_
  obtain ⟨ρ, ys, rs, P, hl, ok, hF, q⟩ := h
  exact q [] H [] rfl (by simpa using ok) hF
theorem da_cons {es : List Expr} {R : FA} (ha : PE X a (tD B Fa)) (hr : PA X es (tDA B R)) (hs : starEach (a :: es) X.env = (false, eval a X.env) :: starEach es X.env := by rfl) : PA X (a :: es) (tDA B (fCons Fa R)) := by
  refine pa_w (pa_cons ha hr hs) fun σ H Q h => ?_
  obtain ⟨ρ, ys, rs, P, hl, ok, hF, q⟩ := h
  refine ⟨ρ, ys, rs, _, hl, ok, hF, fun v H1 r ok1 hP => ⟨ρ, ys ++ [some v], rs ++ [r], _, hl, ok1, hP, fun vs H2 qs hl2 ok2 hP2 => ?_⟩⟩
  exact q (v :: vs) H2 (r :: qs) (by simp [hl2]) (by simpa using ok2) hP2
/-- data of them all -/
def datAll : List Sl → Option (List PyData)
  | [] => some []
  | .dat d :: r => (datAll r).map (d :: ·)
  | _ :: _ => none
theorem datAll_map : ∀ {qs : List Sl} {ds : List PyData}, datAll qs = some ds → qs = ds.map Sl.dat
  | [], ds, h => by
    cases h; rfl
  | .dat d :: r, ds, h => by
    unfold datAll at h
    cases e : datAll r with
    | none => rw [e] at h; cases h
    | some es =>
      rw [e] at h
      cases h
      rw [datAll_map e]; rfl
  | .un :: r, ds, h => by cases h
  | .own _ :: r, ds, h => by cases h
  | .pl :: r, ds, h => by cases h
theorem line1000 {n : Nat} (h : n ≤ 1000) : n ≤ sizeLine := Nat.le_trans h (by decide)
def fTupK (qs : List Sl) (P : Sl → Prop) : Prop := match datAll qs with
  | some ds => ds.length ≤ 1000 ∧ P (.dat (.tuple ds))
  | none => False
def fLstK (qs : List Sl) (P : Sl → Prop) : Prop := match datAll qs with
  | some ds => ds.length ≤ 1000 ∧ P (.own ds)
  | none => False
def fTup (R : FA) : FE := fun ρ P => R ρ fun qs => fTupK qs P
def fLst (R : FA) : FE := fun ρ P => R ρ fun qs => fLstK qs P
theorem d_tup {es : List Expr} {x1} {R : FA} (h : PA X es (tDA B R)) : PE X (.Tuple es x1 pos) (tD B (fTup R)) := by
  refine pe_w (pe_tup h) fun σ H Q h => ?_
  obtain ⟨ρ, ys, rs, P, hl, ok, hF, q⟩ := h
  refine ⟨ρ, ys, rs, _, hl, ok, hF, fun vs H1 qs hl1 ok1 hP => ?_⟩
  unfold fTupK at hP
  split at hP
  · rename_i ds e
    have em := datAll_map e
    subst em
    have hl2 : vs.length = ds.length := by simpa using hl1
    refine ⟨line1000 (by rw [hl2]; exact hP.1), fun p hp => ?_⟩
    have := Ok.tup (xs := σ ++ ys) (ρ := ρ ++ rs) (vs := vs) (ds := ds) (p := p) (by simpa using ok1) hl2 hp
    exact q _ _ _ (by simpa using this) hP.2
  · exact hP.elim
theorem d_lst {es : List Expr} {R : FA} (h : PA X es (tDA B R)) : PE X (.List es pos) (tD B (fLst R)) := by
  refine pe_w (pe_lst h) fun σ H Q h => ?_
  obtain ⟨ρ, ys, rs, P, hl, ok, hF, q⟩ := h
  refine ⟨ρ, ys, rs, _, hl, ok, hF, fun vs H1 qs hl1 ok1 hP => ?_⟩
  unfold fLstK at hP
  split at hP
  · rename_i ds e
    have em := datAll_map e
    subst em
    have hl2 : vs.length = ds.length := by simpa using hl1
    refine ⟨line1000 (by rw [hl2]; exact hP.1), fun p hp => ?_⟩
    have := Ok.lst (xs := σ ++ ys) (ρ := ρ ++ rs) (vs := vs) (ds := ds) (p := p) (by simpa using ok1) hl2 hp
    exact q _ _ _ (by simpa using this) hP.2
  · exact hP.elim
/-- one's own list as data -/
def Sl.frz : Sl → Sl
  | .own ds => .dat (.list ds)
  | r => r
theorem Ok.frzLast {H : Hp} {xs : List (Option V)} {ρ : List Sl} {v : Option V} {r : Sl} (ok : Ok B H (xs ++ [v]) (ρ ++ [r])) : Ok B H (xs ++ [v]) (ρ ++ [r.frz]) := by
  cases r with
  | own ds =>
    have := ok.frz (i := ρ.length) (ds := ds) (by rw [List.getElem?_append_right (Nat.le_refl _), Nat.sub_self]; rfl)
    rw [List.set_append_right _ _ (Nat.le_refl _), Nat.sub_self] at this
    exact this
  | un => exact ok
  | dat d => exact ok
  | pl => exact ok
def fFrz (F : FE) : FE := fun ρ P => F ρ fun r => P r.frz
theorem d_frz {e : Expr} {F : FE} (h : PE X e (tD B F)) : PE X e (tD B (fFrz F)) := by
  refine pe_w h fun σ H Q h => ?_
  obtain ⟨ρ, ys, rs, P, hl, ok, hF, q⟩ := h
  refine ⟨ρ, ys, rs, _, hl, ok, hF, fun v H1 r ok1 hP => q v H1 r.frz ?_ hP⟩
  have := Ok.frzLast (xs := σ ++ ys) (ρ := ρ ++ rs) (v := some v) (r := r) (by simpa using ok1)
  simpa using this

/-! ### subscripts -/
def Sl.seq : Sl → (List PyData → Prop) → Prop
  | .dat (.tuple ds), k => k ds
  | .dat (.list ds), k => k ds
  | _, _ => False
def Sl.int : Sl → (Int → Prop) → Prop
  | .dat (.int i), k => k i
  | _, _ => False
def fAt (ds : List PyData) (i : Int) (P : Sl → Prop) : Prop := match atI ds i with
  | some d => P (.dat d)
  | none => False
/-- an item of a sequence whose form is not told -/
@[irreducible] def fAtS (ds : List PyData) (i : Int) (P : Sl → Prop) : Prop := fAt ds i P
def fIxS : Sl → Sl → (Sl → Prop) → Prop := fun x y P => x.seq fun ds => y.int fun i => fAtS ds i P
def fIx : Sl → Sl → (Sl → Prop) → Prop := fun x y P => x.seq fun ds => y.int fun i => fAt ds i P
theorem seq_cases {r : Sl} {k : List PyData → Prop} (h : r.seq k) : ∃ ds, (r = .dat (.tuple ds) ∨ r = .dat (.list ds)) ∧ k ds := by
  unfold Sl.seq at h
  split at h
  · exact ⟨_, .inl rfl, h⟩
  · exact ⟨_, .inr rfl, h⟩
  · exact h.elim
theorem int_cases {r : Sl} {k : Int → Prop} (h : r.int k) : ∃ i, r = .dat (.int i) ∧ k i := by
  unfold Sl.int at h
  split at h
  · exact ⟨_, rfl, h⟩
  · exact h.elim
theorem ixN_len {n m : Nat} (h : n = m) (i : Int) : ixN n i = ixN m i := by rw [h]
theorem at_cases {ds : List PyData} {i : Int} {P : Sl → Prop} (h : fAt ds i P) : ∃ j d, ixN ds.length i = some j ∧ ds[j]? = some d ∧ P (.dat d) := by
  unfold fAt at h
  split at h
  · rename_i d e
    unfold atI at e
    cases e2 : ixN ds.length i with
    | none => rw [e2] at e; cases e
    | some j => rw [e2] at e; exact ⟨j, d, rfl, e, h⟩
  · exact h.elim
theorem get_last {α : Type} {xs : List α} {v : α} : (xs ++ [v])[xs.length]? = some v := by
  rw [List.getElem?_append_right (Nat.le_refl _), Nat.sub_self]; rfl
/-- an item, the place told -/
theorem Ok.itemI {H : Hp} {xs : List (Option V)} {ρ : List Sl} (h : Ok B H xs ρ) {k : Nat} {ds : List PyData} {i : Int} {P : Sl → Prop} (e : ρ[k]? = some (.dat (.tuple ds)) ∨ ρ[k]? = some (.dat (.list ds)) ∨ ρ[k]? = some (.own ds))
    (hA : fAt ds i P) : ∃ a vs v d, xs[k]? = some (some (.ref a)) ∧ (SqL B.K H a vs ∨ SqT B.K H a vs) ∧ atI vs i = some v ∧ P (.dat d) ∧ Ok B H (xs ++ [some v]) (ρ ++ [.dat d]) := by
  obtain ⟨j, d, h1, h2, h3⟩ := at_cases hA
  obtain ⟨a, vs, v, g1, g2, g3, g4, g5⟩ := h.item e h2
  refine ⟨a, vs, v, d, g1, g2, ?_, h3, g5⟩
  unfold atI
  rw [ixN_len g3, h1]
  exact g4
theorem opd_ix (hK : B.K = X.K) : OpD B (fun x y H Q => rIxL X.K x y H Q ∨ rIxT X.K x y H Q) fIx := by
  intro H xs ρ x y qx qy P Q ok hF q
  obtain ⟨ds, hx, hF⟩ := seq_cases hF
  obtain ⟨i, rfl, hF⟩ := int_cases hF
  obtain ⟨hl, o1, o2, o3⟩ := ok.two
  have hy := o2.last
  cases hy
  have e : (ρ ++ [qx])[ρ.length]? = some (.dat (.tuple ds)) ∨ (ρ ++ [qx])[ρ.length]? = some (.dat (.list ds)) ∨ (ρ ++ [qx])[ρ.length]? = some (.own ds) := by
    rcases hx with rfl | rfl
    · exact .inl get_last
    · exact .inr (.inl get_last)
  obtain ⟨a, vs, v, d, g1, g2, g3, hP, g5⟩ := o1.itemI e hF
  rw [← hl, get_last] at g1
  cases g1
  have g6 : Ok B H (xs ++ [some v]) (ρ ++ [.dat d]) := by
    refine g5.reix (fun i => if i = ρ.length then ρ.length + 1 else i) (by simp [hl]) (fun i r e _ => ?_) (fun i j ds es e1 e2 e3 => ?_)
    · by_cases hi : i < ρ.length
      · rw [if_neg (by omega), List.getElem?_append_left hi] at *
        rw [List.getElem?_append_left (by simp; omega), List.getElem?_append_left hi, List.getElem?_append_left (by omega), List.getElem?_append_left (by simp; omega), List.getElem?_append_left (by omega)]
        exact ⟨e, rfl⟩
      · have hi2 : i < (ρ ++ [Sl.dat d]).length := (List.getElem?_eq_some_iff.mp e).1
        simp only [List.length_append, List.length_cons, List.length_nil] at hi2
        have : i = ρ.length := by omega
        subst this
        rw [if_pos rfl]
        rw [get_last] at e
        cases e
        refine ⟨?_, ?_⟩
        · rw [show ρ.length + 1 = (ρ ++ [qx]).length by simp, get_last]
        · rw [← hl, get_last, show xs.length + 1 = (xs ++ [some (V.ref a)]).length by simp, get_last]
    · have hi2 : i < (ρ ++ [Sl.dat d]).length := (List.getElem?_eq_some_iff.mp e1).1
      have hj2 : j < (ρ ++ [Sl.dat d]).length := (List.getElem?_eq_some_iff.mp e2).1
      simp only [List.length_append, List.length_cons, List.length_nil] at hi2 hj2
      by_cases hi : i = ρ.length
      · by_cases hj : j = ρ.length
        · omega
        · rw [if_pos hi, if_neg hj] at e3; omega
      · by_cases hj : j = ρ.length
        · rw [if_neg hi, if_pos hj] at e3; omega
        · rw [if_neg hi, if_neg hj] at e3; omega
  rw [hK] at g2
  rcases g2 with g2 | g2
  · exact .inl ⟨a, vs, i, v, rfl, rfl, g2, g3, q v H _ g6 hP⟩
  · exact .inr ⟨a, vs, i, v, rfl, rfl, g2, g3, q v H _ g6 hP⟩
theorem d_ix {Fa Fb : FE} (hK : B.K = X.K) (ha : PE X a (tD B Fa)) (hb : PE X b (tD B Fb)) (hs : PlainIx b := by intro _ _; rfl) : PE X (.Subscript a b pos) (tD B (fun ρ P => Fa ρ fun x => Fb ρ fun y => fIx x y P)) :=
  pe_w (pe_ix (ix_list.or ix_tup) ha hb hs) (le_op2 (opd_ix hK))
theorem d_ixS {Fa Fb : FE} (hK : B.K = X.K) (ha : PE X a (tD B Fa)) (hb : PE X b (tD B Fb)) (hs : PlainIx b := by intro _ _; rfl) : PE X (.Subscript a b pos) (tD B (fun ρ P => Fa ρ fun x => Fb ρ fun y => fIxS x y P)) := by
  have e : fIxS = fIx := by unfold fIxS fIx fAtS; rfl
  rw [e]
  exact d_ix hK ha hb hs
/-- x[i], x one's own list -/
def fIxO (i : Nat) (Fb : FE) : FE := fun ρ P => match ρ[i]? with
  | some (.own ds) => Fb ρ fun y => y.int fun k => fAtS ds k P
  | _ => False
theorem d_ixO {Fb : FE} (hK : B.K = X.K) (i : Nat) {x : Str} {p : Pos} (hb : PE X b (tD B Fb)) (hN : X.N[i]? = some x := by rfl) (hv : Vis X.env.scope x := by first | exact Or.inl rfl | exact Or.inr (Or.inl rfl) | exact Or.inr (Or.inr rfl)) (hs : PlainIx b := by intro _ _; rfl)
    (hd : (x == ("__debug__" : Str)) = false := by decide) (hcd : (x == ("__classdict__" : Str)) = false := by decide) :
    PE X (.Subscript (.Name x p) b pos) (tD B (fIxO i Fb)) := by
  refine pe_w (pe_ix (ix_list.or ix_tup) (pe_var hN hv hd hcd) hb hs) fun σ H Q h => ?_
  obtain ⟨ρ, ys, rs, P, hl, ok, hF, q⟩ := h
  unfold fIxO at hF
  split at hF
  · rename_i ds hi
    have hi1 : i < ρ.length := (List.getElem?_eq_some_iff.mp hi).1
    have hi2 : (ρ ++ rs)[i]? = some (.own ds) := by rw [List.getElem?_append_left hi1]; exact hi
    obtain ⟨a, vs, g1, g2, g3⟩ := ok.seq (.inr (.inr hi2))
    rw [List.getElem?_append_left (by omega)] at g1
    refine ⟨.ref a, g1, ρ, ys, rs, _, hl, ok, hF, fun w H1 r ok1 hP => ?_⟩
    obtain ⟨k, rfl, hP⟩ := int_cases hP
    have ok1' : Ok B H1 ((σ ++ ys) ++ [some w]) ((ρ ++ rs) ++ [.dat (.int k)]) := by simpa using ok1
    have hw := ok1'.last
    cases hw
    have ok2 := ok1'.drop ok.len
    unfold fAtS at hP
    obtain ⟨a', vs', v, d, k1, k2, k3, k4, k5⟩ := ok2.itemI (.inr (.inr hi2)) hP
    rw [List.getElem?_append_left (by omega), g1] at k1
    cases k1
    rw [hK] at k2
    have fin : Q v H1 := q v H1 _ (by simpa using k5) k4
    rcases k2 with k2 | k2
    · exact .inl ⟨a, vs', k, v, rfl, rfl, k2, k3, fin⟩
    · exact .inr ⟨a, vs', k, v, rfl, rfl, k2, k3, fin⟩
  · exact hF.elim
end
end DL
/-! DL3: calls, new lists and tuples, slices, comprehensions. -/
namespace DL
open PySem PySem.Spec PyProof.Rows L2

section
variable {B : Bs} {G : Hp} {ad : Nat → Addr} {H : Hp} {xs : List (Option V)} {ρ : List Sl}
/-- the values of a slot's tuple or list -/
theorem OkG.seq (o : OkG B G ad H xs ρ) {i : Nat} {ds : List PyData} (e : ρ[i]? = some (.dat (.tuple ds)) ∨ ρ[i]? = some (.dat (.list ds)) ∨ ρ[i]? = some (.own ds)) :
    ∃ a vs, xs[i]? = some (some (.ref a)) ∧ (SqL B.K H a vs ∨ SqT B.K H a vs) ∧ DvAll B.K G vs ds := by
  rcases e with e | e | e
  · obtain ⟨v, e1, e2⟩ := o.dat i _ e
    cases e2 with
    | tup s a => exact ⟨_, _, e1, .inr (SqT.mono o.gh s), a⟩
  · obtain ⟨v, e1, e2⟩ := o.dat i _ e
    cases e2 with
    | lst s a => exact ⟨_, _, e1, .inl (.inl (rd_mono o.gh s)), a⟩
  · obtain ⟨e1, _, _, vs, e4, e5⟩ := o.own i _ e
    exact ⟨_, vs, e1, .inl (SqL.of e4), e5⟩
theorem OkG.tupT (o : OkG B G ad H xs ρ) {i : Nat} {ds : List PyData} (e : ρ[i]? = some (.dat (.tuple ds))) :
    ∃ a vs, xs[i]? = some (some (.ref a)) ∧ SqT B.K H a vs ∧ DvAll B.K G vs ds := by
  obtain ⟨v, e1, e2⟩ := o.dat i _ e
  cases e2 with
  | tup s a => exact ⟨_, _, e1, SqT.mono o.gh s, a⟩
theorem OkG.lstL (o : OkG B G ad H xs ρ) {i : Nat} {ds : List PyData} (e : ρ[i]? = some (.dat (.list ds)) ∨ ρ[i]? = some (.own ds)) :
    ∃ a vs, xs[i]? = some (some (.ref a)) ∧ Rd H a (.lst vs) ∧ DvAll B.K G vs ds := by
  rcases e with e | e
  · obtain ⟨v, e1, e2⟩ := o.dat i _ e
    cases e2 with
    | lst s a => exact ⟨_, _, e1, rd_mono o.gh s, a⟩
  · obtain ⟨e1, _, _, vs, e4, e5⟩ := o.own i _ e
    exact ⟨_, vs, e1, .inl e4, e5⟩
/-- new objects of data -/
theorem OkG.newT (o : OkG B G ad H xs ρ) {ws : List V} {es : List PyData} {p : Addr} (a : DvAll B.K G ws es) (hp : H p = none) : Ok B (upd H p (.tup ws)) (xs ++ [some (.ref p)]) (ρ ++ [.dat (.tuple es)]) := by
  have hGp := o.freeG hp
  have sg : Same G (upd G p (.tup ws)) := same_upd hGp
  refine ⟨upd G p (.tup ws), _, o.push 0 sg (fun b q1 q2 => ?_) (fun b x e => ?_) (fun b x e _ => same_upd hp _ _ e) (fun q hq => ?_) (fun d' e => ?_) (fun _ e => nomatch e) (fun e => nomatch e)⟩
  · by_cases hb : b = p
    · rw [hb]; exact hp
    · rw [upd_ne hb] at q1; exact absurd q2 q1
  · by_cases hb : b = p
    · subst hb; rw [upd_same] at e ⊢; exact e
    · rw [upd_ne hb] at e ⊢; exact o.gh _ _ e
  · obtain ⟨a1, a2, x, y, z, a3⟩ := o.pail q hq
    have : q ≠ p := ne_of_none a3 hp
    exact ⟨by rw [upd_ne this]; exact a1, x, y, z, by rw [upd_ne this]; exact a3⟩
  · cases e
    exact ⟨_, rfl, .tup (SqT.of upd_same) (a.mono sg)⟩
theorem OkG.newL (o : OkG B G ad H xs ρ) {ws : List V} {es : List PyData} {p : Addr} (a : DvAll B.K G ws es) (hp : H p = none) : Ok B (upd H p (.lst ws)) (xs ++ [some (.ref p)]) (ρ ++ [.own es]) := by
  have hGp := o.freeG hp
  refine ⟨G, _, o.push p (Same.refl _) (fun b q1 q2 => absurd q2 q1) (same_upd2 o.gh hGp) (fun b x e _ => same_upd hp _ _ e) (fun q hq => ?_) (fun d' e => nomatch e) (fun ds' e => ?_) (fun e => nomatch e)⟩
  · obtain ⟨a1, a2, x, y, z, a3⟩ := o.pail q hq
    have : q ≠ p := ne_of_none a3 hp
    exact ⟨a1, x, y, z, by rw [upd_ne this]; exact a3⟩
  · cases e
    exact ⟨rfl, hGp, hp, ws, upd_same, a⟩
/-- what stands between is dropped -/
theorem Ok.mid {ys zs : List (Option V)} {rs qs : List Sl} (h : Ok B H (xs ++ ys ++ zs) (ρ ++ rs ++ qs)) (hl : xs.length = ρ.length) (hy : ys.length = rs.length) : Ok B H (xs ++ zs) (ρ ++ qs) := by
  have hL := h.len
  simp only [List.length_append] at hL
  refine h.reix (fun i => if i < ρ.length then i else i + rs.length) (by simp; omega) (fun i r e _ => ?_) (fun i j ds es e1 e2 e3 => ?_)
  · by_cases hi : i < ρ.length
    · rw [if_pos hi]
      rw [List.getElem?_append_left hi] at e
      rw [List.append_assoc, List.append_assoc, List.getElem?_append_left hi, List.getElem?_append_left (by omega), List.getElem?_append_left (by omega)]
      exact ⟨e, rfl⟩
    · rw [if_neg hi]
      rw [List.getElem?_append_right (by omega)] at e
      rw [List.getElem?_append_right (by simp; omega), List.getElem?_append_right (by omega), List.getElem?_append_right (by simp; omega)]
      simp only [List.length_append]
      rw [show i + rs.length - (ρ.length + rs.length) = i - ρ.length by omega, show i + rs.length - (xs.length + ys.length) = i - xs.length by omega]
      exact ⟨e, rfl⟩
  · by_cases hi : i < ρ.length
    · by_cases hj : j < ρ.length
      · rw [if_pos hi, if_pos hj] at e3; exact e3
      · rw [if_pos hi, if_neg hj] at e3; omega
    · by_cases hj : j < ρ.length
      · rw [if_neg hi, if_pos hj] at e3; omega
      · rw [if_neg hi, if_neg hj] at e3; omega
/-- all items of a slot as pending values -/
theorem OkG.pushAll : ∀ {vs : List V} {ds : List PyData} {ad : Nat → Addr} {xs : List (Option V)} {ρ : List Sl}, OkG B G ad H xs ρ → DvAll B.K G vs ds → ∃ ad', OkG B G ad' H (xs ++ vs.map some) (ρ ++ ds.map Sl.dat)
  | [], _, ad, xs, ρ, o, .nil => ⟨ad, by simpa using o⟩
  | v :: vs, d :: ds, ad, xs, ρ, o, .cons h a => by
    have o1 := o.push (v := some v) (r := .dat d) 0 (Same.refl _) (fun a q1 q2 => absurd q2 q1) o.gh (fun _ _ e _ => e) (fun p hp => ⟨(o.pail p hp).1, (o.pail p hp).2.2⟩)
      (fun d' e => by cases e; exact ⟨v, rfl, h⟩) (fun ds e => nomatch e) (fun e => nomatch e)
    obtain ⟨ad', o2⟩ := OkG.pushAll o1 a
    exact ⟨ad', by simpa using o2⟩
theorem last1 {α : Type} {xs : List α} {x : α} {r : α} (h : (xs ++ [x])[xs.length]? = some r) : x = r := by
  rw [get_last] at h; exact Option.some.inj h
end

/-! ### calls of built-ins -/
/-- a call on the last pending values -/
def CallD (B : Bs) (r : List V → Hp → VK → Prop) (F : List Sl → (Sl → Prop) → Prop) : Prop := ∀ (H : Hp) (xs : List (Option V)) (ρ : List Sl) (vs : List V) (qs : List Sl) (P : Sl → Prop) (Q : VK),
  xs.length = ρ.length → vs.length = qs.length → Ok B H (xs ++ vs.map some) (ρ ++ qs) → F qs P → (∀ v H' r, Ok B H' (xs ++ [some v]) (ρ ++ [r]) → P r → Q v H') → r vs H Q
section
variable {X : Cx} {B : Bs} {pos p : Pos}
theorem le_call {r : List V → Hp → VK → Prop} {F : List Sl → (Sl → Prop) → Prop} {R : FA} (h : CallD B r F) : ∀ σ H Q, tD B (fun ρ P => R ρ fun qs => F qs P) σ H Q → tCB r (tDA B R) σ H Q := by
  intro σ H Q ⟨ρ, ys, rs, P, hl, ok, hF, q⟩
  refine ⟨ρ, ys, rs, _, hl, ok, hF, fun vs H1 qs hv ok1 hP => ?_⟩
  refine h H1 (σ ++ ys) (ρ ++ rs) vs qs P Q ok.len hv (by simpa using ok1) hP fun v H2 r ok2 hP2 => q v H2 r (by simpa using ok2) hP2
theorem d_callB {id : String} {x : Str} {e : Expr} {es : List Expr} {r : List V → Hp → VK → Prop} {F : List Sl → (Sl → Prop) → Prop} {R : FA} (hc : CallR X (.builtin id) r) (hr : CallD B r F) (hg : Gl X x) (hm : X.mg x = none) (hv : bootBuiltins x = some (.builtin id)) (ha : PA X (e :: es) (tDA B R)) (hn : x ≠ "__name__" := by decide) (hdb : (x == ("__debug__" : Str)) = false := by decide)
    (he : starEach (e :: es) X.env = (false, eval e X.env) :: starEach es X.env := by rfl) (hpl : (backTo pos (starEach es X.env)).any (·.1) = false := by rfl) :
    PE X (.Call (.Name x p) (e :: es) [] pos) (tD B (fun ρ P => R ρ fun qs => F qs P)) := pe_w (pe_callB hc hg hm hv ha hn hdb he hpl) (le_call hr)
theorem d_callTy {T : String} {x : Str} {e : Expr} {es : List Expr} {r : List V → Hp → VK → Prop} {F : List Sl → (Sl → Prop) → Prop} {R : FA} (hc : CallR X (.type T) r) (hr : CallD B r F) (hg : Gl X x) (hm : X.mg x = none) (hv : bootBuiltins x = some (.type T)) (ha : PA X (e :: es) (tDA B R)) (hn : x ≠ "__name__" := by decide) (hdb : (x == ("__debug__" : Str)) = false := by decide)
    (he : starEach (e :: es) X.env = (false, eval e X.env) :: starEach es X.env := by rfl) (hpl : (backTo pos (starEach es X.env)).any (·.1) = false := by rfl) :
    PE X (.Call (.Name x p) (e :: es) [] pos) (tD B (fun ρ P => R ρ fun qs => F qs P)) := pe_w (pe_callTy hc hg hm hv ha hn hdb he hpl) (le_call hr)
theorem d_callBfun {id : String} {x : Str} {e : Expr} {es : List Expr} {r : List V → Hp → VK → Prop} {F : List Sl → (Sl → Prop) → Prop} {R : FA} (hc : CallR X (.builtin id) r) (hr : CallD B r F) (hg : Gl X x) (hm : X.mg x = some (.builtin id)) (ha : PA X (e :: es) (tDA B R)) (hdb : (x == ("__debug__" : Str)) = false := by decide)
    (he : starEach (e :: es) X.env = (false, eval e X.env) :: starEach es X.env := by rfl) (hpl : (backTo pos (starEach es X.env)).any (·.1) = false := by rfl) :
    PE X (.Call (.Name x p) (e :: es) [] pos) (tD B (fun ρ P => R ρ fun qs => F qs P)) := pe_w (pe_callBfun hc hg hm ha hdb he hpl) (le_call hr)

/-- two ints in, an int out -/
def fInt2 (g : Int → Int → Int) : List Sl → (Sl → Prop) → Prop := fun qs P => match qs with
  | [.dat (.int i), .dat (.int j)] => P (.dat (.int (g i j)))
  | _ => False
def fInt1 (g : Int → Int) : List Sl → (Sl → Prop) → Prop := fun qs P => match qs with
  | [.dat (.int i)] => P (.dat (.int (g i)))
  | _ => False
theorem two_len {α : Type} {vs : List α} (h : vs.length = 2) : ∃ x y, vs = [x, y] := by
  match vs, h with
  | [x, y], _ => exact ⟨x, y, rfl⟩
theorem one_len {α : Type} {vs : List α} (h : vs.length = 1) : ∃ x, vs = [x] := by
  match vs, h with
  | [x], _ => exact ⟨x, rfl⟩
theorem cd_int2 {g : Int → Int → Int} {r : List V → Hp → VK → Prop} (h : ∀ i j H Q, Q (.int (g i j)) H → r [.int i, .int j] H Q) : CallD B r (fInt2 g) := by
  intro H xs ρ vs qs P Q hl hv ok hF q
  unfold fInt2 at hF
  split at hF
  · rename_i i j
    obtain ⟨x, y, rfl⟩ := two_len hv
    obtain ⟨rfl, rfl, o⟩ := ok.two_int
    exact h i j H Q (q _ H _ (o.flat fun _ => .int _) hF)
  · exact hF.elim
theorem cd_int1 {g : Int → Int} {r : List V → Hp → VK → Prop} (h : ∀ i H Q, Q (.int (g i)) H → r [.int i] H Q) : CallD B r (fInt1 g) := by
  intro H xs ρ vs qs P Q hl hv ok hF q
  unfold fInt1 at hF
  split at hF
  · rename_i i
    obtain ⟨x, rfl⟩ := one_len hv
    have hd := Ok.last (xs := xs) (ρ := ρ) (by simpa using ok)
    cases hd
    have o := Ok.drop (ys := [some (.int i)]) (rs := [.dat (.int i)]) (by simpa using ok) hl
    exact h i H Q (q _ H _ (o.flat fun _ => .int _) hF)
  · exact hF.elim
def gGcd (a b : Int) : Int := ((Nat.gcd a.natAbs b.natAbs : Nat) : Int)
theorem cd_gcd : CallD B rGcd (fInt2 gGcd) := cd_int2 fun i j H Q q => ⟨i, j, rfl, q⟩
def gMax (i j : Int) : Int := if j > i then j else i
def gMin (i j : Int) : Int := if j < i then j else i
def gAbs (i : Int) : Int := if i < 0 then -i else i
theorem cd_max : CallD B (fun xs H Q => ∃ i j, xs = [.int i, .int j] ∧ Q (.int (if j > i then j else i)) H) (fInt2 gMax) := cd_int2 fun i j H Q q => ⟨i, j, rfl, q⟩
theorem cd_min : CallD B (fun xs H Q => ∃ i j, xs = [.int i, .int j] ∧ Q (.int (if j < i then j else i)) H) (fInt2 gMin) := cd_int2 fun i j H Q q => ⟨i, j, rfl, q⟩
theorem cd_abs : CallD B (fun xs H Q => ∃ i, xs = [.int i] ∧ Q (.int (if i < 0 then -i else i)) H) (fInt1 gAbs) := cd_int1 fun i H Q q => ⟨i, rfl, q⟩
theorem cd_int : CallD B (fun xs H Q => (∃ i, xs = [.int i] ∧ Q (.int i) H) ∨ ∃ k, xs = [.bl k] ∧ Q (.int (if k then 1 else 0)) H) (fInt1 fun i => i) := cd_int1 fun i H Q q => .inl ⟨i, rfl, q⟩
/-- len -/
def fLen : List Sl → (Sl → Prop) → Prop := fun qs P => match qs with
  | [r] => r.seq fun ds => P (.dat (.int ds.length))
  | _ => False
theorem cd_len (hK : B.K = X.K) : CallD B (fun xs H Q => ∃ p ys, xs = [.ref p] ∧ (SqL X.K H p ys ∨ SqT X.K H p ys) ∧ Q (.int ys.length) H) fLen := by
  intro H xs ρ vs qs P Q hl hv ok hF q
  unfold fLen at hF
  split at hF
  · rename_i r
    obtain ⟨x, rfl⟩ := one_len hv
    obtain ⟨ds, hr, hF⟩ := seq_cases hF
    have ok' : Ok B H (xs ++ [some x]) (ρ ++ [r]) := by simpa using ok
    obtain ⟨a, vs, g1, g2, g3⟩ := ok'.seq (i := ρ.length) (ds := ds) (by rcases hr with rfl | rfl; exact .inl get_last; exact .inr (.inl get_last))
    rw [← hl, get_last] at g1
    cases g1
    rw [hK] at g2
    refine ⟨a, vs, rfl, g2, ?_⟩
    rw [g3]
    exact q _ H _ ((ok'.drop hl).flat fun _ => .int _) hF
  · exact hF.elim
/-- list(x): one's own -/
def fListOf : List Sl → (Sl → Prop) → Prop := fun qs P => match qs with
  | [r] => r.seq fun ds => P (.own ds)
  | _ => False
theorem seqPend {H : Hp} {xs : List (Option V)} {ρ : List Sl} {x : V} {r : Sl} {ds : List PyData} (hl : xs.length = ρ.length) (ok : Ok B H (xs ++ [some x]) (ρ ++ [r])) (hr : r = .dat (.tuple ds) ∨ r = .dat (.list ds)) :
    ∃ G ad a vs, OkG B G ad H (xs ++ [some x]) (ρ ++ [r]) ∧ x = .ref a ∧ (SqL B.K H a vs ∨ SqT B.K H a vs) ∧ DvAll B.K G vs ds := by
  obtain ⟨G, ad, o⟩ := ok
  obtain ⟨a, vs, g1, g2, g3⟩ := o.seq (i := ρ.length) (ds := ds) (by rcases hr with rfl | rfl; exact .inl get_last; exact .inr (.inl get_last))
  rw [← hl, get_last] at g1
  cases g1
  exact ⟨G, ad, a, vs, o, rfl, g2, g3⟩
theorem cd_list (hK : B.K = X.K) : CallD B (fun xs H Q => ∃ p ys, xs = [.ref p] ∧ (SqL X.K H p ys ∨ SqT X.K H p ys) ∧ ∀ l, H l = none → Q (.ref l) (upd H l (.lst ys))) fListOf := by
  intro H xs ρ vs qs P Q hl hv ok hF q
  unfold fListOf at hF
  split at hF
  · rename_i r
    obtain ⟨x, rfl⟩ := one_len hv
    obtain ⟨ds, hr, hF⟩ := seq_cases hF
    obtain ⟨G, ad, a, vs, o, rfl, g2, g3⟩ := seqPend hl (show Ok B H (xs ++ [some x]) (ρ ++ [r]) by simpa using ok) hr
    rw [hK] at g2
    refine ⟨a, vs, rfl, g2, fun l hn => q _ _ _ ?_ hF⟩
    exact Ok.mid (o.newL g3 hn) hl rfl
  · exact hF.elim
/-- tuple(l) -/
def fTupOf : List Sl → (Sl → Prop) → Prop := fun qs P => match qs with
  | [.dat (.list ds)] => P (.dat (.tuple ds))
  | _ => False
theorem cd_tuple (hK : B.K = X.K) : CallD B (fun xs H Q => ∃ p ys, xs = [.ref p] ∧ ((SqL X.K H p ys ∧ ∀ l, H l = none → Q (.ref l) (upd H l (.tup ys))) ∨ (SqT X.K H p ys ∧ Q (.ref p) H))) fTupOf := by
  intro H xs ρ vs qs P Q hl hv ok hF q
  unfold fTupOf at hF
  split at hF
  · rename_i ds
    obtain ⟨x, rfl⟩ := one_len hv
    obtain ⟨G, ad, o⟩ := show Ok B H (xs ++ [some x]) (ρ ++ [.dat (.list ds)]) by simpa using ok
    obtain ⟨a, vs, g1, g2, g3⟩ := o.lstL (i := ρ.length) (ds := ds) (.inl get_last)
    rw [← hl, get_last] at g1
    cases g1
    refine ⟨a, vs, rfl, .inl ⟨.inl g2, fun l hn => q _ _ _ ?_ hF⟩⟩
    exact Ok.mid (o.newT g3 hn) hl rfl
  · exact hF.elim
/-- isinstance(x, T) -/
def tyName : PyData → String
  | .none => "NoneType"
  | .bool _ => "bool"
  | .int _ => "int"
  | .str _ => "str"
  | .list _ => "list"
  | .tuple _ => "tuple"
  | .dict _ => "dict"
theorem tyx_of {K : PySem.W.Frag} {G H : Hp} (e : Same G H) {v : V} {d : PyData} (h : Dv K G v d) : TyX K H v (.type (tyName d)) := by
  cases h with
  | non => exact .base .non
  | bl b => exact .base (.bl b)
  | int i => exact .base (.int i)
  | str x => exact .base (.str x)
  | lst h a =>
    rcases rd_mono e h with h | ⟨o, h⟩
    · exact .base (.lst h)
    · exact .base (.frz h)
  | tup h a =>
    rcases SqT.mono e h with (h | ⟨o, h⟩) | ⟨o, its, n, h1, h2, _⟩
    · exact .base (.tup h)
    · exact .fTuple h
    · exact .kTuple h1 h2
end

/-! ### lists: +, *; tuples: + -/
section
variable {X : Cx} {B : Bs} {pos p : Pos}
def Sl.lst : Sl → (List PyData → Prop) → Prop
  | .dat (.list ds), k => k ds
  | _, _ => False
theorem lst_cases {r : Sl} {k : List PyData → Prop} (h : r.lst k) : ∃ ds, r = .dat (.list ds) ∧ k ds := by
  unfold Sl.lst at h
  split at h
  · exact ⟨_, rfl, h⟩
  · exact h.elim
/-- a list + a list, times an int: the lists may be of those that stay -/
theorem rd_obj {X : Cx} {pins : List (Addr × Obj)} {σ : L2.St} {H : Hp} {s : Shared} {l : Addr} {xs : List V} (I : Inv X pins σ H s) (h : Rd H l (.lst xs)) : xs.length ≤ sizeLine ∧ ∃ (its : List Value) (n : Nat), Vals xs its ∧ xs.length = its.length ∧ s.heap.get? l = some { cls := .type "list", data := .seq its.toArray n } := by
  obtain ⟨z, its, n, r, e⟩ := h.ok I.hok
  exact ⟨z, its, n, r, r.length, e⟩
def rCatR : R2 := fun x y H Q => ∃ l b xs zs, x = .ref l ∧ y = .ref b ∧ Rd H l (.lst xs) ∧ Rd H b (.lst zs) ∧ xs.length + zs.length ≤ sizeLine ∧ ∀ p, H p = none → Q (.ref p) (upd H p (.lst (xs ++ zs)))
theorem op_catR {X : Cx} : OpR X (binaryOp .Add) rCatR := by
  intro pins s σ H x y v u Q I rx ry h
  obtain ⟨l, b, xs, zs, rfl, rfl, h1, h2, hz, q⟩ := h
  cases rx
  cases ry
  obtain ⟨z, its, n, r, hl, e⟩ := rd_obj I h1
  obtain ⟨z', its', n', r', hl', e'⟩ := rd_obj I h2
  refine PySem.P.add_list e e' ?_ (by rw [List.size_toArray, List.size_toArray]; omega)
  rw [show its.toArray ++ its'.toArray = (its ++ its').toArray by simp]
  exact ⟨.ref _, _, I.lnew (t' := s.toks) (r.append r') (by rw [List.length_append]; omega), rfl, q _ I.fresh⟩
def fCat : Sl → Sl → (Sl → Prop) → Prop := fun x y P => x.lst fun a => y.lst fun b => a.length + b.length ≤ 1000 ∧ P (.own (a ++ b))
theorem two_get {α : Type} {xs : List α} {x y : α} : (xs ++ [x, y])[xs.length]? = some x ∧ (xs ++ [x, y])[xs.length + 1]? = some y := by
  refine ⟨?_, ?_⟩
  · rw [List.getElem?_append_right (Nat.le_refl _), Nat.sub_self]; rfl
  · rw [List.getElem?_append_right (by omega), Nat.add_sub_cancel_left]; rfl
theorem opd_cat : OpD B rCatR fCat := by
  intro H xs ρ x y qx qy P Q ok hF q
  obtain ⟨a, rfl, hF1⟩ := lst_cases hF
  clear hF
  obtain ⟨b, rfl, hlen, hF⟩ := lst_cases hF1
  have hl : xs.length = ρ.length := ok.two.1
  obtain ⟨G, ad, o⟩ := ok
  obtain ⟨p1, vs, g1, g2, g3⟩ := o.lstL (i := ρ.length) (ds := a) (.inl two_get.1)
  obtain ⟨p2, ws, k1, k2, k3⟩ := o.lstL (i := ρ.length + 1) (ds := b) (.inl two_get.2)
  rw [← hl, two_get.1] at g1
  rw [← hl, two_get.2] at k1
  cases g1; cases k1
  refine ⟨p1, p2, vs, ws, rfl, rfl, g2, k2, by rw [g3.len, k3.len]; exact line1000 hlen, fun r hr => q _ _ _ ?_ hF⟩
  exact Ok.mid (o.newL (g3.append k3) hr) hl rfl
def Sl.ownL : Sl → (List PyData → Prop) → Prop
  | .own ds, k => k ds
  | _, _ => False
theorem own_cases {r : Sl} {k : List PyData → Prop} (h : r.ownL k) : ∃ ds, r = .own ds ∧ k ds := by
  unfold Sl.ownL at h
  split at h
  · exact ⟨_, rfl, h⟩
  · exact h.elim
def fRep : Sl → Sl → (Sl → Prop) → Prop := fun x y P => x.ownL fun a => y.int fun k => k ≤ 1000 ∧ -1000 ≤ k ∧ a.length ≤ 1 ∧ P (.own (List.replicate k.toNat a).flatten)
theorem opd_rep : OpD B rRep fRep := by
  intro H xs ρ x y qx qy P Q ok hF q
  obtain ⟨a, rfl, hF⟩ := own_cases hF
  obtain ⟨k, rfl, hk, hk2, ha, hF⟩ := int_cases hF
  obtain ⟨hl, _, o2, _⟩ := ok.two
  have hy := o2.last
  cases hy
  obtain ⟨G, ad, o⟩ := ok
  obtain ⟨g1, _, _, vs, g2, g3⟩ := o.own ρ.length a two_get.1
  rw [← hl, two_get.1] at g1
  cases g1
  rw [← hl] at g2
  refine ⟨_, k, vs, rfl, rfl, g2, by omega, by omega, ?_, fun r hr => q _ _ _ ?_ hF⟩
  · rw [g3.len]
    have : a.length * k.toNat ≤ 1 * 1000 := Nat.mul_le_mul ha (by omega)
    exact line1000 (by omega)
  · exact Ok.mid (o.newL (g3.reps k.toNat) hr) hl rfl
def Sl.tup : Sl → (List PyData → Prop) → Prop
  | .dat (.tuple ds), k => k ds
  | _, _ => False
theorem tup_cases {r : Sl} {k : List PyData → Prop} (h : r.tup k) : ∃ ds, r = .dat (.tuple ds) ∧ k ds := by
  unfold Sl.tup at h
  split at h
  · exact ⟨_, rfl, h⟩
  · exact h.elim
def fCatT : Sl → Sl → (Sl → Prop) → Prop := fun x y P => x.tup fun a => y.tup fun b => a ≠ [] ∧ b ≠ [] ∧ a.length + b.length ≤ 1000 ∧ P (.dat (.tuple (a ++ b)))
theorem opd_catT (hK : B.K = X.K) : OpD B (rCatT X.K) fCatT := by
  intro H xs ρ x y qx qy P Q ok hF q
  obtain ⟨a, rfl, hF1⟩ := tup_cases hF
  clear hF
  obtain ⟨b, rfl, ha, hb, hlen, hF⟩ := tup_cases hF1
  have hl : xs.length = ρ.length := ok.two.1
  obtain ⟨G, ad, o⟩ := ok
  obtain ⟨p1, vs, g1, g2, g3⟩ := o.tupT (i := ρ.length) (ds := a) two_get.1
  obtain ⟨p2, ws, k1, k2, k3⟩ := o.tupT (i := ρ.length + 1) (ds := b) two_get.2
  rw [← hl, two_get.1] at g1
  rw [← hl, two_get.2] at k1
  cases g1; cases k1
  rw [hK] at g2 k2
  refine ⟨p1, p2, vs, ws, rfl, rfl, g2, k2, fun e => ?_, by rw [g3.len, k3.len]; exact line1000 hlen, fun e => ?_, fun _ r hr => q _ _ _ ?_ hF⟩
  · subst e; cases g3; exact ha rfl
  · subst e; cases k3; exact (hb rfl).elim
  · exact Ok.mid (o.newT (g3.append k3) hr) hl rfl

/-! ### *x in a display -/
def fStar (F : FE) (R : FA) : FA := fun ρ P => F ρ fun r => r.seq fun ds => R ρ fun qs => P (ds.map Sl.dat ++ qs)
theorem da_star {e : Expr} {es : List Expr} {F : FE} {R : FA} (hK : B.K = X.K) (he : PE X e (tD B F)) (hr : PA X es (tDA B R)) (hs : starEach (.Starred e p :: es) X.env = (true, eval e X.env) :: starEach es X.env := by rfl) : PA X (.Starred e p :: es) (tDA B (fStar F R)) := by
  refine pa_w (StX.pa_star he hr hs) fun σ H Q h => ?_
  obtain ⟨ρ, ys, rs, P, hl, ok, hF, q⟩ := h
  refine ⟨ρ, ys, rs, _, hl, ok, hF, fun v H1 r ok1 hP => ?_⟩
  obtain ⟨ds, hr, hP⟩ := seq_cases hP
  obtain ⟨G, ad, a, vs, o, rfl, g2, g3⟩ := seqPend (xs := σ ++ ys) (ρ := ρ ++ rs) (x := v) (r := r) ok.len (by simpa using ok1) hr
  obtain ⟨ad', o2⟩ := OkG.pushAll o g3
  rw [hK] at g2
  refine ⟨a, vs, rfl, g2.symm, ρ, ys ++ vs.map some, rs ++ ds.map Sl.dat, _, hl, ?_, hP, fun ws H2 qs hw ok2 hP2 => ?_⟩
  · have := Ok.mid (xs := σ ++ ys) (ρ := ρ ++ rs) (ys := [some (.ref a)]) (rs := [r]) ⟨G, ad', o2⟩ ok.len rfl
    simpa using this
  · exact q (vs ++ ws) H2 (ds.map Sl.dat ++ qs) (by simp [g3.len, hw]) (by simpa using ok2) hP2

/-! ### slices -/
def cutA {α : Type} (xs : List α) (lo hi : Option Int) : List α := (xs.drop (HT.sIx xs.length 0 lo)).take (HT.sIx xs.length xs.length hi - HT.sIx xs.length 0 lo)
/-- x[:e], x a list -/
def fCutL (Fa Fe : FE) : FE := fun ρ P => Fa ρ fun x => Fe ρ fun y => x.lst fun ds => y.int fun k => P (.own (cutA ds none (some k)))
theorem d_cutL {e a : Expr} {p2 : Pos} {Fa Fe : FE} (ha : PE X a (tD B Fa)) (he : PE X e (tD B Fe)) : PE X (.Subscript a (.Slice none (some e) none p2) pos) (tD B (fCutL Fa Fe)) := by
  refine pe_w (pe_slice sl_list ha po_none (po_some he)) fun σ H Q h => ?_
  obtain ⟨ρ, ys, rs, P, hl, ok, hF, q⟩ := h
  refine ⟨ρ, ys, rs, _, hl, ok, hF, fun v H1 r ok1 hF1 => ⟨ρ, ys ++ [some v], rs ++ [r], _, hl, ok1, hF1, fun w H2 s ok2 hP => ?_⟩⟩
  obtain ⟨ds, rfl, hP⟩ := lst_cases hP
  obtain ⟨k, rfl, hP⟩ := int_cases hP
  have ok3 : Ok B H2 ((σ ++ ys) ++ [some v, some w]) ((ρ ++ rs) ++ [.dat (.list ds), .dat (.int k)]) := by simpa using ok2
  have hw := ok3.two.2.2.1.last
  cases hw
  obtain ⟨G, ad, o⟩ := ok3.two.2.1
  have hl2 := ok.len
  obtain ⟨p1, vs, g1, g2, g3⟩ := o.lstL (i := (ρ ++ rs).length) (ds := ds) (.inl get_last)
  rw [← hl2, get_last] at g1
  cases g1
  refine ⟨k, rfl, p1, vs, rfl, .inl g2, fun r hr => q _ _ _ ?_ hP⟩
  have c : DvAll B.K G (cutV vs none (some k)) (cutA ds none (some k)) := by
    unfold cutV cutA
    rw [g3.len]
    exact (g3.drop _).take _
  have := Ok.mid (xs := σ ++ ys) (ρ := ρ ++ rs) (ys := [some (.ref p1)]) (rs := [.dat (.list ds)]) (o.newL c hr) hl2 rfl
  simpa using this
/-- x[:2], x a tuple of three -/
def fCut2K (x : Sl) (P : Sl → Prop) : Prop := match x with
  | .dat (.tuple [a, b, _]) => P (.dat (.tuple [a, b]))
  | _ => False
def fCut2 (Fa : FE) : FE := fun ρ P => Fa ρ fun x => fCut2K x P
theorem d_cut2 {a : Expr} {p2 p3 : Pos} {j} {Fa : FE} (hK : B.K = X.K) (ha : PE X a (tD B Fa)) : PE X (.Subscript a (.Slice none (some (.Constant (.int 2) j p3)) none p2) pos) (tD B (fCut2 Fa)) := by
  refine pe_w (pe_slice sl_tup ha po_none (po_some pe_int)) fun σ H Q h => ?_
  obtain ⟨ρ, ys, rs, P, hl, ok, hF, q⟩ := h
  refine ⟨ρ, ys, rs, _, hl, ok, hF, fun v H1 r ok1 hP => ?_⟩
  unfold fCut2K at hP
  split at hP
  · rename_i x y z
    have hl2 := ok.len
    obtain ⟨G, ad, o⟩ := show Ok B H1 ((σ ++ ys) ++ [some v]) ((ρ ++ rs) ++ [.dat (.tuple [x, y, z])]) by simpa using ok1
    obtain ⟨p1, vs, g1, g2, g3⟩ := o.tupT (i := (ρ ++ rs).length) get_last
    rw [← hl2, get_last] at g1
    cases g1
    cases g3 with
    | cons h1 g3 =>
      cases g3 with
      | cons h2 g3 =>
        cases g3 with
        | cons h3 g3 =>
          cases g3
          rw [hK] at g2
          refine ⟨2, rfl, p1, _, rfl, g2, (by show ¬ (0 = 0 ∧ (2 : Nat) = 3); decide), fun r hr => q _ _ _ ?_ hP⟩
          show Ok B (upd H1 r (.tup [_, _])) _ _
          have := Ok.mid (xs := σ ++ ys) (ρ := ρ ++ rs) (ys := [some (.ref p1)]) (rs := [.dat (.tuple [x, y, z])]) (o.newT (.cons h1 (.cons h2 .nil)) hr) hl2 rfl
          simpa using this
  · exact hP.elim
/-- x[::-1], x a list -/
def fRevL (Fa : FE) : FE := fun ρ P => Fa ρ fun x => x.lst fun ds => P (.own ds.reverse)
theorem d_revL {a : Expr} {k : Nat} {p1 p2 p3 : Pos} {Fa : FE} (ha : PE X a (tD B Fa)) : PE X (.Subscript a (.Slice none none (some (.UnaryOp .USub (.Constant (.int 1) k p1) p2)) p3) pos) (tD B (fRevL Fa)) := by
  refine pe_w (pe_revL ha) fun σ H Q h => ?_
  obtain ⟨ρ, ys, rs, P, hl, ok, hF, q⟩ := h
  refine ⟨ρ, ys, rs, _, hl, ok, hF, fun v H1 r ok1 hP => ?_⟩
  obtain ⟨ds, rfl, hP⟩ := lst_cases hP
  have hl2 := ok.len
  obtain ⟨G, ad, o⟩ := show Ok B H1 ((σ ++ ys) ++ [some v]) ((ρ ++ rs) ++ [.dat (.list ds)]) by simpa using ok1
  obtain ⟨p1, vs, g1, g2, g3⟩ := o.lstL (i := (ρ ++ rs).length) (ds := ds) (.inl get_last)
  rw [← hl2, get_last] at g1
  cases g1
  refine ⟨p1, vs, rfl, .inl g2, fun r hr => q _ _ _ ?_ hP⟩
  have := Ok.mid (xs := σ ++ ys) (ρ := ρ ++ rs) (ys := [some (.ref p1)]) (rs := [.dat (.list ds)]) (o.newL g3.reverse hr) hl2 rfl
  simpa using this
end
end DL
/-! DL4: statements, defs, calls of defs. -/
namespace DL
open PySem PySem.Spec PyProof.Rows L2

/-! ### what a def promises -/
abbrev FS := List Sl → (Sl → Prop) → Prop
def spD (K : PySem.W.Frag) (S : FS) : Sp := fun vs H Q _ => ∃ (G : Hp) (pa : Option Addr) (rs : List Sl) (P : Sl → Prop), Ok ⟨K, G, H, pa⟩ H (vs.map some) rs ∧ S rs P ∧
  ∀ v r H', Ok ⟨K, G, H, pa⟩ H' [some v] [r] → P r → Q v H'
section
variable {B : Bs} {H : Hp} {xs : List (Option V)} {ρ : List Sl}
theorem Ok.call {vs : List V} {rs : List Sl} (h : Ok B H (xs ++ vs.map some) (ρ ++ rs)) (hl : xs.length = ρ.length) (hr : rs.all argOk = true) :
    ∃ G, Ok ⟨B.K, G, H, B.pa⟩ H (vs.map some) rs ∧ ∀ v r H', Ok ⟨B.K, G, H, B.pa⟩ H' [some v] [r] → Ok B H' (xs ++ [some v]) (ρ ++ [r]) := by
  obtain ⟨G, ad, o⟩ := h
  have hv : vs.length = rs.length := by
    have := o.len
    simp only [List.length_append, List.length_map] at this
    omega
  have sh : ∀ (i : Nat) (r : Sl), rs[i]? = some r → (ρ ++ rs)[ρ.length + i]? = some r ∧ (xs ++ vs.map some)[ρ.length + i]? = (vs.map some)[i]? := fun i r e => by
    refine ⟨?_, ?_⟩
    · rw [List.getElem?_append_right (by omega), Nat.add_sub_cancel_left]; exact e
    · rw [← hl, List.getElem?_append_right (by omega), Nat.add_sub_cancel_left]
  have noown : ∀ (i : Nat) (ds : List PyData), rs[i]? ≠ some (.own ds) := fun i ds e => by
    have := List.all_eq_true.mp hr _ (List.mem_of_getElem? e)
    cases this
  refine ⟨G, ⟨G, ad, Same.refl _, fun a q1 q2 => absurd q2 q1, o.gh, fun a x e _ => e, by simp [hv], fun i d e => ?_, fun i ds e => absurd e (noown i ds), fun i j ds es e => absurd e (noown i ds), fun i e => ?_, fun p hp => ?_⟩, fun v r H' h' => ?_⟩
  · obtain ⟨e1, e2⟩ := sh i _ e
    obtain ⟨w, a1, a2⟩ := o.dat _ _ e1
    rw [e2] at a1
    exact ⟨w, a1, a2⟩
  · obtain ⟨e1, e2⟩ := sh i _ e
    obtain ⟨p, a1, a2⟩ := o.pl _ e1
    rw [e2] at a2
    exact ⟨p, a1, a2⟩
  · obtain ⟨a1, a2, a3⟩ := o.pail p hp
    refine ⟨a1, ?_, a3⟩
    obtain ⟨x, y, z, a3⟩ := a3
    show H p ≠ none
    rw [a3]; exact fun z => nomatch z
  · obtain ⟨G', ad', c⟩ := h'
    have o1 : OkG B G ad H xs ρ := o.reix id hl (fun i r e _ => by
      have hi : i < ρ.length := (List.getElem?_eq_some_iff.mp e).1
      refine ⟨?_, ?_⟩
      · rw [id, List.getElem?_append_left hi]; exact e
      · rw [id, List.getElem?_append_left (by omega)]) (fun i j _ _ _ _ e => e)
    refine ⟨G', _, o1.push (ad' 0) c.g0 (fun a q1 q2 => c.fr a q1 q2) c.gh (fun a x e q => c.keep a x e q) (fun p hp => ⟨(c.pail p hp).1, (c.pail p hp).2.2⟩) (fun d e => ?_) (fun ds e => ?_) (fun e => ?_)⟩
    · subst e
      obtain ⟨w, a1, a2⟩ := c.dat 0 d rfl
      exact ⟨w, Option.some.inj a1, a2⟩
    · subst e
      obtain ⟨a1, a2, a3, a4⟩ := c.own 0 ds rfl
      exact ⟨Option.some.inj a1, a2, a3, a4⟩
    · subst e
      obtain ⟨p, a1, a2⟩ := c.pl 0 rfl
      exact ⟨p, a1, Option.some.inj a2⟩
end
section
variable {X : Cx} {B : Bs} {k : Nat} {f : Addr} {fd : FuncData} {ps : List Str} {S : FS} {x : Str} {p pos : Pos} {e : Expr} {es : List Expr} {R : FA}
theorem d_call (F : FnOk X.prog X.w X.K X.mg X.base CX0 k f fd ps (spD X.K S)) (hK : B.K = X.K) (hr : Room k X.A) (hg : Gl X x) (hm : X.mg x = some (.ref f)) (hk : PySem.W.keepIn X.K (.ref f) = true) (hb : Binds X.K fd ps [])
    (ha : PA X (e :: es) (tDA B R)) (hdb : (x == ("__debug__" : Str)) = false := by decide) (he : starEach (e :: es) X.env = (false, eval e X.env) :: starEach es X.env := by rfl) (hpl : (backTo pos (starEach es X.env)).any (·.1) = false := by rfl) :
    PE X (.Call (.Name x p) (e :: es) [] pos) (tD B (fun ρ P => R ρ fun qs => fOn (qs.all argOk) (S qs P))) := by
  refine pe_w (pe_call F hr hg hm hk hb .nil pass0 ha hdb he hpl) fun σ H Q h => ?_
  obtain ⟨ρ, ys, rs, P, hl, ok, hF, q⟩ := h
  refine ⟨ρ, ys, rs, _, hl, ok, hF, fun vs H1 qs hv ok1 hP => ?_⟩
  show spD X.K S (vs ++ []) H1 Q E0
  rw [List.append_nil]
  obtain ⟨G, c1, c2⟩ := Ok.call (xs := σ ++ ys) (ρ := ρ ++ rs) (vs := vs) (rs := qs) (by simpa using ok1) ok.len hP.out.1
  rw [hK] at c1 c2
  exact ⟨G, B.pa, qs, P, c1, hP.out.2, fun v r H' h' hr => q v H' r (by have := c2 v r H' h'; simpa using this) hr⟩
/-- keywords alone: g puts the values in the parameters' order -/
theorem pe_callK0 {CX : CXT} {sp : Sp} {E : XK} {ks : List Str} {kws : List Keyword} {tk : TA} {g : List Value → List Value → List Value} {gV : List V → List V → List V} (F : FnOk X.prog X.w X.K X.mg X.base CX k f fd ps sp) (hr : Room k X.A) (hg : Gl X x) (hm : X.mg x = some (.ref f)) (hk : PySem.W.keepIn X.K (.ref f) = true) (hb : KBinds X.K fd ps ks g gV) (hx : Passes CX X E)
    (hkw : PK X kws tk) (hall : (backToKw pos (keywordEach kws X.env)).all (·.1.isSome) = true := by rfl) (hks : (backToKw pos (keywordEach kws X.env)).filterMap (·.1) = ks := by rfl)
    (hdb : (x == ("__debug__" : Str)) = false := by decide)
    (hpl : ((backTo pos (starEach [] X.env)).any (·.1) || (backToKw pos (keywordEach kws X.env)).any (·.1.isNone)) = false := by rfl) :
    PE X (.Call (.Name x p) [] kws pos) (fun σ H Q => tk σ H fun zs H2 => sp (gV [] zs) H2 Q E) := by
  refine ⟨fun pins s σ H Q I h => ?_⟩
  refine wpAny_Call_Name_kw (ld_glob I hg hm ?_ hdb)
  refine PySem.W.callWith_KW0 (h₀ := X.base) I.ok.mod.kin hk hall ?_ hpl
  refine thn (hkw.run pos pins s σ H _ I h) fun ws s2 ⟨zs, H2, I2, rz, q2⟩ => ⟨I2.kIn, ?_⟩
  rw [hks]
  exact run_fnk F hr hb hx I2 .nil rz q2
theorem pk_w {kws : List Keyword} {t t' : TA} (h : PK X kws t) (w : ∀ σ H Q, t' σ H Q → t σ H Q) : PK X kws t' := ⟨fun pos pins s σ H Q I q => h.run pos pins s σ H Q I (w σ H Q q)⟩
theorem dk_nil : PK X [] (tDA B fNil) := by
  refine pk_w pk_nil fun σ H Q h => ?_
  obtain ⟨ρ, ys, rs, P, hl, ok, hF, q⟩ := h
  exact q [] H [] rfl (by simpa using ok) hF
theorem dk_cons {kws : List Keyword} {nm : Option Str} {kpos : Pos} {Fa : FE} (ha : PE X e (tD B Fa)) (hr : PK X kws (tDA B R)) : PK X (⟨nm, e, kpos⟩ :: kws) (tDA B (fCons Fa R)) := by
  refine pk_w (pk_cons ha hr) fun σ H Q h => ?_
  obtain ⟨ρ, ys, rs, P, hl, ok, hF, q⟩ := h
  refine ⟨ρ, ys, rs, _, hl, ok, hF, fun v H1 r ok1 hP => ⟨ρ, ys ++ [some v], rs ++ [r], _, hl, ok1, hP, fun vs H2 qs hl2 ok2 hP2 => ?_⟩⟩
  exact q (v :: vs) H2 (r :: qs) (by simp [hl2]) (by simpa using ok2) hP2
/-- f(a = .., b = ..), the two keywords in the other order -/
def swap2 {α : Type} : List α → List α
  | [a, b] => [b, a]
  | l => l
theorem Ok.swap {B : Bs} {H : Hp} {xs : List (Option V)} {ρ : List Sl} {v w : Option V} {r s : Sl} (h : Ok B H (xs ++ [v, w]) (ρ ++ [r, s])) (hl : xs.length = ρ.length) : Ok B H (xs ++ [w, v]) (ρ ++ [s, r]) := by
  refine h.reix (fun i => if i = ρ.length then ρ.length + 1 else if i = ρ.length + 1 then ρ.length else i) (by simp [hl]) (fun i q e _ => ?_) (fun i j ds es e1 e2 e3 => ?_)
  · have hi : i < (ρ ++ [s, r]).length := (List.getElem?_eq_some_iff.mp e).1
    simp only [List.length_append, List.length_cons, List.length_nil] at hi
    by_cases h1 : i = ρ.length
    · subst h1
      rw [if_pos rfl]
      rw [two_get.1] at e
      refine ⟨by rw [two_get.2]; exact e, ?_⟩
      rw [← hl, two_get.1, two_get.2]
    · rw [if_neg h1]
      by_cases h2 : i = ρ.length + 1
      · subst h2
        rw [if_pos rfl]
        rw [two_get.2] at e
        refine ⟨by rw [two_get.1]; exact e, ?_⟩
        rw [← hl, two_get.1, two_get.2]
      · rw [if_neg h2]
        rw [List.getElem?_append_left (by omega)] at e
        refine ⟨by rw [List.getElem?_append_left (by omega)]; exact e, ?_⟩
        rw [List.getElem?_append_left (by omega), List.getElem?_append_left (by omega)]
  · have hi : i < (ρ ++ [s, r]).length := (List.getElem?_eq_some_iff.mp e1).1
    have hj : j < (ρ ++ [s, r]).length := (List.getElem?_eq_some_iff.mp e2).1
    simp only [List.length_append, List.length_cons, List.length_nil] at hi hj
    by_cases h1 : i = ρ.length
    · by_cases h2 : j = ρ.length
      · omega
      · rw [if_pos h1, if_neg h2] at e3
        by_cases h3 : j = ρ.length + 1
        · rw [if_pos h3] at e3; omega
        · rw [if_neg h3] at e3; omega
    · rw [if_neg h1] at e3
      by_cases h4 : i = ρ.length + 1
      · rw [if_pos h4] at e3
        by_cases h2 : j = ρ.length
        · rw [if_pos h2] at e3; omega
        · rw [if_neg h2] at e3
          by_cases h3 : j = ρ.length + 1
          · omega
          · rw [if_neg h3] at e3; omega
      · rw [if_neg h4] at e3
        by_cases h2 : j = ρ.length
        · rw [if_pos h2] at e3; omega
        · rw [if_neg h2] at e3
          by_cases h3 : j = ρ.length + 1
          · rw [if_pos h3] at e3; omega
          · rw [if_neg h3] at e3; exact e3
def fSwK (S : FS) (qs : List Sl) (P : Sl → Prop) : Prop := match qs with
  | [a, b] => fOn ([b, a].all argOk) (S [b, a] P)
  | _ => False
theorem d_callK2 {ks : List Str} {kws : List Keyword} (F : FnOk X.prog X.w X.K X.mg X.base CX0 k f fd ps (spD X.K S)) (hK : B.K = X.K) (hr : Room k X.A) (hg : Gl X x) (hm : X.mg x = some (.ref f)) (hk : PySem.W.keepIn X.K (.ref f) = true) (hb : KBinds X.K fd ps ks (fun us ws => us ++ swap2 ws) (fun vs zs => vs ++ swap2 zs))
    (hkw : PK X kws (tDA B R)) (hall : (backToKw pos (keywordEach kws X.env)).all (·.1.isSome) = true := by rfl) (hks : (backToKw pos (keywordEach kws X.env)).filterMap (·.1) = ks := by rfl)
    (hdb : (x == ("__debug__" : Str)) = false := by decide)
    (hpl : ((backTo pos (starEach [] X.env)).any (·.1) || (backToKw pos (keywordEach kws X.env)).any (·.1.isNone)) = false := by rfl) :
    PE X (.Call (.Name x p) [] kws pos) (tD B (fun ρ P => R ρ fun qs => fSwK S qs P)) := by
  refine pe_w (pe_callK0 F hr hg hm hk hb pass0 hkw hall hks hdb hpl) fun σ H Q h => ?_
  obtain ⟨ρ, ys, rs, P, hl, ok, hF, q⟩ := h
  refine ⟨ρ, ys, rs, _, hl, ok, hF, fun vs H1 qs hv ok1 hP => ?_⟩
  unfold fSwK at hP
  split at hP
  · rename_i qs a b
    obtain ⟨v, w, rfl⟩ := two_len hv
    have ok2 := Ok.swap (xs := σ ++ ys) (ρ := ρ ++ rs) (v := some v) (w := some w) (r := a) (s := b) (by simpa using ok1) ok.len
    obtain ⟨G, c1, c2⟩ := Ok.call (xs := σ ++ ys) (ρ := ρ ++ rs) (vs := [w, v]) (rs := [b, a]) (by simpa using ok2) ok.len hP.out.1
    rw [hK] at c1 c2
    exact ⟨G, B.pa, [b, a], P, c1, hP.out.2, fun v r H' h' hr => q v H' r (by have := c2 v r H' h'; simpa using this) hr⟩
  · exact hP.elim
theorem d_callK1 {ks : List Str} {kws : List Keyword} (F : FnOk X.prog X.w X.K X.mg X.base CX0 k f fd ps (spD X.K S)) (hK : B.K = X.K) (hr : Room k X.A) (hg : Gl X x) (hm : X.mg x = some (.ref f)) (hk : PySem.W.keepIn X.K (.ref f) = true) (hb : KBinds X.K fd ps ks (fun us ws => us ++ ws) (fun vs zs => vs ++ zs))
    (hkw : PK X kws (tDA B R)) (hall : (backToKw pos (keywordEach kws X.env)).all (·.1.isSome) = true := by rfl) (hks : (backToKw pos (keywordEach kws X.env)).filterMap (·.1) = ks := by rfl)
    (hdb : (x == ("__debug__" : Str)) = false := by decide)
    (hpl : ((backTo pos (starEach [] X.env)).any (·.1) || (backToKw pos (keywordEach kws X.env)).any (·.1.isNone)) = false := by rfl) :
    PE X (.Call (.Name x p) [] kws pos) (tD B (fun ρ P => R ρ fun qs => fOn (qs.all argOk) (S qs P))) := by
  refine pe_w (pe_callK0 F hr hg hm hk hb pass0 hkw hall hks hdb hpl) fun σ H Q h => ?_
  obtain ⟨ρ, ys, rs, P, hl, ok, hF, q⟩ := h
  refine ⟨ρ, ys, rs, _, hl, ok, hF, fun vs H1 qs hv ok1 hP => ?_⟩
  obtain ⟨G, c1, c2⟩ := Ok.call (xs := σ ++ ys) (ρ := ρ ++ rs) (vs := vs) (rs := qs) (by simpa using ok1) ok.len hP.out.1
  rw [hK] at c1 c2
  exact ⟨G, B.pa, qs, P, c1, hP.out.2, fun v r H' h' hr => q v H' r (by have := c2 v r H' h'; simpa using this) hr⟩
end

/-! ### statements -/
structure DEnd where
  nx : List Sl → Prop
  rt : Sl → Prop
  bk : List Sl → Prop := fun _ => False
  ct : List Sl → Prop := fun _ => False
abbrev FST := DEnd → List Sl → Prop
def tDS (B : Bs) (F : FST) : TS := fun D σ H => ∃ (ρ : List Sl) (ys : List (Option V)) (rs : List Sl) (δ : DEnd), ρ.length = σ.length ∧ Ok B H (σ ++ ys) (ρ ++ rs) ∧ F δ ρ ∧
  (∀ σ' H' ρ', ρ'.length = σ'.length → σ'.length = σ.length → Ok B H' (σ' ++ ys) (ρ' ++ rs) → δ.nx ρ' → D.nx σ' H') ∧
  (∀ v H' r, Ok B H' [some v] [r] → δ.rt r → D.rt v H') ∧
  (∀ σ' H' ρ', ρ'.length = σ'.length → σ'.length = σ.length → Ok B H' (σ' ++ ys) (ρ' ++ rs) → δ.bk ρ' → D.bk σ' H') ∧
  (∀ σ' H' ρ', ρ'.length = σ'.length → σ'.length = σ.length → Ok B H' (σ' ++ ys) (ρ' ++ rs) → δ.ct ρ' → D.ct σ' H')
section
variable {X : Cx} {B : Bs} {pos p : Pos} {st : Stmt} {sts : List Stmt} {e : Expr} {F : FE} {S T : FST}
theorem ps_w {t t' : TS} (h : PS X st t) (w : ∀ D σ H, t' D σ H → t D σ H) : PS X st t' := ⟨fun pins s σ H D I q => h.run pins s σ H D I (w D σ H q)⟩
theorem pss_w {t t' : TS} (h : PSs X sts t) (w : ∀ D σ H, t' D σ H → t D σ H) : PSs X sts t' := ⟨fun pins s σ H D I q => h.run pins s σ H D I (w D σ H q)⟩
def fSeq (S T : FST) : FST := fun δ ρ => S { δ with nx := T δ } ρ
def fNext : FST := fun δ ρ => δ.nx ρ
theorem s_nil : PSs X [] (tDS B fNext) := by
  refine pss_w pss_nil fun D σ H h => ?_
  obtain ⟨ρ, ys, rs, δ, hl, ok, hF, q1, q2, q3, q4⟩ := h
  exact q1 σ H ρ hl rfl ok hF
theorem s_cons (h1 : PS X st (tDS B S)) (h2 : PSs X sts (tDS B T)) : PSs X (st :: sts) (tDS B (fSeq S T)) := by
  refine pss_w (pss_cons h1 h2) fun D σ H h => ?_
  obtain ⟨ρ, ys, rs, δ, hl, ok, hF, q1, q2, q3, q4⟩ := h
  refine ⟨ρ, ys, rs, _, hl, ok, hF, fun σ' H' ρ' hl' hl2 ok' hn => ?_, q2, q3, q4⟩
  exact ⟨ρ', ys, rs, δ, hl', ok', hn, fun σ2 H2 ρ2 a b => q1 σ2 H2 ρ2 a (b.trans hl2), q2, fun σ2 H2 ρ2 a b => q3 σ2 H2 ρ2 a (b.trans hl2), fun σ2 H2 ρ2 a b => q4 σ2 H2 ρ2 a (b.trans hl2)⟩
theorem s_one (h1 : PS X st (tDS B S)) : PSs X [st] (tDS B S) := pss_one h1
theorem s_pass : PS X (.Pass pos) (tDS B fNext) := by
  refine ps_w ps_pass fun D σ H h => ?_
  obtain ⟨ρ, ys, rs, δ, hl, ok, hF, q1, q2, q3, q4⟩ := h
  exact q1 σ H ρ hl rfl ok hF
def fRet (F : FE) : FST := fun δ ρ => F ρ δ.rt
theorem Ok.lastOnly {H : Hp} {xs : List (Option V)} {ρ : List Sl} {v : Option V} {r : Sl} (h : Ok B H (xs ++ [v]) (ρ ++ [r])) : Ok B H [v] [r] := by
  have hl := h.len
  simp only [List.length_append, List.length_cons, List.length_nil] at hl
  exact Ok.mid (xs := []) (ρ := []) (ys := xs) (rs := ρ) (zs := [v]) (qs := [r]) (by simpa using h) rfl (by omega)
theorem s_ret (h : PE X e (tD B F)) : PS X (.Return (some e) pos) (tDS B (fRet F)) := by
  refine ps_w (ps_ret h) fun D σ H h => ?_
  obtain ⟨ρ, ys, rs, δ, hl, ok, hF, q1, q2, q3, q4⟩ := h
  exact ⟨ρ, ys, rs, _, hl, ok, hF, fun v H' r ok' hr => q2 v H' r (Ok.lastOnly (xs := σ ++ ys) (ρ := ρ ++ rs) (by simpa using ok')) hr⟩
def fDrop (F : FE) : FST := fun δ ρ => F ρ fun _ => δ.nx ρ
theorem s_expr (h : PE X e (tD B F)) (hs : swapsWith e none pos.line X.env = pure false := by rfl) : PS X (.Expr e pos) (tDS B (fDrop F)) := by
  refine ps_w (ps_expr h hs) fun D σ H h => ?_
  obtain ⟨ρ, ys, rs, δ, hl, ok, hF, q1, q2, q3, q4⟩ := h
  exact ⟨ρ, ys, rs, _, hl, ok, hF, fun v H' r ok' hr => q1 σ H' ρ hl rfl (Ok.drop (ys := [some v]) (rs := [r]) (by simpa using ok') ok.len) hr⟩
def fIfS (C : FT) (S T : FST) : FST := fun δ ρ => C ρ fun b => fIte b (S δ ρ) (T δ ρ)
theorem s_if {c : Expr} {a b : List Stmt} {C : FT} (hc : PT X c (tDT B C)) (ha : PSs X a (tDS B S)) (hb : PSs X b (tDS B T)) : PS X (.If c a b pos) (tDS B (fIfS C S T)) := by
  refine ps_w (ps_if hc ha hb) fun D σ H h => ?_
  obtain ⟨ρ, ys, rs, δ, hl, ok, hF, q⟩ := h
  refine ⟨ρ, ys, rs, _, hl, ok, hF, fun b H1 ok1 hP => ?_⟩
  cases b with
  | true => exact ⟨ρ, ys, rs, δ, hl, ok1, hP.1 rfl, q⟩
  | false => exact ⟨ρ, ys, rs, δ, hl, ok1, hP.2 rfl, q⟩
def fNever : FST := fun _ _ => False
theorem s_never : PS X st (tDS B fNever) := ps_w ps_never fun D σ H h => by obtain ⟨ρ, ys, rs, δ, hl, ok, hF, q⟩ := h; exact hF
theorem ss_never : PSs X sts (tDS B fNever) := pss_w pss_never fun D σ H h => by obtain ⟨ρ, ys, rs, δ, hl, ok, hF, q⟩ := h; exact hF
/-- forget a slot; a list of one's own becomes data -/
def fForget (i : Nat) (S : FST) : FST := fun δ ρ => S δ (ρ.set i .un)
theorem s_forget (i : Nat) (h : PS X st (tDS B S)) : PS X st (tDS B (fForget i S)) := by
  refine ps_w h fun D σ H h => ?_
  obtain ⟨ρ, ys, rs, δ, hl, ok, hF, q⟩ := h
  refine ⟨ρ.set i .un, ys, rs, δ, by simp [hl], ?_, hF, q⟩
  refine ok.reix id (by simp [ok.lens hl, hl]) (fun j r e hr => ?_) (fun j k _ _ _ _ e => e)
  refine ⟨?_, rfl⟩
  rw [id]
  by_cases hj : j < ρ.length
  · rw [List.getElem?_append_left (by simp [hj])] at e
    rw [List.getElem?_append_left hj]
    by_cases hij : i = j
    · subst hij
      rw [List.getElem?_set_self hj] at e
      exact absurd (Option.some.inj e).symm hr
    · rw [List.getElem?_set_ne hij] at e
      exact e
  · rw [List.getElem?_append_right (by simp; omega)] at e
    rw [List.getElem?_append_right (by omega)]
    simpa using e
def fFrzS (i : Nat) (S : FST) : FST := fun δ ρ => match ρ[i]? with
  | some (.own ds) => S δ (ρ.set i (.dat (.list ds)))
  | _ => False
theorem s_frz (i : Nat) (h : PS X st (tDS B S)) : PS X st (tDS B (fFrzS i S)) := by
  refine ps_w h fun D σ H h => ?_
  obtain ⟨ρ, ys, rs, δ, hl, ok, hF, q⟩ := h
  unfold fFrzS at hF
  split at hF
  · rename_i ds e
    have hi : i < ρ.length := (List.getElem?_eq_some_iff.mp e).1
    refine ⟨_, ys, rs, δ, by simp [hl], ?_, hF, q⟩
    have := ok.frz (i := i) (ds := ds) (by rw [List.getElem?_append_left hi]; exact e)
    rw [List.set_append_left _ _ hi] at this
    exact this
  · exact hF.elim

/-! ### targets -/
abbrev FG := Sl → List Sl → (List Sl → Prop) → Prop
def tDG (B : Bs) (g : FG) : TG := fun v σ H Q => ∃ (ρ : List Sl) (ys : List (Option V)) (rs : List Sl) (r : Sl) (P : List Sl → Prop), ρ.length = σ.length ∧ Ok B H (σ ++ (ys ++ [some v])) (ρ ++ (rs ++ [r])) ∧ g r ρ P ∧
  ∀ σ' H' ρ', ρ'.length = σ'.length → σ'.length = σ.length → Ok B H' (σ' ++ ys) (ρ' ++ rs) → P ρ' → Q σ' H'
abbrev FGs := List Sl → List Sl → (List Sl → Prop) → Prop
def tDGs (B : Bs) (g : FGs) : TGs := fun vs σ H Q => ∃ (ρ : List Sl) (ys : List (Option V)) (rs : List Sl) (ds : List PyData) (P : List Sl → Prop), ρ.length = σ.length ∧ vs.length = ds.length ∧ Ok B H (σ ++ (ys ++ vs.map some)) (ρ ++ (rs ++ ds.map Sl.dat)) ∧ g (ds.map Sl.dat) ρ P ∧
  ∀ σ' H' ρ', ρ'.length = σ'.length → σ'.length = σ.length → Ok B H' (σ' ++ ys) (ρ' ++ rs) → P ρ' → Q σ' H'
theorem pg_w {t t' : TG} (h : PG X e t) (w : ∀ v σ H Q, t' v σ H Q → t v σ H Q) : PG X e t' := ⟨fun pins s σ H v u Q I r q => h.run pins s σ H v u Q I r (w v σ H Q q)⟩
theorem pgs_w {es : List Expr} {t t' : TGs} (h : PGs X es t) (w : ∀ v σ H Q, t' v σ H Q → t v σ H Q) : PGs X es t' := ⟨fun pins s σ H v u Q I r q => h.run pins s σ H v u Q I r (w v σ H Q q)⟩
/-- the last pending value goes to a slot -/
theorem Ok.store {H : Hp} {σ ys : List (Option V)} {ρ rs : List Sl} {v : V} {r : Sl} {i : Nat} (ok : Ok B H (σ ++ (ys ++ [some v])) (ρ ++ (rs ++ [r]))) (hl : ρ.length = σ.length) : Ok B H (σ.set i (some v) ++ ys) (ρ.set i r ++ rs) := by
  have h0 := ok.lens hl
  simp only [List.length_append, List.length_cons, List.length_nil] at h0
  have hy : ys.length = rs.length := by omega
  have ok' : Ok B H ((σ ++ ys) ++ [some v]) ((ρ ++ rs) ++ [r]) := by simpa using ok
  refine ok'.reix (fun j => if j = i ∧ i < ρ.length then (ρ ++ rs).length else j) (by simp [hl, hy]) (fun j q e _ => ?_) (fun j k ds es e1 e2 e3 => ?_)
  · by_cases hj : j = i ∧ i < ρ.length
    · obtain ⟨rfl, hj⟩ := hj
      rw [if_pos ⟨rfl, hj⟩]
      rw [List.getElem?_append_left (by simp [hj]), List.getElem?_set_self hj] at e
      refine ⟨by rw [get_last]; exact e, ?_⟩
      rw [List.getElem?_append_left (by simp; omega), List.getElem?_set_self (by omega), show (ρ ++ rs).length = (σ ++ ys).length by simp [hl, hy], get_last]
    · rw [if_neg hj]
      have hj2 : j < (ρ.set i r ++ rs).length := (List.getElem?_eq_some_iff.mp e).1
      simp only [List.length_append, List.length_set] at hj2
      have e' : (ρ ++ rs)[j]? = some q := by
        by_cases h1 : j < ρ.length
        · rw [List.getElem?_append_left (by simp [h1]), List.getElem?_set_ne (fun z => hj ⟨z.symm, by omega⟩)] at e
          rw [List.getElem?_append_left h1]; exact e
        · rw [List.getElem?_append_right (by simp; omega)] at e
          rw [List.getElem?_append_right (by omega)]
          simpa using e
      refine ⟨by rw [List.getElem?_append_left (by simp; omega)]; exact e', ?_⟩
      have r1 : (σ ++ ys ++ [some v])[j]? = (σ ++ ys)[j]? := List.getElem?_append_left (by simp; omega)
      rw [r1]
      by_cases h1 : j < σ.length
      · rw [List.getElem?_append_left (by simp [h1]), List.getElem?_append_left h1, List.getElem?_set_ne (fun z => hj ⟨z.symm, by omega⟩)]
      · rw [List.getElem?_append_right (by simp; omega), List.getElem?_append_right (by omega)]
        simp
  · have hj2 : j < (ρ.set i r ++ rs).length := (List.getElem?_eq_some_iff.mp e1).1
    have hk2 : k < (ρ.set i r ++ rs).length := (List.getElem?_eq_some_iff.mp e2).1
    simp only [List.length_append, List.length_set] at hj2 hk2
    by_cases hj : j = i ∧ i < ρ.length
    · by_cases hk : k = i ∧ i < ρ.length
      · rw [hj.1, hk.1]
      · rw [if_pos hj, if_neg hk] at e3
        simp at e3; omega
    · by_cases hk : k = i ∧ i < ρ.length
      · rw [if_neg hj, if_pos hk] at e3
        simp at e3; omega
      · rw [if_neg hj, if_neg hk] at e3; exact e3
def gSlot (i : Nat) : FG := fun r ρ P => P (ρ.set i r)
theorem g_name {x : Str} (i : Nat) (hN : X.N.Nodup) (hi : X.N[i]? = some x := by rfl) (hx : Loc X.env.scope x := by first | exact Or.inl rfl | exact Or.inr rfl) (hf : X.fn x = true ∨ X.env.scope.names.lookup x = some .local := by first | exact .inl rfl | exact .inr rfl | assumption) : PG X (.Name x pos) (tDG B (gSlot i)) := by
  refine pg_w (pg_name hN hi hx hf) fun v σ H Q h => ?_
  obtain ⟨ρ, ys, rs, r, P, hl, ok, hg, q⟩ := h
  exact q _ H _ (by simp [hl]) (by simp) (ok.store hl) hg
def gsNil : FGs := fun qs ρ P => match qs with
  | [] => P ρ
  | _ => False
def gsCons (g : FG) (gs : FGs) : FGs := fun qs ρ P => match qs with
  | q :: r => g q ρ fun ρ' => gs r ρ' P
  | [] => False
theorem gs_nil : PGs X [] (tDGs B gsNil) := by
  refine pgs_w pgs_nil fun vs σ H Q h => ?_
  obtain ⟨ρ, ys, rs, ds, P, hl, hv, ok, hg, q⟩ := h
  cases ds with
  | nil =>
    have : vs = [] := List.length_eq_zero_iff.mp hv
    subst this
    exact ⟨rfl, q σ H ρ hl rfl (by simpa using ok) hg⟩
  | cons _ _ => exact hg.elim
theorem gs_cons {es : List Expr} {g : FG} {gs : FGs} (h1 : PG X e (tDG B g)) (h2 : PGs X es (tDGs B gs)) (hs : (assignEach (e :: es) X.env).map (·.2) = assign e X.env :: (assignEach es X.env).map (·.2) := by rfl) : PGs X (e :: es) (tDGs B (gsCons g gs)) := by
  refine pgs_w (pgs_cons h1 h2 hs) fun vs σ H Q h => ?_
  obtain ⟨ρ, ys, rs, ds, P, hl, hv, ok, hg, q⟩ := h
  cases ds with
  | nil => exact hg.elim
  | cons d ds =>
    cases vs with
    | nil => cases hv
    | cons v vs =>
      have hv' : vs.length = ds.length := by simpa using hv
      have h0 := ok.lens hl
      simp only [List.length_append, List.length_map, List.length_cons] at h0
      have hy : ys.length = rs.length := by omega
      refine ⟨v, vs, rfl, ?_⟩
      have hd : (ρ ++ (rs ++ (d :: ds).map Sl.dat))[ρ.length + rs.length]? = some (.dat d) := by
        rw [List.getElem?_append_right (by omega), Nat.add_sub_cancel_left, List.getElem?_append_right (by omega), Nat.sub_self]; rfl
      obtain ⟨w, e1, ok2⟩ := ok.dup hd
      have ew : w = v := by
        rw [← hl.symm, List.getElem?_append_right (by omega), show σ.length + rs.length - σ.length = ys.length by omega, List.getElem?_append_right (by omega), Nat.sub_self] at e1
        simpa using e1.symm
      subst ew
      refine ⟨ρ, ys ++ (w :: vs).map some, rs ++ (d :: ds).map Sl.dat, .dat d, _, hl, by simpa using ok2, hg, fun σ' H' ρ' hl' hs' ok3 hP => ?_⟩
      refine ⟨ρ', ys, rs, ds, P, hl', hv', ?_, hP, fun σ2 H2 ρ2 a b => q σ2 H2 ρ2 a (b.trans hs')⟩
      have := Ok.mid (xs := σ' ++ ys) (ρ := ρ' ++ rs) (ys := [some w]) (rs := [.dat d]) (zs := vs.map some) (qs := ds.map Sl.dat) (by simpa using ok3) (by simp [hl', hy]) rfl
      simpa using this
def gTupD (n : Nat) (gs : FGs) : FG := fun r ρ P => r.tup fun ds => ds.length = n ∧ gs (ds.map Sl.dat) ρ P
theorem g_tup {es : List Expr} {k n : Nat} {gs : FGs} (hK : B.K = X.K) (hc : X.calm = true) (h : PGs X es (tDGs B gs)) (hn : (assignEach es X.env).length = n := by rfl) (hst : (assignEach es X.env).findIdx? (·.1) = none := by rfl) : PG X (.Tuple es k pos) (tDG B (gTupD n gs)) := by
  refine pg_w (pg_tup hc h hn hst) fun v σ H Q h => ?_
  obtain ⟨ρ, ys, rs, r, P, hl, ok, hg, q⟩ := h
  obtain ⟨ds, rfl, hn', hg⟩ := tup_cases hg
  have ok' : Ok B H ((σ ++ ys) ++ [some v]) ((ρ ++ rs) ++ [.dat (.tuple ds)]) := by simpa using ok
  have hl2 : (σ ++ ys).length = (ρ ++ rs).length := by
    have := ok'.len
    simp only [List.length_append, List.length_cons, List.length_nil] at this ⊢
    omega
  obtain ⟨G, ad, o⟩ := ok'
  obtain ⟨a, vs, g1, g2, g3⟩ := o.tupT (i := (ρ ++ rs).length) get_last
  rw [← hl2, get_last] at g1
  cases g1
  obtain ⟨ad', o2⟩ := OkG.pushAll o g3
  rw [hK] at g2
  refine ⟨a, vs, rfl, g2, by rw [g3.len]; exact hn', ρ, ys, rs, ds, P, hl, g3.len, ?_, hg, q⟩
  have := Ok.mid (xs := σ ++ ys) (ρ := ρ ++ rs) (ys := [some (.ref a)]) (rs := [.dat (.tuple ds)]) ⟨G, ad', o2⟩ hl2 rfl
  simpa using this
def fAsg (F : FE) (g : FG) : FST := fun δ ρ => F ρ fun r => g r ρ δ.nx
theorem le_asg {g : FG} : ∀ D σ H, tDS B (fAsg F g) D σ H → tAsg (tD B F) (tDG B g) D σ H := by
  intro D σ H ⟨ρ, ys, rs, δ, hl, ok, hF, q1, q2, q3, q4⟩
  exact ⟨ρ, ys, rs, _, hl, ok, hF, fun v H1 r ok1 hr => ⟨ρ, ys, rs, r, _, hl, ok1, hr, q1⟩⟩
theorem s_asg {tg : Expr} {g : FG} (he : PE X e (tD B F)) (hg : PG X tg (tDG B g)) (hs : swapsWithSole [tg] e pos.line X.env = pure false := by rfl) (hw : swappedStores [tg] e X.env = pure none := by rfl)
    (h1 : (assignEach [tg] X.env).map (·.2) = [assign tg X.env] := by rfl) : PS X (.Assign [tg] e pos) (tDS B (fAsg F g)) := ps_w (ps_asg he hg hs hw h1) le_asg
theorem s_set {x : Str} {pos' : Pos} (i : Nat) (hN : X.N.Nodup) (he : PE X e (tD B F)) (hi : X.N[i]? = some x := by rfl) (hx : Loc X.env.scope x := by first | exact Or.inl rfl | exact Or.inr rfl) (hs : swapsWith e (some (.Name x pos')) pos.line X.env = pure false := by rfl)
    (hf : X.fn x = true ∨ X.env.scope.names.lookup x = some .local := by first | exact .inl rfl | exact .inr rfl | assumption) : PS X (.Assign [.Name x pos'] e pos) (tDS B (fAsg F (gSlot i))) := by
  refine ps_w (ps_set hN hi hx he hs hf) fun D σ H h => ?_
  obtain ⟨ρ, ys, rs, δ, hl, ok, hF, q1, q2, q3, q4⟩ := h
  exact ⟨ρ, ys, rs, _, hl, ok, hF, fun v H1 r ok1 hr => q1 _ H1 _ (by simp [hl]) (by simp) (ok1.store hl) hr⟩
/-- a, b = x, y -/
def fParK (i j : Nat) (ρ : List Sl) (qs : List Sl) (PR : List Sl → Prop) : Prop := match qs with
  | [a, b] => PR ((ρ.set i a).set j b)
  | _ => False
def fPar (i j : Nat) (R : FA) : FST := fun δ ρ => R ρ fun qs => fParK i j ρ qs δ.nx
theorem s_par {a b : Expr} {R : FA} {x y : Str} {px py pt : Pos} {kt k2 pt2} (i j : Nat) (hN : X.N.Nodup) (ha : PA X [a, b] (tDA B R)) (hc : X.calm = true := by rfl) (hi : X.N[i]? = some x := by rfl) (hj : X.N[j]? = some y := by rfl) (hij : i ≠ j := by decide)
    (hx : X.env.scope.names.lookup x = some .local := by rfl) (hy : X.env.scope.names.lookup y = some .local := by rfl)
    (hw : swappedStores [.Tuple [.Name x px, .Name y py] kt pt] (.Tuple [a, b] k2 pt2) X.env = pure (some [x, y]) := by rfl)
    (hs : swapsWithSole [.Tuple [.Name x px, .Name y py] kt pt] (.Tuple [a, b] k2 pt2) pos.line X.env = pure false := by rfl) :
    PS X (.Assign [.Tuple [.Name x px, .Name y py] kt pt] (.Tuple [a, b] k2 pt2) pos) (tDS B (fPar i j R)) := by
  refine ps_w (ps_par hc hN hi hj hij hx hy ha hw hs) fun D σ H h => ?_
  obtain ⟨ρ, ys, rs, δ, hl, ok, hF, q1, q2, q3, q4⟩ := h
  refine ⟨ρ, ys, rs, _, hl, ok, hF, fun vs H1 qs hv ok1 hP => ?_⟩
  unfold fParK at hP
  split at hP
  · rename_i a b
    obtain ⟨v, w, rfl⟩ := two_len hv
    refine ⟨v, w, rfl, ?_⟩
    -- the second, then the first
    have ok2 : Ok B H1 (σ ++ (ys ++ [some w, some v])) (ρ ++ (rs ++ [b, a])) := by
      have := Ok.swap (xs := σ ++ ys) (ρ := ρ ++ rs) (v := some v) (w := some w) (r := a) (s := b) (by simpa using ok1) ok.len
      simpa using this
    have ok3 := Ok.store (σ := σ) (ρ := ρ) (ys := ys ++ [some w]) (rs := rs ++ [b]) (v := v) (r := a) (i := i) (by simpa using ok2) hl
    have ok4 := Ok.store (σ := σ.set i (some v)) (ρ := ρ.set i a) (ys := ys) (rs := rs) (v := w) (r := b) (i := j) (by simpa using ok3) (by simp [hl])
    exact q1 _ H1 _ (by simp [hl]) (by simp) ok4 hP
  · exact hP.elim
/-- many -= 1 -/
def fAugI (i : Nat) (g : Int → Int → Int) (F : FE) : FST := fun δ ρ => match ρ[i]? with
  | some (.dat (.int a)) => F ρ fun r => r.int fun b => δ.nx (ρ.set i (.dat (.int (g a b))))
  | _ => False
theorem s_aug {x : Str} {op : Operator} {g : Int → Int → Int} {pos' : Pos} (i : Nat) (hN : X.N.Nodup) (he : PE X e (tD B F)) (ho : PIp X op (ipI g)) (hi : X.N[i]? = some x := by rfl) (hx : Loc X.env.scope x := by first | exact Or.inl rfl | exact Or.inr rfl) (hf : X.fn x = true ∨ X.env.scope.names.lookup x = some .local := by first | exact .inl rfl | exact .inr rfl | assumption) :
    PS X (.AugAssign (.Name x pos') op e pos) (tDS B (fAugI i g F)) := by
  refine ps_w (ps_aug hN hi hx he ho hf) fun D σ H h => ?_
  obtain ⟨ρ, ys, rs, δ, hl, ok, hF, q1, q2, q3, q4⟩ := h
  unfold fAugI at hF
  split at hF
  · rename_i a ea
    have hi' : i < ρ.length := (List.getElem?_eq_some_iff.mp ea).1
    obtain ⟨v, e1, e2⟩ := ok.dp (i := i) (d := .int a) (by rw [List.getElem?_append_left hi']; exact ea)
    rw [List.getElem?_append_left (by omega)] at e1
    cases e2
    refine ⟨.int a, e1, ρ, ys, rs, _, hl, ok, hF, fun v H1 r ok1 hr => ?_⟩
    obtain ⟨b, rfl, hr⟩ := int_cases hr
    have ok1' : Ok B H1 ((σ ++ ys) ++ [some v]) ((ρ ++ rs) ++ [.dat (.int b)]) := by simpa using ok1
    have hv := ok1'.last
    cases hv
    have ok2 := (ok1'.drop ok.len).flat (v := .int (g a b)) (d := .int (g a b)) fun _ => .int _
    have ok3 := Ok.store (σ := σ) (ρ := ρ) (ys := ys) (rs := rs) (i := i) (v := .int (g a b)) (r := .dat (.int (g a b))) (by simpa using ok2) hl
    exact ⟨a, b, rfl, rfl, q1 _ H1 _ (by simp [hl]) (by simp) ok3 hr⟩
  · exact hF.elim

/-! ### a list of one's own changes -/
/-- x[k] = e -/
@[irreducible] def fJ (o : Option Nat) (PJ : Nat → Prop) : Prop := match o with
  | some j => PJ j
  | none => False
def fSetOK (i : Nat) (Fk : FE) (ρ : List Sl) (r : Sl) (PR : List Sl → Prop) : Prop := match r, ρ[i]? with
  | .dat d, some (.own ds) => Fk ρ fun y => y.int fun k => fJ (ixN ds.length k) fun j => PR (ρ.set i (.own (ds.set j d)))
  | _, _ => False
def fSetO (i : Nat) (Fv Fk : FE) : FST := fun δ ρ => Fv ρ fun r => fSetOK i Fk ρ r δ.nx
theorem s_setO {a : Expr} {x : Str} {px ps' : Pos} {Fk : FE} (i : Nat) (he : PE X e (tD B F)) (ha : PE X a (tD B Fk)) (hN : X.N[i]? = some x := by rfl) (hv : Vis X.env.scope x := by first | exact Or.inl rfl | exact Or.inr (Or.inl rfl) | exact Or.inr (Or.inr rfl))
    (hd : (x == ("__debug__" : Str)) = false := by decide) (hcd : (x == ("__classdict__" : Str)) = false := by decide)
    (hass : ∀ v, assign (.Subscript (.Name x px) a ps') X.env v = (do
      let ov ← holding [v] (eval (.Name x px) X.env)
      let iv ← holding [v, ov] (eval a X.env)
      standAt ps'
      holding [v, ov, iv] (setItem ov iv v)
      release [v, ov, iv] []) := by intro _; rfl)
    (hs : swapsWithSole [.Subscript (.Name x px) a ps'] e pos.line X.env = pure false := by rfl) (hw : swappedStores [.Subscript (.Name x px) a ps'] e X.env = pure none := by rfl)
    (h1 : (assignEach [.Subscript (.Name x px) a ps'] X.env).map (·.2) = [assign (.Subscript (.Name x px) a ps') X.env] := by rfl) :
    PS X (.Assign [.Subscript (.Name x px) a ps'] e pos) (tDS B (fSetO i F Fk)) := by
  refine ps_w (ps_asg he (pg_sub (pe_var hN hv hd hcd) ha set_list hass) hs hw h1) fun D σ H h => ?_
  obtain ⟨ρ, ys, rs, δ, hl, ok, hF, q1, q2, q3, q4⟩ := h
  refine ⟨ρ, ys, rs, _, hl, ok, hF, fun v H1 r ok1 hr => ?_⟩
  unfold fSetOK at hr
  split at hr
  · rename_i d ds hi
    have hi1 : i < ρ.length := (List.getElem?_eq_some_iff.mp hi).1
    have hi2 : (ρ ++ (rs ++ [Sl.dat d]))[i]? = some (.own ds) := by rw [List.getElem?_append_left hi1]; exact hi
    obtain ⟨a0, vs0, g1, _, _⟩ := ok1.seq (.inr (.inr hi2))
    rw [List.getElem?_append_left (by omega)] at g1
    refine ⟨.ref a0, g1, ρ, ys ++ [some v], rs ++ [.dat d], _, hl, ok1, hr, fun w H2 y ok2 hy => ?_⟩
    obtain ⟨k, rfl, hy2⟩ := int_cases hy
    clear hy
    unfold fJ at hy2
    split at hy2
    · rename_i j ej
      have ok2' : Ok B H2 ((σ ++ ys) ++ [some v, some w]) ((ρ ++ rs) ++ [.dat d, .dat (.int k)]) := by simpa using ok2
      obtain ⟨hx, o1, o2, o3⟩ := ok2'.two
      have hw' := o2.last
      cases hw'
      obtain ⟨G, ad, o⟩ := o1
      have hi3 : ((ρ ++ rs) ++ [Sl.dat d])[i]? = some (.own ds) := by rw [List.append_assoc]; exact hi2
      obtain ⟨f1, f2, f3, vs, f4, f5⟩ := o.own i ds hi3
      have ea : ad i = a0 := by
        rw [List.getElem?_append_left (by simp; omega), List.getElem?_append_left (by omega), g1] at f1
        cases f1; rfl
      obtain ⟨w', e1, e2⟩ := o.dat (ρ ++ rs).length d get_last
      rw [← hx, get_last] at e1
      cases e1
      have m := o.mut hi3 (ws := vs.set j v) (es := ds.set j d) (DvAll.set e2 j f5)
      rw [ea] at m f4
      refine ⟨a0, vs, k, j, rfl, rfl, f4, by rw [f5.len]; exact ej, ?_⟩
      refine q1 _ _ _ (by simp [hl]) rfl ?_ hy2
      have ok5 : Ok B (upd H2 a0 (.lst (vs.set j v))) (σ ++ ys) ((ρ.set i (.own (ds.set j d))) ++ rs) := by
        refine Ok.drop (ys := [some v]) (rs := [.dat d]) ?_ (by simp [hl, hx] at hx ⊢; try omega)
        refine ok_cast ⟨G, ad, m⟩ rfl ?_
        rw [List.append_assoc, List.append_assoc, List.set_append_left _ _ hi1]
      exact ok5
    · exact hy2.elim
  · exact hr.elim
/-- x.append(e) -/
def fAppOK (i : Nat) (ds : List PyData) (ρ : List Sl) (r : Sl) (PR : List Sl → Prop) : Prop := match r with
  | .dat d => ds.length < 1000 ∧ PR (ρ.set i (.own (ds ++ [d])))
  | _ => False
def fAppO (i : Nat) (F : FE) : FST := fun δ ρ => match ρ[i]? with
  | some (.own ds) => F ρ fun r => fAppOK i ds ρ r δ.nx
  | _ => False
theorem s_appO {x : Str} {px apos cpos : Pos} (i : Nat) (hK : B.K = X.K) (he : PE X e (tD B F)) (hN : X.N[i]? = some x := by rfl) (hv : Vis X.env.scope x := by first | exact Or.inl rfl | exact Or.inr (Or.inl rfl) | exact Or.inr (Or.inr rfl))
    (hd : (x == ("__debug__" : Str)) = false := by decide) (hcd : (x == ("__classdict__" : Str)) = false := by decide)
    (hst : starEach [e] X.env = (false, eval e X.env) :: starEach [] X.env := by rfl)
    (hbase : attributeBase (.Name x px) "append" X.env (eval (.Name x px) X.env) = eval (.Name x px) X.env := by rfl)
    (hfew : ((backTo cpos (starEach [e] X.env)).all (fun x => !x.1) && (backToKw cpos (keywordEach [] X.env)).all (fun x => x.1.isSome)
      && decide ([e].length + ([] : List Keyword).length + (if ([] : List Keyword).isEmpty then 0 else 1) < 30)) = true := by rfl)
    (hline : (apos.endLine == cpos.line) = true := by rfl)
    (hsw : swapsWith (.Call (.Attribute (.Name x px) "append" apos) [e] [] cpos) none pos.line X.env = pure false := by rfl) :
    PS X (.Expr (.Call (.Attribute (.Name x px) "append" apos) [e] [] cpos) pos) (tDS B (fAppO i F)) := by
  refine ps_w (ps_expr (pe_bm PySem.F.plainAttrs_list PySem.F.slot_list_append PySem.F.type_list_append mt_append (pe_var hN hv hd hcd) (pa_cons he pa_nil hst) hbase hfew hline hst) hsw) fun D σ H h => ?_
  obtain ⟨ρ, ys, rs, δ, hl, ok, hF, q1, q2, q3, q4⟩ := h
  unfold fAppO at hF
  split at hF
  · rename_i ds hi
    have hi1 : i < ρ.length := (List.getElem?_eq_some_iff.mp hi).1
    have hi2 : (ρ ++ rs)[i]? = some (.own ds) := by rw [List.getElem?_append_left hi1]; exact hi
    obtain ⟨G0, ad0, o0⟩ := id ok
    obtain ⟨a1, _, _, vs0, a4, _⟩ := o0.own i ds hi2
    rw [List.getElem?_append_left (by omega)] at a1
    refine ⟨.ref (ad0 i), a1, .inl ⟨rfl, vs0, SqL.of a4⟩, ρ, ys, rs, _, hl, ok, hF, fun v H1 r ok1 hr => ?_⟩
    unfold fAppOK at hr
    split at hr
    · rename_i d
      have ok1' : Ok B H1 ((σ ++ ys) ++ [some v]) ((ρ ++ rs) ++ [.dat d]) := by simpa using ok1
      obtain ⟨G, ad, o⟩ := ok1'
      have hi3 : ((ρ ++ rs) ++ [Sl.dat d])[i]? = some (.own ds) := by rw [List.getElem?_append_left (by simp; omega)]; exact hi2
      obtain ⟨f1, f2, f3, vs, f4, f5⟩ := o.own i ds hi3
      have ea : ad i = ad0 i := by
        rw [List.getElem?_append_left (by simp; omega), List.getElem?_append_left (by omega), a1] at f1
        exact (V.ref.inj (Option.some.inj (Option.some.inj f1))).symm
      have hx : (σ ++ ys).length = (ρ ++ rs).length := ok.len
      obtain ⟨w', e1, e2⟩ := o.dat (ρ ++ rs).length d get_last
      rw [← hx, get_last] at e1
      cases e1
      have m := o.mut hi3 (ws := vs ++ [v]) (es := ds ++ [d]) (f5.append (.cons e2 .nil))
      rw [ea] at m f4
      refine ⟨ad0 i, vs, v, rfl, rfl, f4, by rw [f5.len]; exact Nat.lt_of_lt_of_le hr.1 (by decide), ?_⟩
      refine q1 σ _ _ (by simp [hl]) rfl ?_ hr.2
      refine Ok.drop (ys := [some v]) (rs := [.dat d]) ?_ (by simp [hl] at hx ⊢; omega)
      refine ok_cast ⟨G, ad, m⟩ rfl ?_
      rw [List.append_assoc, List.append_assoc, List.set_append_left _ _ hi1]
    · exact hr.elim
  · exact hF.elim
/-- x.pop() -/
def fPopO (i : Nat) : FST := fun δ ρ => match ρ[i]? with
  | some (.own ds) => ds ≠ [] ∧ δ.nx (ρ.set i (.own ds.dropLast))
  | _ => False
theorem s_popO {x : Str} {px apos cpos : Pos} (i : Nat) (hK : B.K = X.K) (hN : X.N[i]? = some x := by rfl) (hv : Vis X.env.scope x := by first | exact Or.inl rfl | exact Or.inr (Or.inl rfl) | exact Or.inr (Or.inr rfl))
    (hd : (x == ("__debug__" : Str)) = false := by decide) (hcd : (x == ("__classdict__" : Str)) = false := by decide)
    (hbase : attributeBase (.Name x px) "pop" X.env (eval (.Name x px) X.env) = eval (.Name x px) X.env := by rfl)
    (hline : (apos.endLine == cpos.line) = true := by rfl)
    (hsw : swapsWith (.Call (.Attribute (.Name x px) "pop" apos) [] [] cpos) none pos.line X.env = pure false := by rfl) :
    PS X (.Expr (.Call (.Attribute (.Name x px) "pop" apos) [] [] cpos) pos) (tDS B (fPopO i)) := by
  refine ps_w (ps_expr (pe_bm0 PySem.F.plainAttrs_list PySem.F.slot_list_pop PySem.F.type_list_pop mt_pop (pe_var hN hv hd hcd) hbase hline) hsw) fun D σ H h => ?_
  obtain ⟨ρ, ys, rs, δ, hl, ok, hF, q1, q2, q3, q4⟩ := h
  unfold fPopO at hF
  split at hF
  · rename_i ds hi
    have hi1 : i < ρ.length := (List.getElem?_eq_some_iff.mp hi).1
    have hi2 : (ρ ++ rs)[i]? = some (.own ds) := by rw [List.getElem?_append_left hi1]; exact hi
    obtain ⟨G, ad, o⟩ := ok
    obtain ⟨a1, a2, a3, vs, a4, a5⟩ := o.own i ds hi2
    rw [List.getElem?_append_left (by omega)] at a1
    have hne : 0 < vs.length := by rw [a5.len]; exact List.length_pos_iff.mpr hF.1
    have m := o.mut hi2 (ws := vs.dropLast) (es := ds.dropLast) a5.dropLast
    refine ⟨.ref (ad i), a1, .inl ⟨rfl, vs, SqL.of a4⟩, ad i, vs, vs[vs.length - 1], rfl, rfl, a4, by rw [List.getElem?_eq_getElem (by omega)], ?_⟩
    refine q1 σ _ _ (by simp [hl]) rfl ?_ hF.2
    refine ok_cast ⟨G, ad, m⟩ rfl ?_
    rw [List.set_append_left _ _ hi1]
  · exact hF.elim
end
end DL
/-! DL5: loops, comprehensions, a def's body. -/
namespace DL
open PySem PySem.Spec PyProof.Rows L2

/-! ### what is walked -/
/-- an iterator that draws the data ds, as long as the pending value z stands -/
def ItD (B : Bs) (J : It) (ds : List PyData) (z : V) (q : Sl) : Prop := ∀ (i : Nat) (H : Hp) (xs : List (Option V)) (ρ : List Sl), Ok B H xs ρ → (∃ k : Nat, xs[k]? = some (some z) ∧ ρ[k]? = some q) →
  (i < ds.length → J.go i H) ∧ (i = ds.length → J.stop i H) ∧ ∀ x H' d, J.yld i H x H' → ds[i]? = some d → Ok B H' (xs ++ [some x]) (ρ ++ [.dat d])
abbrev FI := List Sl → (List PyData → Prop) → Prop
def tDI (B : Bs) (F : FI) : TI := fun σ H R => ∃ (ρ : List Sl) (ys : List (Option V)) (rs : List Sl) (P : List PyData → Prop), ρ.length = σ.length ∧ Ok B H (σ ++ ys) (ρ ++ rs) ∧ F ρ P ∧
  ∀ ds H' z q J, Ok B H' (σ ++ (ys ++ [some z])) (ρ ++ (rs ++ [q])) → ItD B J ds z q → P ds → R J H'
section
variable {X : Cx} {B : Bs} {tg e : Expr} {es : List Expr} {F : FE} {R : FA} {p pos : Pos}
theorem pi_w {t t' : TI} (h : PI X tg e t) (w : ∀ σ H R, t' σ H R → t σ H R) : PI X tg e t' := ⟨fun pins s σ H R I q => h.run pins s σ H R I (w σ H R q)⟩
def fItL (F : FE) : FI := fun ρ P => F ρ fun r => r.lst P
def fItT (F : FE) : FI := fun ρ P => F ρ fun r => r.tup P
theorem itd_list (hK : B.K = X.K) {a : Addr} {ds : List PyData} : ItD B (Itl X.K a) ds (.ref a) (.dat (.list ds)) := by
  intro i H xs ρ ok ⟨k, e1, e2⟩
  obtain ⟨G, ad, o⟩ := id ok
  obtain ⟨a', vs, g1, g2, g3⟩ := o.lstL (i := k) (ds := ds) (.inl e2)
  rw [e1] at g1
  cases g1
  have hl := g3.len
  refine ⟨fun hi => ⟨vs, vs[i], .inl g2, List.getElem?_eq_getElem (by omega)⟩, fun hi => ⟨vs, .inl g2, by omega⟩, fun x H' d hy hd => ?_⟩
  obtain ⟨e, hx⟩ := hy
  subst e
  have hx1 := hx vs (.inl g2)
  obtain ⟨w, k1, k2⟩ := g3.get hd
  rw [hx1] at k1
  cases k1
  exact ⟨G, _, o.push 0 (Same.refl _) (fun a q1 q2 => absurd q2 q1) o.gh (fun _ _ e _ => e) (fun p hp => ⟨(o.pail p hp).1, (o.pail p hp).2.2⟩)
      (fun d' e => by cases e; exact ⟨x, rfl, k2⟩) (fun ds e => nomatch e) (fun e => nomatch e)⟩
theorem itd_tup (hK : B.K = X.K) {a : Addr} {ds : List PyData} : ItD B (Itt X.K a) ds (.ref a) (.dat (.tuple ds)) := by
  intro i H xs ρ ok ⟨k, e1, e2⟩
  obtain ⟨G, ad, o⟩ := id ok
  obtain ⟨a', vs, g1, g2, g3⟩ := o.tupT (i := k) (ds := ds) e2
  rw [e1] at g1
  cases g1
  have hl := g3.len
  rw [hK] at g2
  refine ⟨fun hi => ⟨vs, vs[i], g2, List.getElem?_eq_getElem (by omega)⟩, fun hi => ⟨vs, g2, by omega⟩, fun x H' d hy hd => ?_⟩
  obtain ⟨e, hx⟩ := hy
  subst e
  have hx1 := hx vs g2
  obtain ⟨w, k1, k2⟩ := g3.get hd
  rw [hx1] at k1
  cases k1
  exact ⟨G, _, o.push 0 (Same.refl _) (fun a q1 q2 => absurd q2 q1) o.gh (fun _ _ e _ => e) (fun p hp => ⟨(o.pail p hp).1, (o.pail p hp).2.2⟩)
      (fun d' e => by cases e; exact ⟨x, rfl, k2⟩) (fun ds e => nomatch e) (fun e => nomatch e)⟩
theorem i_list (hK : B.K = X.K) (h : PE X e (tD B F)) : PI X tg e (tDI B (fItL F)) := by
  refine pi_w (pi_list h) fun σ H Rr hh => ?_
  obtain ⟨ρ, ys, rs, P, hl, ok, hF, q⟩ := hh
  refine ⟨ρ, ys, rs, _, hl, ok, hF, fun v H1 r ok1 hP => ?_⟩
  obtain ⟨ds, rfl, hP⟩ := lst_cases hP
  obtain ⟨G, ad, o⟩ := show Ok B H1 ((σ ++ ys) ++ [some v]) ((ρ ++ rs) ++ [.dat (.list ds)]) by simpa using ok1
  obtain ⟨a, vs, g1, g2, g3⟩ := o.lstL (i := (ρ ++ rs).length) (ds := ds) (.inl get_last)
  rw [← ok.len, get_last] at g1
  cases g1
  exact ⟨a, rfl, ⟨vs, .inl g2⟩, q ds H1 (.ref a) _ _ ok1 (itd_list hK) hP⟩
theorem i_tup (hK : B.K = X.K) (h : PE X e (tD B F)) : PI X tg e (tDI B (fItT F)) := by
  refine pi_w (pi_tup h) fun σ H Rr hh => ?_
  obtain ⟨ρ, ys, rs, P, hl, ok, hF, q⟩ := hh
  refine ⟨ρ, ys, rs, _, hl, ok, hF, fun v H1 r ok1 hP => ?_⟩
  obtain ⟨ds, rfl, hP⟩ := tup_cases hP
  obtain ⟨G, ad, o⟩ := show Ok B H1 ((σ ++ ys) ++ [some v]) ((ρ ++ rs) ++ [.dat (.tuple ds)]) by simpa using ok1
  obtain ⟨a, vs, g1, g2, g3⟩ := o.tupT (i := (ρ ++ rs).length) get_last
  rw [← ok.len, get_last] at g1
  cases g1
  rw [hK] at g2
  exact ⟨a, rfl, ⟨vs, g2⟩, q ds H1 (.ref a) _ _ ok1 (itd_tup hK) hP⟩
/-- range(n) -/
def rgD (n : Nat) : List PyData := (List.range n).map fun (i : Nat) => PyData.int i
def fRg1K (qs : List Sl) (P : List PyData → Prop) : Prop := match qs with
  | [.dat (.int j)] => -1000 ≤ j ∧ j ≤ 1000 ∧ P (rgD j.toNat)
  | _ => False
def fRg1 (R : FA) : FI := fun ρ P => R ρ fun qs => fRg1K qs P
theorem rgD_len (n : Nat) : (rgD n).length = n := by simp [rgD]
theorem rgD_get {n i : Nat} {d : PyData} (h : (rgD n)[i]? = some d) : d = .int i := by
  unfold rgD at h
  rw [List.getElem?_map] at h
  cases e : (List.range n)[i]? with
  | none => rw [e] at h; cases h
  | some j =>
    rw [e] at h
    have hi := (List.getElem?_eq_some_iff.mp e)
    obtain ⟨h1, h2⟩ := hi
    rw [List.getElem_range] at h2
    subst h2
    cases h; rfl
theorem itd_range {n : Nat} {z : V} {q : Sl} : ItD B (Itr 0 n) (rgD n) z q := by
  intro i H xs ρ ok _
  refine ⟨fun h => by rw [rgD_len] at h; exact h, fun h => by rw [rgD_len] at h; show n ≤ i; omega, fun x H' d hy hd => ?_⟩
  obtain ⟨e, hx⟩ := hy
  subst e hx
  rw [rgD_get hd]
  rw [Int.zero_add]
  exact ok.flat fun _ => .int _
theorem i_range1 (hg : Gl X "range") (hm : X.mg "range" = none) (ha : PA X [e] (tDA B R)) (hs : starEach [e] X.env = [(false, eval e X.env)] := by rfl) : PI X tg (.Call (.Name "range" p) [e] [] pos) (tDI B (fRg1 R)) := by
  refine pi_w (pi_range1 hg hm ha hs) fun σ H Rr hh => ?_
  obtain ⟨ρ, ys, rs, P, hl, ok, hF, q⟩ := hh
  refine ⟨ρ, ys, rs, _, hl, ok, hF, fun vs H1 qs hv ok1 hP => ?_⟩
  unfold fRg1K at hP
  split at hP
  · rename_i j
    obtain ⟨v, rfl⟩ := one_len hv
    have ok2 : Ok B H1 ((σ ++ ys) ++ [some v]) ((ρ ++ rs) ++ [.dat (.int j)]) := by simpa using ok1
    have hd := ok2.last
    cases hd
    exact ⟨j, rfl, by omega, by omega, q _ H1 (.int j) _ _ (by simpa using ok1) itd_range hP.2.2⟩
  · exact hP.elim
/-- range(k, -1, -1) -/
def dnD (k : Int) : List PyData := (List.range (k + 1).toNat).map fun (i : Nat) => PyData.int (k - i)
def fRgDnK (qs : List Sl) (P : List PyData → Prop) : Prop := match qs with
  | [.dat (.int k), .dat (.int a), .dat (.int b)] => a = -1 ∧ b = -1 ∧ -1000 ≤ k ∧ k ≤ 1000 ∧ P (dnD k)
  | _ => False
def fRgDn (R : FA) : FI := fun ρ P => R ρ fun qs => fRgDnK qs P
theorem itd_dn {k : Int} {z : V} {q : Sl} : ItD B (Itc k (-1) (k - -1).toNat) (dnD k) z q := by
  intro i H xs ρ ok _
  have hl : (dnD k).length = (k + 1).toNat := by simp [dnD]
  have hk : (k - -1).toNat = (k + 1).toNat := by omega
  refine ⟨fun h => by rw [hl] at h; show i < (k - -1).toNat; omega, fun h => by rw [hl] at h; show (k - -1).toNat ≤ i; omega, fun x H' d hy hd => ?_⟩
  obtain ⟨e, hx⟩ := hy
  subst e hx
  have hd2 : d = .int (k + (i : Nat) * -1) := by
    unfold dnD at hd
    rw [List.getElem?_map] at hd
    cases e : (List.range (k + 1).toNat)[i]? with
    | none => rw [e] at hd; cases hd
    | some j =>
      rw [e] at hd
      obtain ⟨h1, h2⟩ := List.getElem?_eq_some_iff.mp e
      rw [List.getElem_range] at h2
      subst h2
      cases hd
      have : k - ((i : Nat) : Int) = k + ((i : Nat) : Int) * -1 := by omega
      show PyData.int (k - ((i : Nat) : Int)) = _
      rw [this]
  rw [hd2]
  exact ok.flat fun _ => .int _
theorem i_rangeDn {a b c : Expr} (hg : Gl X "range") (hm : X.mg "range" = none) (ha : PA X [a, b, c] (tDA B R))
    (hs : starEach [a, b, c] X.env = (false, eval a X.env) :: starEach [b, c] X.env := by rfl) (hpl : (backTo pos (starEach [b, c] X.env)).any (·.1) = false := by rfl) :
    PI X tg (.Call (.Name "range" p) [a, b, c] [] pos) (tDI B (fRgDn R)) := by
  refine pi_w (pi_range3 hg hm ha hs hpl) fun σ H Rr hh => ?_
  obtain ⟨ρ, ys, rs, P, hl, ok, hF, q⟩ := hh
  refine ⟨ρ, ys, rs, _, hl, ok, hF, fun vs H1 qs hv ok1 hP => ?_⟩
  unfold fRgDnK at hP
  split at hP
  · rename_i k a b
    obtain ⟨rfl, rfl, h1, h2, hP⟩ := hP
    match vs, hv with
    | [u, v, w], _ =>
      obtain ⟨G, ad, o⟩ := ok1
      have hl2 := ok.len
      have g : ∀ (j : Nat) (m : Int) (y : V), j < 3 → ([Sl.dat (.int k), .dat (.int (-1)), .dat (.int (-1))] : List Sl)[j]? = some (.dat (.int m)) → ([some u, some v, some w] : List (Option V))[j]? = some (some y) → y = .int m := fun j m y _ h1 h2 => by
        obtain ⟨x, e1, e2⟩ := o.dat ((ρ ++ rs).length + j) (.int m) (by rw [← List.append_assoc, List.getElem?_append_right (by omega), Nat.add_sub_cancel_left]; exact h1)
        rw [← List.append_assoc, ← hl2, List.getElem?_append_right (by omega), Nat.add_sub_cancel_left] at e1
        have e3 : some (some y) = some (some x) := h2.symm.trans e1
        cases e3
        cases e2; rfl
      have eu := g 0 k u (by decide) rfl rfl
      have ev := g 1 (-1) v (by decide) rfl rfl
      have ew := g 2 (-1) w (by decide) rfl rfl
      subst eu ev ew
      have ok2 : Ok B H1 (σ ++ ys) (ρ ++ rs) := Ok.drop (ys := [some (.int k), some (.int (-1)), some (.int (-1))]) (rs := [.dat (.int k), .dat (.int (-1)), .dat (.int (-1))]) (ok_cast (B := B) (H := H1) ⟨G, ad, o⟩ (by simp) (by simp)) ok.len
      have ok3 := ok2.flat (v := .non) (d := .none) fun _ => .non
      exact ⟨k, -1, -1, (k - -1).toNat, rfl, RgC.neg (by omega) (by omega) (by decide) (by decide), q _ H1 .non (.dat .none) _ (by simpa using ok3) itd_dn hP⟩
  · exact hP.elim
end

/-! ### enumerate of a tuple -/
def IteT (K : PySem.W.Frag) (a : Addr) : It :=
  ⟨fun i H => ∃ (xs : List V) (x : V), SqT K H a xs ∧ xs[i]? = some x, fun i H v H' => ∃ T x, v = .ref T ∧ H T = none ∧ H' = upd H T (.tup [.int (i : Nat), x]) ∧ ∀ xs, SqT K H a xs → xs[i]? = some x, fun i H => ∃ xs : List V, SqT K H a xs ∧ xs.length = i⟩
theorem sqT_ne {X : Cx} {pins : List (Addr × Obj)} {σ : L2.St} {H : Hp} {s : Shared} {a it : Addr} {i : Nat} {xs : List V} (I : Inv X pins σ H s) (h : SqT X.K H a xs) (hit : s.heap.IsTupleIter it a i) : a ≠ it := by
  obtain ⟨its, r, ⟨o, e, c, _⟩, _⟩ := I.tuple h
  obtain ⟨o', e', c', _⟩ := hit
  intro z
  subst z
  rw [e] at e'
  cases e'
  rw [c] at c'
  exact absurd c' (by decide)
theorem turn_enumT {P : Program} {w : World} {K : PySem.W.Frag} {elts : List Expr} {kk : Nat} {tpos : Pos} (a e it : Addr) :
    Turn P w K (.Tuple elts kk tpos) (IteT K a) [e, it] e (fun i h => (∃ old, IsEnum h e it ((i : Nat) : Int) old) ∧ h.IsTupleIter it a i ∧ e ≠ it) where
  mem := by simp
  obj := fun i h st b hb => by
    obtain ⟨⟨old, he⟩, ⟨o, ho, hc, hd⟩, _⟩ := st
    have e' : b = e ∨ b = it := by simpa using hb
    rcases e' with z | z
    · rw [z]; exact ⟨_, he, fun v q => nomatch q⟩
    · rw [z]; exact ⟨o, ho, fun v q => by rw [hd] at q; cases q⟩
  keep := fun i h h' st k => let ⟨⟨old, he⟩, hi, hne⟩ := st; ⟨⟨old, k e (by simp) _ he⟩, hi.at fun o q => k it (by simp) o q, hne⟩
  item := by
    intro X hP hw hK hc i pins s σ H E I hf st hg
    subst hP hw hK
    obtain ⟨⟨old, he⟩, hit, hne⟩ := st
    obtain ⟨xs, x, hq, hx⟩ := hg
    have hta := sqT_ne I hq hit
    obtain ⟨its, rv, p, hz⟩ := I.tuple hq
    obtain ⟨u, hu, ru⟩ := rv.get hx
    have hel : e < s.heap.objs.size := Heap.lt_size he
    have hil : it < s.heap.objs.size := by obtain ⟨_, q, _⟩ := hit; exact Heap.lt_size q
    have hea : e ≠ a := by
      obtain ⟨o, e1, c, _⟩ := id p
      intro z
      subst z
      have he' : s.heap.get? e = some _ := he
      rw [e1] at he'
      cases he'
      exact absurd (show Value.type "enumerate" = Value.type "tuple" from c) (by decide)
    have D : Draws X.prog X.w X.A.in1 it [it, a] its.toArray.size (fun i v => its.toArray[i]? = some v) (fun i h => h.IsTupleIter it a i ∧ h.IsTuple a its.toArray) := Draws.tuple (A := X.A.in1) (I.ok.hd hc) it a hta its.toArray
    have hlt : i < its.toArray.size := by
      have := (List.getElem?_eq_some_iff.mp hu).1
      simpa using this
    have hef : e ∉ [it, a] := by
      intro hm
      rcases List.mem_cons.mp hm with z | hm
      · exact hne z
      · exact hea (List.mem_singleton.mp hm)
    refine wpAny_pyNext_enum_itemC D he ⟨hit, p⟩ hlt hne hef fun y h' tk hy ho st' hT hsz hk => ?_
    have ey : y = u := by
      have hy' : its.toArray[i]? = some y := hy
      rw [show its.toArray[i]? = its[i]? by simp, hu] at hy'
      exact (Option.some.inj hy').symm
    subst ey
    refine ⟨_, rfl, wpAny_letOwnedTupleGo_enum (s := { s with heap := h', toks := tk + 1 }) ho fun h'' he' sb => ?_⟩
    have hT2 : h''.get? s.heap.objs.size = some { cls := .type "tuple", data := .seq #[.int i tk, y] } := (sb.2 _ (Nat.ne_of_gt hel)).trans hT
    have new : ObjOk X.prog X.w (upd H s.heap.objs.size (.tup [.int (i : Nat), x])) h'' s.heap.objs.size (.tup [.int (i : Nat), x]) :=
      ⟨by show 2 ≤ sizeLine; decide, [.int i tk, y], .cons ⟨_, rfl⟩ (.cons ru .nil), ⟨_, hT2, rfl, _, rfl⟩⟩
    have I1 : Inv X pins σ (upd H s.heap.objs.size (.tup [.int (i : Nat), x])) { s with heap := h'', toks := tk + 1 } :=
      I.turnedNew (ch := [e, it]) (fun b ob hb q => (sb.2 b (fun z => hb (by simp [z]))).trans (hk b ob (fun z => hb (by simp [z])) (fun z => hb (by simp [z])) q)) hf (Nat.le_refl _) new
    refine ⟨.ref s.heap.objs.size, _, I1, rfl, ⟨_, x, rfl, I.hok.fresh (Nat.le_refl _), rfl, fun ys hy => by rw [I.tuple_inj hy hq]; exact hx⟩, ⟨⟨y, ?_⟩, st'.1.at fun o q => (sb.2 it (Ne.symm hne)).trans q, hne⟩, fun b hb => ?_⟩
    · have e1 : ((i + 1 : Nat) : Int) = (i : Int) + 1 := by omega
      rw [e1]; exact he'
    · have hb' : b < s.heap.objs.size := by
        have e' : b = e ∨ b = it := by simpa using hb
        rcases e' with z | z
        · rw [z]; exact hel
        · rw [z]; exact hil
      rw [upd_ne (Nat.ne_of_lt hb')]
      exact (hf b hb).1
  done := by
    intro X hP hw hK hc i pins s σ H E I hf st hg
    subst hP hw hK
    obtain ⟨⟨old, he⟩, hit, hne⟩ := st
    obtain ⟨xs, hq, hx⟩ := hg
    have hta := sqT_ne I hq hit
    obtain ⟨its, rv, p, hz⟩ := I.tuple hq
    obtain ⟨f0, f1, f2, f3, f4, f5⟩ := hf it (by simp)
    have hl := rv.length
    -- the tuple iterator stands at the end
    have D : Draws X.prog X.w X.A.in1 it [it, a] its.toArray.size (fun i v => its.toArray[i]? = some v) (fun i h => h.IsTupleIter it a i ∧ h.IsTuple a its.toArray) := Draws.tuple (A := X.A.in1) (I.ok.hd hc) it a hta its.toArray
    have hn : its.toArray.size = i := by rw [List.size_toArray, ← hl, hx]
    exact wpAny_pyNext_enum_endD D he (by rw [hn]; exact ⟨hit, p⟩) fun h' eb => ⟨rfl, I.turned (t' := s.toks) (fun b o hb q => eb b o hb q) f0 f1 f3 f4 f5⟩
  self := fun A i s Q E st h => let ⟨⟨_, he⟩, _⟩ := st; wpAny_pyIter_enum he h
open AutoSeq1 (wpAny_loadPart') in
theorem meets_enumT (l : Addr) (items : Array Value) :
    Meets (Builtin.«enumerate.__new__» ⟨[.type "enumerate", .ref l], []⟩) (fun _ R s => s.heap.IsTuple l items ∧
      R (.ok (.ret (.ref (s.heap.push { cls := .type "tuple_iterator", data := .fields #[.ref l, .int 0 0] }).objs.size)))
        { s with heap := (s.heap.push { cls := .type "tuple_iterator", data := .fields #[.ref l, .int 0 0] }).push { cls := .type "enumerate", data := .fields #[.none, .bool false, .ref s.heap.objs.size, rawInt 0, .none, .none] } }) :=
  .of_wp fun prog w A R s h => by
    obtain ⟨hp, g, d, tk, os⟩ := s; obtain ⟨hL, h⟩ := h
    have hsub := sub_enumerate
    have q1 : ∀ {A' : Around} {E : Value → Shared → Prop} {Q : Value → Shared → Prop}, Q (.ref hp.objs.size) ⟨hp.push { cls := .type "tuple_iterator", data := .fields #[.ref l, .int 0 0] }, g, d, tk, os⟩ → wpAny (model prog w) A' (pyIter (.ref l)) Q E ⟨hp, g, d, tk, os⟩ :=
      fun q => (begins_tuple l items).iter prog w _ _ ⟨hp, g, d, tk, os⟩ _ hL q
    wp_walk using q1
    refine wpAny_stack_any fun st => wpAny_pure ?_
    split
    · rename_i c _ _ _ _ _
      cases (c == Value.type "enumerate")
      · wp_walk using q1
        exact ⟨_, rfl, h⟩
      · wp_walk using q1
        exact ⟨_, rfl, h⟩
    · wp_walk using q1
      exact ⟨_, rfl, h⟩
theorem enum1_tuple {prog : Program} {w : World} {A : Around} {E : Value → Shared → Prop} {s : Shared} {l : Addr} {items : Array Value} {Q : Value → Shared → Prop} (hL : s.heap.IsTuple l items)
    (h : ∀ h', IsEnum h' (s.heap.objs.size + 1) s.heap.objs.size 0 .none → h'.IsTupleIter s.heap.objs.size l 0 → h'.objs.size = s.heap.objs.size + 2 →
      (∀ b o, s.heap.get? b = some o → h'.get? b = some o) → Q (.ref (s.heap.objs.size + 1)) { s with heap := h' }) :
    wpAny (model prog w) A (call (.type "enumerate") [.ref l]) Q E s := by
  refine callType_new F.called_enumerate (by decide) (F.typeCall_enumerate_1 _) (F.newCall_enumerate_1 _) (fun obj => F.args_object_init_2 obj _) F.entry_enumerate_new
    (meets_enumT l items) ⟨hL, ?_⟩
  have hz : (s.heap.push { cls := .type "tuple_iterator", data := .fields #[.ref l, .int 0 0] }).objs.size = s.heap.objs.size + 1 := Heap.size_push ..
  show _ ∧ _
  rw [hz]
  have he : IsEnum ((s.heap.push { cls := .type "tuple_iterator", data := .fields #[.ref l, .int 0 0] }).push
      { cls := .type "enumerate", data := .fields #[.none, .bool false, .ref s.heap.objs.size, rawInt 0, .none, .none] }) (s.heap.objs.size + 1) s.heap.objs.size 0 .none := by
    have := Heap.get?_push_size (s.heap.push { cls := .type "tuple_iterator", data := .fields #[.ref l, .int 0 0] })
      (o := { cls := .type "enumerate", data := .fields #[.none, .bool false, .ref s.heap.objs.size, rawInt 0, .none, .none] }) rfl
    rw [hz] at this; exact this
  refine ⟨⟨_, he, rfl⟩, h _ he ⟨_, Heap.get?_push_of_some _ (Heap.get?_push_size _ rfl), rfl, rfl⟩ (by rw [Heap.size_push, hz]) fun b o x => Heap.get?_push_of_some _ (Heap.get?_push_of_some _ x)⟩
def iEnumT (K : PySem.W.Frag) (ta : TA) : TI := fun σ H R => ta σ H fun vs H1 => ∃ a xs, vs = [.ref a] ∧ SqT K H1 a xs ∧ R (IteT K a) H1
theorem pi_enumT {X : Cx} {e : Expr} {ta : TA} {p pos tpos : Pos} {elts : List Expr} {kk : Nat} (hg : Gl X "enumerate") (hm : X.mg "enumerate" = none) (ha : PA X [e] ta) (hs : starEach [e] X.env = [(false, eval e X.env)] := by rfl) :
    PI X (.Tuple elts kk tpos) (.Call (.Name "enumerate" p) [e] [] pos) (iEnumT X.K ta) := by
  refine ⟨fun pins s σ H R I h => ?_⟩
  refine Call_ (ld_blt I hg hm boot_enumerate (PyProof.Rows.callWith_type1 (thn (ha.run pos pins s σ H _ I h) fun us s1 ⟨vs, H1, I1, r1, q1⟩ => ?_) hs rfl))
  obtain ⟨a, xs, ex, hq, q⟩ := q1
  subst ex
  cases r1 with
  | cons r rr =>
    cases rr
    cases r
    obtain ⟨its, rv, p', hz⟩ := I1.tuple hq
    refine enum1_tuple p' fun h' he hit hsz hk => wpAny_pyIter_enum he ?_
    have I2 : Inv X pins σ H1 { s1 with heap := h' } := I1.kept (t' := s1.toks) hk
    refine ⟨s1.heap.objs.size + 1, [s1.heap.objs.size + 1, s1.heap.objs.size], _, _, H1, rfl, I2, turn_enumT a (s1.heap.objs.size + 1) s1.heap.objs.size, ⟨⟨.none, he⟩, hit, Nat.succ_ne_self _⟩, fun b hb => ?_, q⟩
    have e' : b = s1.heap.objs.size + 1 ∨ b = s1.heap.objs.size := by simpa using hb
    have hle : s1.heap.objs.size ≤ b := by
      rcases e' with z | z
      · rw [z]; exact Nat.le_add_right _ _
      · rw [z]; exact Nat.le_refl _
    exact I1.fpOk hle (I1.hok.fresh hle)
end DL
/-! DL6: loops, comprehensions, a def's body. -/
namespace DL
open PySem PySem.Spec PyProof.Rows L2
section
variable {X : Cx} {B : Bs} {tg e : Expr} {es : List Expr} {F : FE} {R : FA} {p pos : Pos}
/-- enumerate(t), t a tuple -/
def enD : Nat → List PyData → List PyData
  | _, [] => []
  | k, d :: ds => .tuple [.int k, d] :: enD (k + 1) ds
theorem enD_len : ∀ (k : Nat) (ds : List PyData), (enD k ds).length = ds.length
  | _, [] => rfl
  | k, _ :: ds => by rw [enD, List.length_cons, enD_len (k + 1) ds, List.length_cons]
theorem enD_get : ∀ (k : Nat) (ds : List PyData) (i : Nat) (d : PyData), (enD k ds)[i]? = some d → ∃ x, ds[i]? = some x ∧ d = .tuple [.int ((k + i : Nat) : Int), x]
  | _, [], _, _, h => by simp [enD] at h
  | k, x :: ds, 0, d, h => by
    simp [enD] at h
    exact ⟨x, rfl, by rw [← h]; simp⟩
  | k, x :: ds, i + 1, d, h => by
    have h' : (enD (k + 1) ds)[i]? = some d := by simpa [enD] using h
    obtain ⟨y, h1, h2⟩ := enD_get (k + 1) ds i d h'
    exact ⟨y, by simpa using h1, by rw [h2, show k + 1 + i = k + (i + 1) by omega]⟩
def fEnumK (qs : List Sl) (P : List PyData → Prop) : Prop := match qs with
  | [.dat (.tuple ds)] => P (enD 0 ds)
  | _ => False
def fEnum (R : FA) : FI := fun ρ P => R ρ fun qs => fEnumK qs P
theorem itd_enumT (hK : B.K = X.K) {a : Addr} {ds : List PyData} : ItD B (IteT X.K a) (enD 0 ds) (.ref a) (.dat (.tuple ds)) := by
  intro i H xs ρ ok ⟨k, e1, e2⟩
  obtain ⟨G, ad, o⟩ := id ok
  obtain ⟨a', vs, g1, g2, g3⟩ := o.tupT (i := k) (ds := ds) e2
  rw [e1] at g1
  cases g1
  have hl := g3.len
  rw [hK] at g2
  refine ⟨fun hi => ⟨vs, vs[i]'(by rw [enD_len] at hi; omega), g2, List.getElem?_eq_getElem _⟩, fun hi => ⟨vs, g2, by rw [enD_len] at hi; omega⟩, fun x H' d hy hd => ?_⟩
  obtain ⟨T, x', rfl, hn, rfl, hx⟩ := hy
  have hx1 := hx vs g2
  obtain ⟨y, hd1, rfl⟩ := enD_get 0 ds i d hd
  obtain ⟨w, k1, k2⟩ := g3.get hd1
  rw [hx1] at k1
  cases k1
  rw [Nat.zero_add]
  exact o.newT (.cons (.int _) (.cons k2 .nil)) hn
theorem i_enumT {elts : List Expr} {kk : Nat} {tpos : Pos} (hK : B.K = X.K) (hg : Gl X "enumerate") (hm : X.mg "enumerate" = none) (ha : PA X [e] (tDA B R)) (hs : starEach [e] X.env = [(false, eval e X.env)] := by rfl) :
    PI X (.Tuple elts kk tpos) (.Call (.Name "enumerate" p) [e] [] pos) (tDI B (fEnum R)) := by
  refine pi_w (pi_enumT hg hm ha hs) fun σ H Rr hh => ?_
  obtain ⟨ρ, ys, rs, P, hl, ok, hF, q⟩ := hh
  refine ⟨ρ, ys, rs, _, hl, ok, hF, fun vs H1 qs hv ok1 hP => ?_⟩
  unfold fEnumK at hP
  split at hP
  · rename_i ds
    obtain ⟨v, rfl⟩ := one_len hv
    obtain ⟨G, ad, o⟩ := show Ok B H1 ((σ ++ ys) ++ [some v]) ((ρ ++ rs) ++ [.dat (.tuple ds)]) by simpa using ok1
    obtain ⟨a, vs, g1, g2, g3⟩ := o.tupT (i := (ρ ++ rs).length) (ds := ds) get_last
    rw [← ok.len, get_last] at g1
    cases g1
    rw [hK] at g2
    exact ⟨a, vs, rfl, g2, q _ H1 (.ref a) _ _ (by simpa using ok1) (itd_enumT hK) hP⟩
  · exact hP.elim

/-! ### for -/
def forRun (g : FG) (S : FST) (δ : DEnd) : List PyData → List Sl → Prop
  | [], ρ => δ.nx ρ
  | d :: ds, ρ => g (.dat d) ρ fun ρ' => S { nx := forRun g S δ ds, rt := δ.rt, bk := δ.nx, ct := forRun g S δ ds } ρ'
def fFor (I : FI) (g : FG) (S : FST) : FST := fun δ ρ => I ρ fun ds => forRun g S δ ds ρ
theorem get_pend2 {xs ys : List (Option V)} {ρ rs : List Sl} {z : V} {q : Sl} {H : Hp} {B : Bs} (ok : Ok B H (xs ++ (ys ++ [some z])) (ρ ++ (rs ++ [q]))) (hl : ρ.length = xs.length) :
    ∃ k : Nat, (xs ++ (ys ++ [some z]))[k]? = some (some z) ∧ (ρ ++ (rs ++ [q]))[k]? = some q := by
  have h0 := ok.lens hl
  simp only [List.length_append, List.length_cons, List.length_nil] at h0
  refine ⟨(xs ++ ys).length, ?_, ?_⟩
  · rw [← List.append_assoc, get_last]
  · rw [← List.append_assoc, show (xs ++ ys).length = (ρ ++ rs).length by simp [hl]; omega, get_last]
theorem s_for {iter : Expr} {body : List Stmt} {I : FI} {g : FG} {S : FST} (hi : PI X tg iter (tDI B I)) (hg : PG X tg (tDG B g)) (hb : PSs X body (tDS B S)) (hp : PassesOwn (model X.prog X.w) X.A X.env X.xe := by exact PassesOwn.never) (hc : X.calm = true := by rfl)
    (hs : ∀ x, foldedSetIterable iter X.env x = pure x := by intro _; rfl) : PS X (.For tg iter body [] pos) (tDS B (fFor I g S)) := by
  refine ps_w (ps_for hp hc hi hg hb hs) fun D σ H h => ?_
  obtain ⟨ρ, ys, rs, δ, hl, ok, hF, q1, q2, q3, q4⟩ := h
  refine ⟨ρ, ys, rs, _, hl, ok, hF, fun ds H1 z q J ok1 hJ hP => ?_⟩
  refine ⟨fun i m σ' H' => i + m = ds.length ∧ ∃ ρ', ρ'.length = σ'.length ∧ σ'.length = σ.length ∧ Ok B H' (σ' ++ (ys ++ [some z])) (ρ' ++ (rs ++ [q])) ∧ forRun g S δ (ds.drop i) ρ', ⟨ds.length, by omega, ρ, hl, rfl, ok1, by simpa using hP⟩, ?_⟩
  rintro i m σ' H' ⟨him, ρ', hl', hs', ok', hr⟩
  obtain ⟨j1, j2, j3⟩ := hJ i H' _ _ ok' (get_pend2 ok' hl')
  by_cases hi : i < ds.length
  · refine .inr ⟨j1 hi, fun σ2 H2 => (i + 1) + (m - 1) = ds.length ∧ ∃ ρ', ρ'.length = σ2.length ∧ σ2.length = σ.length ∧ Ok B H2 (σ2 ++ (ys ++ [some z])) (ρ' ++ (rs ++ [q])) ∧ forRun g S δ (ds.drop (i + 1)) ρ', fun σ2 H2 hN => ⟨m - 1, by omega, hN⟩, fun x H2 hy => ?_⟩
    have ok2 := j3 x H2 ds[i] hy (List.getElem?_eq_getElem hi)
    rw [List.drop_eq_getElem_cons hi] at hr
    refine ⟨ρ', ys ++ [some z], rs ++ [q], .dat ds[i], _, hl', by simpa using ok2, hr, fun σ3 H3 ρ3 hl3 hs3 ok3 hS => ?_⟩
    refine ⟨ρ3, ys ++ [some z], rs ++ [q], _, hl3, ok3, hS, fun σ4 H4 ρ4 hl4 hs4 ok4 hn => ⟨by omega, ρ4, hl4, by omega, ok4, hn⟩, q2, fun σ4 H4 ρ4 hl4 hs4 ok4 hn => ?_, fun σ4 H4 ρ4 hl4 hs4 ok4 hn => ⟨by omega, ρ4, hl4, by omega, ok4, hn⟩⟩
    refine q1 σ4 H4 ρ4 hl4 (by omega) ?_ hn
    have h0 := ok4.lens hl4
    simp only [List.length_append, List.length_cons, List.length_nil] at h0
    exact Ok.drop (ys := [some z]) (rs := [q]) (by simpa using ok4) (by simp; omega)
  · have hi' : i = ds.length := by omega
    refine .inl ⟨j2 hi', ?_⟩
    rw [hi', List.drop_length] at hr
    refine q1 σ' H' ρ' hl' hs' ?_ hr
    have h0 := ok'.lens hl'
    simp only [List.length_append, List.length_cons, List.length_nil] at h0
    exact Ok.drop (ys := [some z]) (rs := [q]) (by simpa using ok') (by simp; omega)
/-- while -/
def fWhile (C : FT) (S : FST) : FST := fun δ ρ => ∃ W : Nat → List Sl → Prop, (∃ m, W m ρ) ∧ ∀ m ρ, W m ρ → C ρ fun b => fIte b (S { nx := fun ρ' => ∃ m', m' < m ∧ W m' ρ', rt := δ.rt, bk := δ.nx, ct := fun ρ' => ∃ m', m' < m ∧ W m' ρ' } ρ) (δ.nx ρ)
theorem s_while {c : Expr} {body : List Stmt} {C : FT} {S : FST} (hcc : PT X c (tDT B C)) (hb : PSs X body (tDS B S)) (hp : PassesOwn (model X.prog X.w) X.A X.env X.xe := by exact PassesOwn.never) : PS X (.While c body [] pos) (tDS B (fWhile C S)) := by
  refine ps_w (ps_while hp hcc hb) fun D σ H h => ?_
  obtain ⟨ρ, ys, rs, δ, hl, ok, ⟨W, ⟨m0, w0⟩, hF⟩, q1, q2, q3, q4⟩ := h
  refine ⟨fun m σ' H' => ∃ ρ', ρ'.length = σ'.length ∧ σ'.length = σ.length ∧ Ok B H' (σ' ++ ys) (ρ' ++ rs) ∧ W m ρ', ⟨m0, ρ, hl, rfl, ok, w0⟩, ?_⟩
  rintro m σ' H' ⟨ρ', hl', hs', ok', w'⟩
  refine ⟨ρ', ys, rs, _, hl', ok', hF m ρ' w', fun b H1 ok1 hb => ?_⟩
  cases b with
  | true =>
    replace hb := hb.1 rfl
    rw [if_pos rfl]
    refine ⟨fun σ2 H2 => ∃ m', m' < m ∧ ∃ ρ2, ρ2.length = σ2.length ∧ σ2.length = σ.length ∧ Ok B H2 (σ2 ++ ys) (ρ2 ++ rs) ∧ W m' ρ2, fun σ2 H2 h => h, ?_⟩
    exact ⟨ρ', ys, rs, _, hl', ok1, hb, fun σ2 H2 ρ2 a b c ⟨m', d, e⟩ => ⟨m', d, ρ2, a, b.trans hs', c, e⟩, q2, fun σ2 H2 ρ2 a b c d => q1 σ2 H2 ρ2 a (b.trans hs') c d, fun σ2 H2 ρ2 a b c ⟨m', d, e⟩ => ⟨m', d, ρ2, a, b.trans hs', c, e⟩⟩
  | false =>
    replace hb := hb.2 rfl
    rw [if_neg Bool.false_ne_true]
    exact q1 σ' H1 ρ' hl' hs' ok1 hb

/-! ### comprehensions -/
def lcK (acc : List PyData) (r : Sl) (PN : List PyData → Prop) : Prop := match r with
  | .dat e => acc.length < 1000 ∧ PN (acc ++ [e])
  | _ => False
def lcRun (i : Nat) (T : FT) (Fe : FE) (ρ : List Sl) (P : List PyData → Prop) : List PyData → List PyData → Prop
  | [], acc => P acc
  | d :: ds, acc => T (ρ.set i (.dat d)) fun b => fIte b (Fe (ρ.set i (.dat d)) (fun r => lcK acc r (lcRun i T Fe ρ P ds))) (lcRun i T Fe ρ P ds acc)
def fLc (I : FI) (i : Nat) (T : FT) (Fe : FE) : FE := fun ρ P => ρ[i]? = some .un ∧ I ρ fun ds => lcRun i T Fe ρ (fun acc => P (.own acc)) ds []
def fYes : FT := fun _ P => P true
theorem le_yes : ∀ σ H Q, tDT B fYes σ H Q → tYes σ H Q := by
  intro σ H Q ⟨ρ, ys, rs, P, hl, ok, hF, q⟩
  exact q true H ok hF
theorem Ok.unstore {H : Hp} {σ ys yy : List (Option V)} {ρ rs rr : List Sl} {w : V} {q : Sl} {i : Nat} (okk : Ok B H (σ.set i (some w) ++ (ys ++ yy)) (ρ.set i q ++ (rs ++ rr))) (hl : ρ.length = σ.length) (hy : ys.length = rs.length) (hun : ρ[i]? = some .un) : Ok B H (σ ++ ys) (ρ ++ rs) := by
  refine okk.reix id (by simp [hl, hy]) (fun j r e hr => ?_) (fun j k _ _ _ _ e => e)
  rw [id]
  have hj : j < (ρ ++ rs).length := (List.getElem?_eq_some_iff.mp e).1
  simp only [List.length_append] at hj
  by_cases hj1 : j < ρ.length
  · have hji : i ≠ j := fun z => by
      subst z
      rw [List.getElem?_append_left hj1, hun] at e
      exact hr (Option.some.inj e).symm
    rw [List.getElem?_append_left hj1] at e
    have r1 : (ρ.set i q ++ (rs ++ rr))[j]? = (ρ.set i q)[j]? := List.getElem?_append_left (by simpa using hj1)
    have r2 : (σ ++ ys)[j]? = σ[j]? := List.getElem?_append_left (by omega)
    have r3 : (σ.set i (some w) ++ (ys ++ yy))[j]? = (σ.set i (some w))[j]? := List.getElem?_append_left (by simp; omega)
    rw [r1, r2, r3, List.getElem?_set_ne hji, List.getElem?_set_ne hji]
    exact ⟨e, rfl⟩
  · rw [List.getElem?_append_right (by omega)] at e
    have r1 : (ρ.set i q ++ (rs ++ rr))[j]? = (rs ++ rr)[j - ρ.length]? := by
      rw [List.getElem?_append_right (by simp; omega), List.length_set]
    have r2 : (σ ++ ys)[j]? = ys[j - σ.length]? := List.getElem?_append_right (by omega)
    have r3 : (σ.set i (some w) ++ (ys ++ yy))[j]? = (ys ++ yy)[j - σ.length]? := by
      rw [List.getElem?_append_right (by simp; omega), List.length_set]
    rw [r1, r2, r3, List.getElem?_append_left (by omega), List.getElem?_append_left (by omega)]
    exact ⟨e, rfl⟩
theorem wipe1 (σ : L2.St) (i : Nat) : wipe σ [i] = σ.set i none := rfl
theorem le_lc {wi : TI} {I : FI} {i : Nat} {T : FT} {tt : TT} {Fe : FE} (ht : ∀ σ H Q, tDT B T σ H Q → tt σ H Q) (hwi : ∀ σ H R, tDI B I σ H R → wi σ H R) : ∀ σ H Q, tD B (fLc I i T Fe) σ H Q → tLc wi (gName i) tt (tD B Fe) [i] σ H Q := by
  intro σ H Q ⟨ρ, ys, rs, P, hl, ok, ⟨hun, hF⟩, q⟩
  have hi : i < ρ.length := (List.getElem?_eq_some_iff.mp hun).1
  refine hwi σ H _ ⟨ρ, ys, rs, _, hl, ok, hF, fun ds H1 z qz J ok1 hJ hP => ?_⟩
  intro D hD
  have h0 := ok1.lens hl
  simp only [List.length_append, List.length_cons, List.length_nil] at h0
  have hy : ys.length = rs.length := by omega
  refine ⟨fun k m H' => k + m = ds.length ∧ ∃ acc, Ok B H' (σ ++ (ys ++ [some z, some (.ref D)])) (ρ ++ (rs ++ [qz, .own acc])) ∧ lcRun i T Fe ρ (fun acc => P (.own acc)) (ds.drop k) acc, ⟨ds.length, by omega, [], ?_, by simpa using hP⟩, ?_⟩
  · obtain ⟨G, ad, o⟩ := ok1
    have := o.newL (ws := []) (es := []) (p := D) .nil hD
    simpa using this
  · rintro k m H' ⟨hkm, acc, ok2, hr⟩
    have hz : ∃ j : Nat, (σ ++ (ys ++ [some z, some (V.ref D)]))[j]? = some (some z) ∧ (ρ ++ (rs ++ [qz, Sl.own acc]))[j]? = some qz := by
      refine ⟨(σ ++ ys).length, ?_, ?_⟩
      · rw [← List.append_assoc, two_get.1]
      · rw [← List.append_assoc, show (σ ++ ys).length = (ρ ++ rs).length by simp [hl, hy], two_get.1]
    obtain ⟨j1, j2, j3⟩ := hJ k H' _ _ ok2 hz
    by_cases hk : k < ds.length
    · refine .inr ⟨j1 hk, fun H2 => (k + 1) + (m - 1) = ds.length ∧ ∃ acc, Ok B H2 (σ ++ (ys ++ [some z, some (.ref D)])) (ρ ++ (rs ++ [qz, .own acc])) ∧ lcRun i T Fe ρ (fun acc => P (.own acc)) (ds.drop (k + 1)) acc, fun H2 hN => ⟨m - 1, by omega, hN⟩, fun x H2 hyl => ?_⟩
      have ok3 := j3 x H2 ds[k] hyl (List.getElem?_eq_getElem hk)
      rw [List.drop_eq_getElem_cons hk] at hr
      have ok4 := Ok.store (σ := σ) (ρ := ρ) (ys := ys ++ [some z, some (.ref D)]) (rs := rs ++ [qz, .own acc]) (v := x) (r := .dat ds[k]) (i := i) (by simpa using ok3) hl
      refine ⟨?_, ?_⟩
      · show ((List.set σ i none).set i (some x)).set i none = List.set σ i none
        rw [List.set_set, List.set_set]
      · rw [wipe1, List.set_set]
        refine ht _ _ _ ⟨ρ.set i (.dat ds[k]), ys ++ [some z, some (.ref D)], rs ++ [qz, .own acc], _, by simp [hl], ok4, hr, fun b H3 ok5 hb => ?_⟩
        cases b with
        | false =>
          replace hb := hb.2 rfl
          rw [if_neg Bool.false_ne_true]
          exact ⟨by omega, acc, Ok.unstore (ys := ys ++ [some z, some (.ref D)]) (rs := rs ++ [qz, .own acc]) (yy := []) (rr := []) (by simpa using ok5) hl (by simp [hy]) hun, hb⟩
        | true =>
          replace hb := hb.1 rfl
          rw [if_pos rfl]
          refine ⟨ρ.set i (.dat ds[k]), ys ++ [some z, some (.ref D)], rs ++ [qz, .own acc], _, by simp [hl], ok5, hb, fun y H4 r ok6 hr2 => ?_⟩
          unfold lcK at hr2
          split at hr2
          · rename_i e
            obtain ⟨G, ad, o⟩ := ok6
            have e1 : (ρ.set i (.dat ds[k]) ++ (rs ++ [qz, Sl.own acc] ++ [Sl.dat e]))[(ρ ++ rs).length + 1]? = some (.own acc) := by
              rw [List.getElem?_append_right (by simp; omega)]
              simp only [List.length_set, List.length_append]
              rw [show ρ.length + rs.length + 1 - ρ.length = rs.length + 1 by omega, List.append_assoc, List.getElem?_append_right (by omega), Nat.add_sub_cancel_left]
              rfl
            have e2 : (ρ.set i (.dat ds[k]) ++ (rs ++ [qz, Sl.own acc] ++ [Sl.dat e]))[(ρ ++ rs).length + 2]? = some (.dat e) := by
              rw [List.getElem?_append_right (by simp; omega)]
              simp only [List.length_set, List.length_append]
              rw [show ρ.length + rs.length + 2 - ρ.length = rs.length + 2 by omega, List.append_assoc, List.getElem?_append_right (by omega), Nat.add_sub_cancel_left]
              rfl
            obtain ⟨a1, a2, a3, ws, a4, a5⟩ := o.own _ _ e1
            have x1 : (σ.set i (some x) ++ (ys ++ [some z, some (V.ref D)] ++ [some y]))[(ρ ++ rs).length + 1]? = some (some (.ref D)) := by
              rw [List.getElem?_append_right (by simp; omega)]
              simp only [List.length_set, List.length_append]
              rw [show ρ.length + rs.length + 1 - List.length σ = ys.length + 1 by omega, List.append_assoc, List.getElem?_append_right (by omega), Nat.add_sub_cancel_left]
              rfl
            have x2 : (σ.set i (some x) ++ (ys ++ [some z, some (V.ref D)] ++ [some y]))[(ρ ++ rs).length + 2]? = some (some y) := by
              rw [List.getElem?_append_right (by simp; omega)]
              simp only [List.length_set, List.length_append]
              rw [show ρ.length + rs.length + 2 - List.length σ = ys.length + 2 by omega, List.append_assoc, List.getElem?_append_right (by omega), Nat.add_sub_cancel_left]
              rfl
            rw [x1] at a1
            have ea : ad ((ρ ++ rs).length + 1) = D := (V.ref.inj (Option.some.inj (Option.some.inj a1))).symm
            obtain ⟨w, b1, b2⟩ := o.dat _ _ e2
            rw [x2] at b1
            cases b1
            have mm := o.mut e1 (ws := ws ++ [y]) (es := acc ++ [e]) (a5.append (.cons b2 .nil))
            rw [ea] at mm a4
            refine ⟨ws, a4, by rw [a5.len]; exact Nat.lt_of_lt_of_le hr2.1 (by decide), by omega, acc ++ [e], ?_, hr2.2⟩
            refine Ok.unstore (ys := ys ++ [some z, some (.ref D)]) (rs := rs ++ [qz, .own (acc ++ [e])]) (yy := [some y]) (rr := [.dat e]) (w := x) (q := .dat ds[k]) (i := i) (ok_cast ⟨G, ad, mm⟩ rfl ?_) hl (by simp [hy]) hun
            rw [List.set_append_right _ _ (by simp; omega)]
            congr 1
            simp only [List.length_set, List.length_append]
            rw [show ρ.length + rs.length + 1 - ρ.length = rs.length + 1 by omega, List.append_assoc, List.set_append_right _ _ (by omega), Nat.add_sub_cancel_left]
            simp
          · exact hr2.elim
    · have hk' : k = ds.length := by omega
      refine .inl ⟨j2 hk', ?_⟩
      rw [hk', List.drop_length] at hr
      refine q (.ref D) H' (.own acc) ?_ hr
      have := Ok.mid (xs := σ ++ ys) (ρ := ρ ++ rs) (ys := [some z]) (rs := [qz]) (zs := [some (.ref D)]) (qs := [.own acc]) (by simpa using ok2) (by simp [hl, hy]) rfl
      simpa using this
theorem d_lc {x : Str} {elt iter : Expr} {scope : Scope} {px : Pos} {I : FI} {Fe : FE} (i : Nat) (hN : X.N.Nodup) (hi : PI X (.Name x px) iter (tDI B I)) (ok : BlkOk X.N X.env.scope scope [(x, i)])
    (hg : ∀ (s : Shared) (H : Hp) (C : Addr) (cl : List (Str × Addr)) (fp : List Addr), PG (X.blk s H scope (compEnvC scope cl C X.env) fp) (.Name x px) (gName i))
    (he : ∀ (s : Shared) (H : Hp) (C : Addr) (cl : List (Str × Addr)) (fp : List Addr), PE (X.blk s H scope (compEnvC scope cl C X.env) fp) elt (tD B Fe)) (hc : X.calm = true := by rfl) (hs : ∀ x, foldedSetIterable iter X.env x = pure x := by intro _; rfl) :
    PE X (.ListComp elt [⟨.Name x px, iter, [], 0⟩] scope pos) (tD B (fLc I i fYes Fe)) :=
  pe_w (pe_lc hc hN hi ok hg (fun _ _ _ _ _ => pts_nil) he hs) (le_lc le_yes fun _ _ _ h => h)
theorem d_lcIf {x : Str} {elt iter c : Expr} {scope : Scope} {px : Pos} {I : FI} {T : FT} {Fe : FE} (i : Nat) (hN : X.N.Nodup) (hi : PI X (.Name x px) iter (tDI B I)) (ok : BlkOk X.N X.env.scope scope [(x, i)])
    (hg : ∀ (s : Shared) (H : Hp) (C : Addr) (cl : List (Str × Addr)) (fp : List Addr), PG (X.blk s H scope (compEnvC scope cl C X.env) fp) (.Name x px) (gName i))
    (ht : ∀ (s : Shared) (H : Hp) (C : Addr) (cl : List (Str × Addr)) (fp : List Addr), PT (X.blk s H scope (compEnvC scope cl C X.env) fp) c (tDT B T))
    (he : ∀ (s : Shared) (H : Hp) (C : Addr) (cl : List (Str × Addr)) (fp : List Addr), PE (X.blk s H scope (compEnvC scope cl C X.env) fp) elt (tD B Fe)) (hc : X.calm = true := by rfl) (hs : ∀ x, foldedSetIterable iter X.env x = pure x := by intro _; rfl) :
    PE X (.ListComp elt [⟨.Name x px, iter, [c], 0⟩] scope pos) (tD B (fLc I i T Fe)) :=
  pe_w (pe_lc hc hN hi ok hg (fun s H C cl fp => pts_one (ht s H C cl fp)) he hs) (le_lc (fun _ _ _ h => h) fun _ _ _ h => h)
theorem s_setLc {x y : Str} {elt iter : Expr} {scope : Scope} {px py spos : Pos} {I : FI} {Fe : FE} (j i : Nat) (hN : X.N.Nodup) (hi : PI X (.Name x px) iter (tDI B I)) (ok : BlkOk X.N X.env.scope scope [(x, i)])
    (hg : ∀ (s : Shared) (H : Hp) (C : Addr) (cl : List (Str × Addr)) (fp : List Addr), PG (X.blk s H scope (compEnvC scope cl C X.env) fp) (.Name x px) (gName i))
    (he : ∀ (s : Shared) (H : Hp) (C : Addr) (cl : List (Str × Addr)) (fp : List Addr), PE (X.blk s H scope (compEnvC scope cl C X.env) fp) elt (tD B Fe))
    (hsw : swapsWith (.ListComp elt [⟨.Name x px, iter, [], 0⟩] scope pos) (some (.Name y py)) spos.line X.env = pure true) (hy : X.N[j]? = some y := by rfl) (hyl : X.env.scope.names.lookup y = some .local := by rfl)
    (hc : X.calm = true := by rfl) (hs : ∀ x, foldedSetIterable iter X.env x = pure x := by intro _; rfl) :
    PS X (.Assign [.Name y py] (.ListComp elt [⟨.Name x px, iter, [], 0⟩] scope pos) spos) (tDS B (fAsg (fLc I i fYes Fe) (gSlot j))) := by
  refine ps_w (ps_setLc hc hN hy hyl hsw hi ok hg (fun _ _ _ _ _ => pts_nil) he hs) fun D σ H h => ?_
  obtain ⟨ρ, ys, rs, δ, hl, ok, hF, q1, q2, q3, q4⟩ := h
  refine le_lc (B := B) le_yes (fun _ _ _ h => h) σ H _ ⟨ρ, ys, rs, _, hl, ok, hF, fun v H1 r ok1 hr => ?_⟩
  exact q1 _ H1 _ (by simp [hl]) (by simp) (ok1.store hl) hr
end

/-! ### a def's body keeps its promise -/
theorem Ok.start {K : PySem.W.Frag} {G H : Hp} {pa : Option Addr} {vs : List V} {rs : List Sl} {n : Nat} (h : Ok ⟨K, G, H, pa⟩ H (vs.map some) rs) : Ok ⟨K, G, H, pa⟩ H ((vs.map some ++ List.replicate n none) ++ []) ((rs ++ List.replicate n .un) ++ []) := by
  have hl := h.len
  refine h.reix id (by simp at hl ⊢; omega) (fun i r e hr => ?_) (fun i j _ _ _ _ e => e)
  rw [List.append_nil] at e
  rw [List.append_nil, id]
  by_cases hi : i < rs.length
  · rw [List.getElem?_append_left hi] at e
    exact ⟨e, List.getElem?_append_left (by simp at hl ⊢; omega)⟩
  · rw [List.getElem?_append_right (by omega)] at e
    have := List.mem_of_getElem? e
    rw [List.mem_replicate] at this
    exact absurd this.2 hr
theorem fn_ok {P : Program} {w : World} {K : PySem.W.Frag} {mg : Str → Option Value} {base : Heap} {x qual : Str} {st : Stmt} {f : Addr} {fd : FuncData} {N ps : List Str} {k : Nat} {S : FS} (F : Fun K x qual st f fd) (Sc : FnScope N ps (defScope st)) (len : ∀ rs P, S rs P → rs.length = ps.length)
    (hbody : ∀ (cdv : Value) (A : Around) (outer : List Env) (s : Shared) (H : Hp) (E : XK) (B : Bs), B.K = K → Room k (A.deeper (envOfC qual (defScope st) s.heap.objs.size f cdv)) →
      ∃ T : FST, PSs (cxOf CX0 P w K mg base N qual (defScope st) f cdv A outer s H E).nox (defBody st) (tDS B T) ∧ ∀ rs P, S rs P → T { nx := fun _ => P (.dat .none), rt := P } (rs ++ List.replicate (N.length - rs.length) .un)) :
    FnOk P w K mg base CX0 (k + 1) f fd ps (spD K S) := by
  refine F.ok Sc (fun vs H Q E h => ?_) (fun cdv A outer s H vs Q E hr h => ?_)
  · obtain ⟨G, pa, rs, P, ok, hS, _⟩ := h
    have := ok.len
    rw [List.length_map] at this
    rw [this, len rs P hS]
  · obtain ⟨G, pa, rs, P, ok, hS, q⟩ := h
    obtain ⟨T, h1, h2⟩ := hbody cdv A outer s H E ⟨K, G, H, pa⟩ rfl hr
    refine ⟨_, h1, ?_⟩
    have hl := ok.len
    rw [List.length_map] at hl
    refine ⟨rs ++ List.replicate (N.length - vs.length) Sl.un, [], [], { nx := fun _ => P (.dat .none), rt := P }, by simp [L2.start, hl], Ok.start ok, by rw [hl]; exact h2 rs P hS, fun σ' H' ρ' a b ok' hn => ?_, fun v H' r ok' hr => q v r H' ok' hr, fun _ _ _ _ _ _ h => h.elim, fun _ _ _ _ _ _ h => h.elim⟩
    refine q .non (.dat .none) H' ?_ hn
    have := ok'.flat (v := .non) (d := .none) fun _ => .non
    exact Ok.lastOnly this
end DL
/-! DL7: defs by name; repr; division. -/
namespace DL
open PySem PySem.Spec PyProof.Rows L2

/-- the def that stands at f -/
def FdAt (K : PySem.W.Frag) (f : Addr) (fd : FuncData) : Prop := ∃ (oc : Value) (od : Option Addr) (osl : Array (Option Value)), K.lookup f = some ⟨oc, od, .func fd, osl⟩
theorem fdAt_of {K : PySem.W.Frag} {x qual : Str} {st : Stmt} {f : Addr} {fd : FuncData} (F : Fun K x qual st f fd) : FdAt K f fd := by
  obtain ⟨oc, od, kV, doc, pm, an, cdv, ct, osl, rfl, lk, hcd⟩ := F.ex
  exact ⟨_, _, _, lk⟩
theorem FdAt.uniq {K : PySem.W.Frag} {f : Addr} {fd fd' : FuncData} (h : FdAt K f fd) (h' : FdAt K f fd') : fd = fd' := by
  obtain ⟨_, _, _, a⟩ := h
  obtain ⟨_, _, _, b⟩ := h'
  rw [a] at b
  cases b; rfl
/-- the def x of the module keeps its promise -/
def Good (P : Program) (w : World) (K : PySem.W.Frag) (mg : Str → Option Value) (base : Heap) (k : Nat) (x : Str) (ps : List Str) (S : FS) : Prop :=
  ∃ f fd, mg x = some (.ref f) ∧ PySem.W.keepIn K (.ref f) = true ∧ (Binds K fd ps [] ∧ FdAt K f fd) ∧ FnOk P w K mg base CX0 k f fd ps (spD K S)
/-- the def x stands as the text has it -/
def DefAt (K : PySem.W.Frag) (mg : Str → Option Value) (x : String) (st : Stmt) : Prop := ∃ f fd, Fun K x x st f fd ∧ mg x = some (.ref f)
theorem Good.mono {P : Program} {w : World} {K : PySem.W.Frag} {mg : Str → Option Value} {base : Heap} {j k : Nat} {x : Str} {ps : List Str} {S : FS} (h : Good P w K mg base j x ps S) (hjk : j ≤ k) : Good P w K mg base k x ps S :=
  let ⟨f, fd, a, b, c, d⟩ := h
  ⟨f, fd, a, b, c, d.mono hjk⟩
theorem Good.imp {P : Program} {w : World} {K : PySem.W.Frag} {mg : Str → Option Value} {base : Heap} {k : Nat} {x : Str} {ps : List Str} {S S' : FS} (h : Good P w K mg base k x ps S) (hS : ∀ rs P, S' rs P → S rs P) : Good P w K mg base k x ps S' :=
  let ⟨f, fd, a, b, c, d⟩ := h
  ⟨f, fd, a, b, c, d.imp fun vs H Q E ⟨G, pa, rs, P, q1, q2, q3⟩ => ⟨G, pa, rs, P, q1, hS _ _ q2, q3⟩⟩
section
variable {X : Cx} {B : Bs} {k : Nat} {ps : List Str} {S : FS} {x : Str} {p pos : Pos} {e : Expr} {es : List Expr} {R : FA}
def fCall (R : FA) (S : FS) : FE := fun ρ P => R ρ fun qs => fOn (qs.all argOk) (S qs P)
theorem c_call (g : Good X.prog X.w X.K X.mg X.base k x ps S) (hK : B.K = X.K) (hr : Room k X.A) (ha : PA X (e :: es) (tDA B R)) (hg : Gl X x := by rfl)
    (hdb : (x == ("__debug__" : Str)) = false := by decide) (he : starEach (e :: es) X.env = (false, eval e X.env) :: starEach es X.env := by rfl) (hpl : (backTo pos (starEach es X.env)).any (·.1) = false := by rfl) :
    PE X (.Call (.Name x p) (e :: es) [] pos) (tD B (fCall R S)) := by
  obtain ⟨f, fd, hm, hk, hb, F⟩ := g
  exact d_call F hK hr hg hm hk hb.1 ha hdb he hpl
end
section
variable {X : Cx} {B : Bs} {p p2 pos : Pos} {e : Expr} {F : FE}
theorem opd_neI : OpD B rNe (fB0 fun i j => !decide (i = j)) := by
  intro H xs ρ x y qx qy P Q ok hF q
  unfold fB0 at hF
  split at hF
  · rename_i i j
    obtain ⟨rfl, rfl, o⟩ := ok.two_int
    refine ⟨rfl, ?_⟩
    rw [dec_int, show (i == j) = decide (i = j) from (Bool.beq_eq_decide_eq i j)]
    exact q _ H _ (o.flat fun _ => .bl _) hF
  · exact hF.elim
/-- isinstance(x, T), T a built-in type -/
def fIsiK (g : PyData → Bool) (r : Sl) (P : Sl → Prop) : Prop := match r with
  | .dat d => P (.dat (.bool (g d)))
  | _ => False
def fIsi (g : PyData → Bool) (F : FE) : FE := fun ρ P => F ρ fun r => fIsiK g r P
theorem d_isi {T : Str} {n : String} {g : PyData → Bool} (hK : B.K = X.K) (hg : ∀ d, kitB (tyName d) n = some (g d)) (he : PE X e (tD B F)) (hm : X.mg "isinstance" = none) (hT : X.mg T = none) (hv : bootBuiltins T = some (.type n)) (gi : Gl X "isinstance" := by rfl) (gT : Gl X T := by rfl) (hn : T ≠ "__name__" := by decide) (hd : (T == ("__debug__" : Str)) = false := by decide)
    (hs1 : starEach [e, .Name T p2] X.env = (false, eval e X.env) :: starEach [.Name T p2] X.env := by rfl) (hs2 : starEach [.Name T p2] X.env = (false, eval (.Name T p2) X.env) :: starEach [] X.env := by rfl)
    (hpl : (backTo pos (starEach [.Name T p2] X.env)).any (·.1) = false := by rfl) :
    PE X (.Call (.Name "isinstance" p) [e, .Name T p2] [] pos) (tD B (fIsi g F)) := by
  refine pe_w (pe_callB call_isi gi hm (by decide +kernel) (pa_cons he (pa_cons (pe_bltn (v := .ty n) gT hT hv rfl hn hd) pa_nil hs2) hs1) (by decide) (by decide) hs1 hpl) fun σ H Q h => ?_
  obtain ⟨ρ, ys, rs, P, hl, ok, hF, q⟩ := h
  refine ⟨ρ, ys, rs, _, hl, ok, hF, fun v H1 r ok1 hP => ?_⟩
  unfold fIsiK at hP
  split at hP
  · rename_i d
    have ok2 : Ok B H1 ((σ ++ ys) ++ [some v]) ((ρ ++ rs) ++ [.dat d]) := by simpa using ok1
    obtain ⟨G, ad, o⟩ := id ok2
    obtain ⟨w, e1, e2⟩ := o.dat (ρ ++ rs).length d get_last
    rw [← ok.len, get_last] at e1
    cases e1
    have ty := tyx_of o.gh e2
    rw [hK] at ty
    refine ⟨v, .ty n, _, _, g d, rfl, .ty n, ty, kit_ty (hg d), ?_⟩
    exact q _ H1 _ (by have := (ok2.drop ok.len).flat (v := .bl (g d)) fun _ => .bl _; simpa using this) hP
  · exact hP.elim
end
/-- a list display whose form is not told -/
@[irreducible] def fLstKS (qs : List Sl) (P : Sl → Prop) : Prop := fLstK qs P
def fLstS (R : FA) : FE := fun ρ P => R ρ fun qs => fLstKS qs P
theorem d_lstS {X : Cx} {B : Bs} {pos : Pos} {es : List Expr} {R : FA} (h : PA X es (tDA B R)) : PE X (.List es pos) (tD B (fLstS R)) := by
  have e : fLstS R = fLst R := by unfold fLstS fLst fLstKS; rfl
  rw [e]
  exact d_lst h
def isInt : PyData → Bool
  | .int _ => true
  | .bool _ => true
  | _ => false
def isBool : PyData → Bool
  | .bool _ => true
  | _ => false
def isTup : PyData → Bool
  | .tuple _ => true
  | _ => false
theorem kit_int : ∀ d : PyData, kitB (tyName d) "int" = some (isInt d) := by
  intro d
  cases d
  · exact (by decide +kernel : kitB "NoneType" "int" = some false)
  · exact (by decide +kernel : kitB "bool" "int" = some true)
  · exact (by decide +kernel : kitB "int" "int" = some true)
  · exact (by decide +kernel : kitB "str" "int" = some false)
  · exact (by decide +kernel : kitB "list" "int" = some false)
  · exact (by decide +kernel : kitB "tuple" "int" = some false)
  · exact (by decide +kernel : kitB "dict" "int" = some false)
theorem kit_bool : ∀ d : PyData, kitB (tyName d) "bool" = some (isBool d) := by
  intro d
  cases d
  · exact (by decide +kernel : kitB "NoneType" "bool" = some false)
  · exact (by decide +kernel : kitB "bool" "bool" = some true)
  · exact (by decide +kernel : kitB "int" "bool" = some false)
  · exact (by decide +kernel : kitB "str" "bool" = some false)
  · exact (by decide +kernel : kitB "list" "bool" = some false)
  · exact (by decide +kernel : kitB "tuple" "bool" = some false)
  · exact (by decide +kernel : kitB "dict" "bool" = some false)
theorem kit_tup : ∀ d : PyData, kitB (tyName d) "tuple" = some (isTup d) := by
  intro d
  cases d
  · exact (by decide +kernel : kitB "NoneType" "tuple" = some false)
  · exact (by decide +kernel : kitB "bool" "tuple" = some false)
  · exact (by decide +kernel : kitB "int" "tuple" = some false)
  · exact (by decide +kernel : kitB "str" "tuple" = some false)
  · exact (by decide +kernel : kitB "list" "tuple" = some false)
  · exact (by decide +kernel : kitB "tuple" "tuple" = some true)
  · exact (by decide +kernel : kitB "dict" "tuple" = some false)
/-- floor division that does not go by _pylong -/
def CFd (i j : Int) : Prop := j ≠ 0 ∧ Builtin.divisionGoesByPylong i j = false
section
variable {X : Cx}
theorem op_fd : OpR X (binaryOp .FloorDiv) (rI CFd fun i j => .int (i.fdiv j)) := opI fun _ _ _ _ _ _ _ hc q => floordiv_int hc.1 q (.inl hc.2)
end
section
variable {X : Cx} {B : Bs} {pos : Pos}
/-- a module's constant -/
theorem c_glob {x : Str} {d : PyData} (hK : B.K = X.K) (h : ∃ a, X.mg x = some (.ref a) ∧ ∀ G, Dv X.K G (.ref a) d) (hg : Gl X x := by rfl) (hdb : (x == ("__debug__" : Str)) = false := by decide) : PE X (.Name x pos) (tD B (fC d)) := by
  obtain ⟨a, hm, hd⟩ := h
  exact d_glob hg hm (by rw [hK]; exact hd) hdb
end
/-! ### targets, with nothing left to compute -/
section
variable {env : Env} {es ts vs : List Expr} {x : Str} {p q tp : Pos} {t a b : Expr} {k k2 l : Nat} {kws : List Keyword}
theorem ae_name : (assignEach (.Name x p :: es) env).map (·.2) = assign (.Name x p) env :: (assignEach es env).map (·.2) := rfl
theorem ae_tup : (assignEach (.Tuple ts k p :: es) env).map (·.2) = assign (.Tuple ts k p) env :: (assignEach es env).map (·.2) := rfl
theorem ae_sub : (assignEach (.Subscript a b p :: es) env).map (·.2) = assign (.Subscript a b p) env :: (assignEach es env).map (·.2) := rfl
theorem ae_one : (assignEach [.Tuple ts k p] env).map (·.2) = [assign (.Tuple ts k p) env] := rfl
def noStar : List Expr → Bool
  | [] => true
  | .Name _ _ :: r => noStar r
  | .Tuple _ _ _ :: r => noStar r
  | .Subscript _ _ _ :: r => noStar r
  | _ => false
theorem ae_len : ∀ es : List Expr, (assignEach es env).length = es.length
  | [] => rfl
  | e :: r => by
    cases e <;> (rw [assignEach, List.length_cons, ae_len r, List.length_cons]; try (intros; simp_all))
theorem ae_find : ∀ es : List Expr, noStar es = true → (assignEach es env).findIdx? (·.1) = none
  | [], _ => rfl
  | .Name x p :: r, h => by
    have ih := ae_find r h
    show List.findIdx? (·.1) ((false, assign (.Name x p) env) :: assignEach r env) = none
    rw [List.findIdx?_cons]; simp [ih]
  | .Tuple ts k p :: r, h => by
    have ih := ae_find r h
    show List.findIdx? (·.1) ((false, assign (.Tuple ts k p) env) :: assignEach r env) = none
    rw [List.findIdx?_cons]; simp [ih]
  | .Subscript a b p :: r, h => by
    have ih := ae_find r h
    show List.findIdx? (·.1) ((false, assign (.Subscript a b p) env) :: assignEach r env) = none
    rw [List.findIdx?_cons]; simp [ih]
theorem so_name : swapsWithSole [t] (.Name x q) l env = pure false := rfl
theorem so_call : swapsWithSole [t] (.Call a es kws q) l env = pure false := rfl
theorem so_sub : swapsWithSole [t] (.Subscript a b q) l env = pure false := rfl
theorem so_tup : swapsWithSole [t] (.Tuple es k q) l env = pure false := rfl
theorem so_bin {op : Operator} : swapsWithSole [t] (.BinOp a op b q) l env = pure false := rfl
theorem ss_name : swappedStores [.Tuple ts k p] (.Name x q) env = pure none := rfl
theorem ss_call : swappedStores [.Tuple ts k p] (.Call a es kws q) env = pure none := rfl
theorem ss_sub : swappedStores [.Tuple ts k p] (.Subscript a b q) env = pure none := rfl
theorem ss_tup4 {t1 t2 t3 t4 : Expr} : swappedStores [.Tuple [t1, t2, t3, t4] k p] (.Tuple vs k2 q) env = pure none := rfl
theorem ss_nameS {u : Expr} : swappedStores [.Subscript t u p] (.Name x q) env = pure none := rfl
end
/-- a def's body, from the text -/
theorem good_mk {P : Program} {w : World} {K : PySem.W.Frag} {mg : Str → Option Value} {base : Heap} {x : String} {st : Stmt} {N ps : List Str} {k : Nat} {S : FS} (D : DefAt K mg x st) (Sc : FnScope N ps (defScope st))
    (hb : ∀ (kV doc pm : Value) (an : Option Addr) (cdv ct : Value) (us : List Value), us.length = ps.length → bindArgs (PySem.W.fnOf x x (defArgs st) (defBody st) (defScope st) .none kV doc pm an cdv ct) ⟨us, []⟩ = pure (ps.zip us))
    (len : ∀ rs P, S rs P → rs.length = ps.length)
    (hbody : ∀ (cdv : Value) (A : Around) (outer : List Env) (s : Shared) (H : Hp) (E : XK) (B : Bs) (f : Addr), B.K = K → Room k (A.deeper (envOfC x (defScope st) s.heap.objs.size f cdv)) →
      ∃ T : FST, PSs (cxOf CX0 P w K mg base N x (defScope st) f cdv A outer s H E).nox (defBody st) (tDS B T) ∧ ∀ rs P, S rs P → T { nx := fun _ => P (.dat .none), rt := P } (rs ++ List.replicate (N.length - rs.length) .un)) :
    Good P w K mg base (k + 1) x ps S := by
  obtain ⟨f, fd, F, hm⟩ := D
  exact ⟨f, fd, hm, F.kp, ⟨F.binds hb, fdAt_of F⟩, fn_ok F Sc len fun cdv A outer s H E B hB hr => hbody cdv A outer s H E B f hB hr⟩
end DL
/-! DL8: t[::-1] of a tuple. -/
namespace DL
open PySem PySem.Spec PyProof.Rows L2
section
variable {prog : Program} {w : World} {A : Around} {E : Value → Shared → Prop} {s : Shared}
theorem filterMap_same {α β : Type} {f g : α → Option β} : ∀ {l : List α}, (∀ m ∈ l, f m = g m) → l.filterMap f = l.filterMap g
  | [], _ => rfl
  | a :: l, h => by
    rw [List.filterMap_cons, List.filterMap_cons, h a (by simp), filterMap_same (l := l) fun m hm => h m (by simp [hm])]
theorem pick_rev (xs : Array Value) : ((List.range xs.size).filterMap fun (m : Nat) => xs[(((xs.size : Int) - 1) + (m : Int) * -1).toNat]?).toArray = xs.toList.reverse.toArray := by
  rw [← PySem.W.krv_all, ← List.filterMap_reverse, ← PySem.W.krv_range, List.filterMap_map]
  congr 1
  refine filterMap_same fun m hm => ?_
  have := List.mem_range.mp hm
  show xs[(((xs.size : Int) - 1) + (m : Int) * -1).toNat]? = xs[xs.size - 1 - m]?
  rw [show (((xs.size : Int) - 1) + (m : Int) * -1).toNat = xs.size - 1 - m by omega]
theorem sliceApplied_rev {sl : Addr} {vl vu vs : Value} {n : Nat} {Q : Int × Int × Nat → Shared → Prop} (hs : s.heap.IsSliceOf sl vl vu vs) (pl : IsPart vl none) (pu : IsPart vu none) (ps : IsPart vs (some (-1)))
    (h : Q ((n : Int) - 1, -1, n) s) : wpAny (model prog w) A (Builtin.Slice.sliceApplied (.ref sl) (pure (n : Int))) Q E s := by
  obtain ⟨os, hos, hcs, hds⟩ := id hs
  unfold Builtin.Slice.sliceApplied Builtin.Slice.sliceFields
  refine wpAny_bind (wpAny_bind (wpAny_field hos hds (x := vl) rfl (wpAny_bind (wpAny_field hos hds (x := vu) rfl (wpAny_bind (wpAny_field hos hds (x := vs) rfl (wpAny_pure ?_)))))))
  refine wpAny_bind (HT.slicePart_ ps ?_)
  show wpAny _ _ (if ((-1 : Int) == 0) = true then _ else _) _ _ s
  rw [if_neg (by decide)]
  refine wpAny_bind (HT.slicePart_ pl (wpAny_bind (HT.slicePart_ pu (wpAny_bind (wpAny_pure ?_)))))
  show wpAny _ _ (pure ((n : Int) - 1, (-1 : Int), Builtin.Slice.slicePlaces ((n : Int) - 1) (-1) (-1))) _ _ s
  have e : Builtin.Slice.slicePlaces ((n : Int) - 1) (-1) (-1) = n := by
    unfold Builtin.Slice.slicePlaces
    rw [if_neg (by decide)]
    by_cases q : (n : Int) - 1 > -1
    · rw [if_pos q, show -(-1 : Int) = 1 by decide, Int.ediv_one]; omega
    · rw [if_neg q]; omega
  rw [e]
  exact wpAny_pure h
theorem getItem_tuple_rev {t sl : Addr} {items : Array Value} {vl vu vs : Value} {Q : Value → Shared → Prop} (ht : IsTup s.heap t items) (hs : s.heap.IsSliceOf sl vl vu vs) (pl : IsPart vl none) (pu : IsPart vu none) (ps : IsPart vs (some (-1)))
    (h : Q (.ref s.heap.objs.size) { s with heap := s.heap.push { cls := .type "tuple", data := .seq items.toList.reverse.toArray } })
    (hsz : items.size ≤ sizeLine) : wpAny (model prog w) A (getItem (.ref t) (.ref sl)) Q E s := by
  have htake : sizeOk (.seq items.toList.reverse.toArray) := by
    show items.toList.reverse.toArray.size ≤ sizeLine
    rw [List.size_toArray, List.length_reverse, Array.length_toList]
    exact hsz
  obtain ⟨os, hos, hcs, hds⟩ := id hs
  have hTs : s.TypeIs (.ref sl) "slice" := ⟨os, hos, hcs⟩
  unfold getItem
  try with_reducible refine wpAny_holding ?_
  first | refine wpAny_bind (wpAny_pure ?_) | skip
  refine wpAny_bind (wpAny_sequenceKey ht.typeIs (by decide) ?_)
  refine wpAny_bind (wpAny_callSpecial?_slot (name := Str.ofString "__getitem__") ht.typeIs PyProof.Rows.slot_tuple_getitem
    (wpAny_call_entry PyProof.Rows.slot_tuple_getitem ht.typeIs entry_tuple_getitem ?_ (args_tuple_getitem _ _)))
  show wpAny _ _ (Builtin.Tuple.tupleItemsOf (.ref t) >>= _) _ _ s
  refine wpAny_bind (tupleItemsOf_ ht ?_)
  refine wpAny_bind (wpAny_typeOf hTs ?_)
  rw [if_pos (by decide)]
  refine wpAny_bind (sliceApplied_rev hs pl pu ps ?_)
  have hno : ¬ ((((items.size : Int) - 1) == 0 && (-1 : Int) == 1 && items.size == items.size) = true) := by
    intro q
    rw [Bool.and_eq_true, Bool.and_eq_true] at q
    exact absurd q.1.2 (by decide)
  show wpAny _ _ (if (((items.size : Int) - 1) == 0 && (-1 : Int) == 1 && items.size == items.size) = true then _ else _) _ _ s
  rw [if_neg hno, pick_rev]
  first
    | exact wpAny_bind (m := Builtin.Tuple.tupleExact _) (wpAny_newObj_type (wpAny_pure ⟨_, rfl, wpAny_pure h⟩) htake)
    | exact wpAny_bind (m := Builtin.Tuple.tupleExact _) (wpAny_newObj_type (wpAny_bind (wpAny_pure (wpAny_pure ⟨_, rfl, wpAny_pure h⟩))) htake)
    | exact wpAny_bind (wpAny_bind (m := Builtin.Tuple.tupleExact _) (wpAny_newObj_type (wpAny_pure (wpAny_pure ⟨_, rfl, wpAny_pure h⟩)) htake))
    | exact wpAny_bind (wpAny_bind (m := Builtin.Tuple.tupleExact _) (wpAny_newObj_type (wpAny_pure ⟨_, rfl, wpAny_pure h⟩) htake))
end
def tRevT (K : PySem.W.Frag) (te : TE) : TE := fun σ H Q => te σ H fun x H1 => ∃ a xs, x = .ref a ∧ SqT K H1 a xs ∧ ∀ p, H1 p = none → Q (.ref p) (upd H1 p (.tup xs.reverse))
theorem pe_revT {X : Cx} {e : Expr} {te : TE} {k : Nat} {p1 p2 p3 pos : Pos} (he : PE X e te) : PE X (.Subscript e (.Slice none none (some (.UnaryOp .USub (.Constant (.int 1) k p1) p2)) p3) pos) (tRevT X.K te) := by
  refine ⟨fun pins s σ H Q I h => ?_⟩
  refine Subscript_ (thn (he.run pins s σ H _ I h) fun v s1 ⟨x, H1, I1, r1, q1⟩ => ?_)
  obtain ⟨a, xs, ex, hx, q⟩ := q1
  subst ex
  cases r1
  have hst : PO X (some (.UnaryOp .USub (.Constant (.int 1) k p1) p2)) (tPart (tUn (rU fun i => .int (-i)) (tC (.int 1)))) := po_some (pe_un un_neg pe_int)
  refine wpAny_Slice (thn (po_none.run pins s1 σ H1 (fun o H2 => o = none ∧ H2 = H1) I1 ⟨rfl, rfl⟩) fun vl s2 ⟨l, H2, I2, pl, el, e2⟩ => ?_)
  subst el e2
  refine thn (po_none.run pins s2 σ H2 (fun o H3 => o = none ∧ H3 = H2) I2 ⟨rfl, rfl⟩) fun vu s3 ⟨u, H3, I3, pu, eu, e3⟩ => ?_
  subst eu e3
  refine thn (hst.run pins s3 σ H3 (fun o H4 => o = some (-1) ∧ H4 = H3) I3 ⟨1, rfl, -1, rfl, rfl, rfl⟩) fun vs s4 ⟨o, H4, I4, ps, eo, e4⟩ => ?_
  subst eo e4
  have I5 : Inv X pins σ H4 { s4 with heap := s4.heap.push { cls := .type "slice", data := .fields #[vl, vu, vs] } } := I4.kept (t' := s4.toks) fun b ob q => Heap.get?_push_of_some _ q
  obtain ⟨its, r, ht, hz⟩ := I5.tuple hx
  have hlen := r.length
  show wpAny (model X.prog X.w) X.A (subscriptTail e (.Slice none none (some (.UnaryOp .USub (.Constant (.int 1) k p1) p2)) p3) (.ref a) (.ref s4.heap.objs.size)) (EP X pins σ Q) X.xe { s4 with heap := s4.heap.push { cls := .type "slice", data := .fields #[vl, vu, vs] } }
  refine tail_any (ops := [.ref a, .ref s4.heap.objs.size]) ht.typeIs (PyProof.Rows.slot_tuple_getitem.lookup) ?_ (by with_unfolding_all rfl)
  refine getItem_tuple_rev ht (Heap.IsSliceOf.new _ vl vu vs) pl pu ps ?_ (by rw [List.size_toArray]; omega)
  refine ⟨.ref _, _, I5.laid (t' := s4.toks) (o := .tup xs.reverse) (fun b ob q => Heap.get?_push_of_some _ q) (Nat.le_refl _) ?_, rfl, q _ (I5.hok.fresh (Nat.le_refl _))⟩
  exact ⟨by rw [List.length_reverse]; exact hz, _, r.reverse, IsTup.new _ _⟩
/-- x[::-1], x a tuple -/
def fRevT (Fa : FE) : FE := fun ρ P => Fa ρ fun x => x.tup fun ds => P (.dat (.tuple ds.reverse))
theorem d_revT {X : Cx} {B : Bs} {a : Expr} {k : Nat} {p1 p2 p3 pos : Pos} {Fa : FE} (hK : B.K = X.K) (ha : PE X a (tD B Fa)) : PE X (.Subscript a (.Slice none none (some (.UnaryOp .USub (.Constant (.int 1) k p1) p2)) p3) pos) (tD B (fRevT Fa)) := by
  refine pe_w (pe_revT ha) fun σ H Q h => ?_
  obtain ⟨ρ, ys, rs, P, hl, ok, hF, q⟩ := h
  refine ⟨ρ, ys, rs, _, hl, ok, hF, fun v H1 r ok1 hP => ?_⟩
  obtain ⟨ds, rfl, hP⟩ := tup_cases hP
  have hl2 := ok.len
  obtain ⟨G, ad, o⟩ := show Ok B H1 ((σ ++ ys) ++ [some v]) ((ρ ++ rs) ++ [.dat (.tuple ds)]) by simpa using ok1
  obtain ⟨p1, vs, g1, g2, g3⟩ := o.tupT (i := (ρ ++ rs).length) (ds := ds) get_last
  rw [← hl2, get_last] at g1
  cases g1
  rw [hK] at g2
  refine ⟨p1, vs, rfl, g2, fun r hr => q _ _ _ ?_ hP⟩
  have := Ok.mid (xs := σ ++ ys) (ρ := ρ ++ rs) (ys := [some (.ref p1)]) (rs := [.dat (.tuple ds)]) (o.newT g3.reverse hr) hl2 rfl
  simpa using this
end DL
/-! DL9: a def that raises an own exception without arguments; try .. except. -/
namespace DL
open PySem PySem.Spec PyProof.Rows L2
/-- X() -/
theorem pmk_own0 {X : Cx} {C : Addr} {bmB : List Value} {Bn newId initId : String} {x : Str} {p pos : Pos} (F : ExcBaseFacts Bn newId initId bmB) (q : PySem.W.excIn X.K C bmB newId = true) (gC : X.mg x = some (.ref C)) (kC : PySem.W.keepIn X.K (.ref C) = true) (r : Raises X (.ref C)) (hg : Gl X x)
    (hdb : (x == ("__debug__" : Str)) = false := by decide) : PMk X (.Call (.Name x p) [] [] pos) (fun _ H Q => Q (.ref C) none H) := by
  intro pins s σ H Q I h
  refine wpAny_Call_Name_kw (ld_glob I hg gC ?_ hdb)
  refine PySem.W.callWith_K0 I.kIn kC ?_
  show wpAny _ _ (call (.ref C) []) _ _ _
  obtain ⟨bm, N, nm, qn, bs, hdct, sn, sub, ab, col, dd, k0, k1, k2, k3, k5, mN, hC, hN, hni, T⟩ := exc_obj I.kIn q
  refine wpAny_call_exc_subT F T hC hN hni (fun h' e hm => ?_) (Nat.zero_le _)
  exact mk_of I hm r h (I.hok.gone hm.new)
/-- the module's class x, an own exception class -/
structure Xc (K : PySem.W.Frag) (mg : Str → Option Value) (x : Str) (C : Addr) : Prop where
  gC : mg x = some (.ref C)
  kC : PySem.W.keepIn K (.ref C) = true
  ex : ∃ bmB newId initId Bn, ExcBaseFacts Bn newId initId bmB ∧ PySem.W.excIn K C bmB newId = true
  sb : PySem.W.subIn K (.ref C) (.type "BaseException") = some true
  ty : PySem.W.typeIn K (.ref C) = some (.type "type")
  me : PySem.W.exmOne K (.ref C) (.ref C) = some true
abbrev FXS := List Sl → (Sl → Prop) → Prop → Prop
def spX (K : PySem.W.Frag) (C : Addr) (S : FXS) : Sp := fun vs H Q E => ∃ (G : Hp) (pa : Option Addr) (rs : List Sl) (P : Sl → Prop) (X0 : Prop), Ok ⟨K, G, H, pa⟩ H (vs.map some) rs ∧ S rs P X0 ∧
  (∀ v r H', Ok ⟨K, G, H, pa⟩ H' [some v] [r] → P r → Q v H') ∧ ∀ H', Ok ⟨K, G, H, pa⟩ H' [] [] → X0 → E (.ref C) none H'
def fRaise (X0 : Prop) : FST := fun _ _ => X0
theorem s_raise {X : Cx} {B : Bs} {C : Addr} {x : Str} {E : XK} {X0 : Prop} {p pos pos' : Pos} (hC : Xc X.K X.mg x C) (hc : X.calm = true) (tk : Takes X (fun cls d _ H => E cls d H)) (hE : ∀ H', Ok B H' [] [] → X0 → E (.ref C) none H') (hg : Gl X x := by rfl)
    (hdb : (x == ("__debug__" : Str)) = false := by decide) : PS X (.Raise (some (.Call (.Name x p) [] [] pos)) none pos') (tDS B (fRaise X0)) := by
  obtain ⟨bmB, newId, initId, Bn, F, q⟩ := hC.ex
  refine ps_w (ps_raise hc tk (pmk_own0 F q hC.gC hC.kC (raises_own hC.sb hC.ty) hg hdb)) fun D σ H h => ?_
  obtain ⟨ρ, ys, rs, δ, hl, ok, hF, q1, q2, q3, q4⟩ := h
  exact hE H (Ok.drop (xs := []) (ρ := []) (ys := σ ++ ys) (rs := ρ ++ rs) (by simpa using ok) rfl) hF
/-- as Good, with an exception -/
def GoodX (P : Program) (w : World) (K : PySem.W.Frag) (mg : Str → Option Value) (base : Heap) (k : Nat) (x : Str) (ps : List Str) (C : Addr) (S : FXS) : Prop :=
  ∃ f fd, mg x = some (.ref f) ∧ PySem.W.keepIn K (.ref f) = true ∧ (Binds K fd ps [] ∧ FdAt K f fd) ∧ FnOk P w K mg base (L2.CX P w) k f fd ps (spX K C S)
theorem good_mkX {P : Program} {w : World} {K : PySem.W.Frag} {mg : Str → Option Value} {base : Heap} {x : String} {st : Stmt} {N ps : List Str} {k : Nat} {C : Addr} {S : FXS} (D : DefAt K mg x st) (Sc : FnScope N ps (defScope st))
    (hb : ∀ (kV doc pm : Value) (an : Option Addr) (cdv ct : Value) (us : List Value), us.length = ps.length → bindArgs (PySem.W.fnOf x x (defArgs st) (defBody st) (defScope st) .none kV doc pm an cdv ct) ⟨us, []⟩ = pure (ps.zip us))
    (len : ∀ rs P X0, S rs P X0 → rs.length = ps.length)
    (hbody : ∀ (cdv : Value) (A : Around) (outer : List Env) (s : Shared) (H : Hp) (E : XK) (B : Bs) (f : Addr) (X0 : Prop), B.K = K → Room k (A.deeper (envOfC x (defScope st) s.heap.objs.size f cdv)) → (∀ H', Ok B H' [] [] → X0 → E (.ref C) none H') →
      ∃ T : FST, PSs (cxOf (L2.CX P w) P w K mg base N x (defScope st) f cdv A outer s H E) (defBody st) (tDS B T) ∧ ∀ rs P, S rs P X0 → T { nx := fun _ => P (.dat .none), rt := P } (rs ++ List.replicate (N.length - rs.length) .un)) :
    GoodX P w K mg base (k + 1) x ps C S := by
  obtain ⟨f, fd, F, hm⟩ := D
  refine ⟨f, fd, hm, F.kp, ⟨F.binds hb, fdAt_of F⟩, F.okX Sc (fun vs H Q E h => ?_) fun cdv A outer s H vs Q E hr h => ?_⟩
  · obtain ⟨G, pa, rs, P, X0, ok, hS, _⟩ := h
    have := ok.len
    rw [List.length_map] at this
    rw [this, len rs P X0 hS]
  · obtain ⟨G, pa, rs, P, X0, ok, hS, q, qx⟩ := h
    obtain ⟨T, h1, h2⟩ := hbody cdv A outer s H E ⟨K, G, H, pa⟩ f X0 rfl hr qx
    refine ⟨_, h1, ?_⟩
    have hl := ok.len
    rw [List.length_map] at hl
    refine ⟨rs ++ List.replicate (N.length - vs.length) Sl.un, [], [], { nx := fun _ => P (.dat .none), rt := P }, by simp [L2.start, hl], Ok.start ok, by rw [hl]; exact h2 rs P hS, fun σ' H' ρ' a b ok' hn => ?_, fun v H' r ok' hr => q v r H' ok' hr, fun _ _ _ _ _ _ h => h.elim, fun _ _ _ _ _ _ h => h.elim⟩
    refine q .non (.dat .none) H' ?_ hn
    have := ok'.flat (v := .non) (d := .none) fun _ => .non
    exact Ok.lastOnly this
/-- try: x = f(..) except c: x = None -/
def fTry (i : Nat) (R : FA) (S : FXS) : FST := fun δ ρ => R ρ fun qs => fOn (qs.all argOk) (S qs (fun r => δ.nx (ρ.set i r)) (δ.nx (ρ.set i (.dat .none))))
theorem s_try {X : Cx} {B : Bs} {C : Addr} {c x fx : Str} {k : Nat} {ps : List Str} {S : FXS} {R : FA} {e : Expr} {es : List Expr} {j : Nat} {px pf cpos apos np px2 npos apos2 hpos pos : Pos} (i : Nat) (hN : X.N.Nodup) (hK : B.K = X.K) (g : GoodX X.prog X.w X.K X.mg X.base k fx ps C S) (hr : Room k X.A)
    (hC : Xc X.K X.mg c C) (ha : ∀ (pn : List (Addr × Obj)) (xe : Value → Shared → Prop), PA (X.tr pn xe) (e :: es) (tDA B R)) (hs : X.stack = X.env :: X.outer) (hf : X.env.frame = some X.env.locals) (hi : X.N[i]? = some x) (hln : X.env.scope.names.lookup x = some .local) (hgc : Gl X c) (hgf : Gl X fx)
    (hdc : (c == ("__debug__" : Str)) = false) (hdf : (fx == ("__debug__" : Str)) = false) (he : starEach (e :: es) X.env = (false, eval e X.env) :: starEach es X.env) (hpl : (backTo cpos (starEach es X.env)).any (·.1) = false)
    (hs1 : swapsWith (.Call (.Name fx pf) (e :: es) [] cpos) (some (.Name x px)) apos.line X.env = pure false) (hs2 : swapsWith (.Constant .none j npos) (some (.Name x px2)) apos2.line X.env = pure false) :
    PS X (.Try [.Assign [.Name x px] (.Call (.Name fx pf) (e :: es) [] cpos) apos] [.ExceptHandler (some (.Name c np)) none [.Assign [.Name x px2] (.Constant .none j npos) apos2] hpos] [] [] pos) (tDS B (fTry i R S)) := by
  obtain ⟨f, fd, hm, hk, hb, F⟩ := g
  refine ps_w (ps_try_only (tb := fun W => tAsg (tCallS (spX X.K C S) (WE W) (tDA B R)) (gName i)) (ts := fun _ _ _ => tAsg (tC .non) (gName i)) (Wout := fun _ _ _ _ => False) hs hf ⟨hgc, hdc, .inl hC.gC⟩ takes0 (fun W pn xe tk hp => ?_) fun a oe cls d pn hz hd => ?_) fun D σ H h => ?_
  · exact pss_one (ps_set (X := X.tr pn xe) hN hi (Or.inl hln) (pe_callS (X := X.tr pn xe) F hr hgf hm hk hb.1 (fun σ => passAt tk σ) (ha pn xe) hdf he hpl) hs1 (Or.inr hln))
  · exact pss_one (ps_set (X := X.suite a ((a, oe) :: pn)) hN hi (Or.inl hln) pe_non hs2 (Or.inr hln))
  · obtain ⟨ρ, ys, rs, δ, hl, ok, hF, q1, q2, q3, q4⟩ := h
    refine ⟨ρ, ys, rs, _, hl, ok, hF, fun vs H1 qs hv ok1 hP => ?_⟩
    obtain ⟨hq, hS⟩ := hP.out
    obtain ⟨G, c1, c2⟩ := Ok.call (xs := σ ++ ys) (ρ := ρ ++ rs) (vs := vs) (rs := qs) (by simpa using ok1) ok.len hq
    rw [hK] at c1 c2
    refine ⟨G, B.pa, qs, _, _, c1, hS, fun v r H' h' hn => ?_, fun H' h' hn => ?_⟩
    · have o := c2 v r H' h'
      exact q1 _ H' _ (by simp [hl]) (by simp) (Ok.store (by simpa using o) hl) hn
    · refine ⟨true, hC.me, fun _ a na => ?_, fun z => nomatch z⟩
      have o := c2 .non (.dat .none) H' (by have := h'.flat (v := .non) (d := .none) fun _ => .non; simpa using this)
      exact q1 _ H' _ (by simp [hl]) (by simp) (Ok.store (by simpa using o) hl) hn
end DL
/-! DL10: more rules: parallel assignments, keyword calls, products with a short factor. -/
namespace DL
open PySem PySem.Spec PyProof.Rows L2
section
variable {B : Bs} {H : Hp} {xs : List (Option V)} {ρ : List Sl}
/-- a new object that nobody tells of -/
theorem Ok.heap (h : Ok B H xs ρ) {p : Addr} {o : HO} (hp : H p = none) : Ok B (upd H p o) xs ρ := by
  have hl := h.len
  obtain ⟨G, ad, k⟩ := h
  have := k.push (G' := G) (H' := upd H p o) (v := none) (r := .un) 0 (Same.refl _) (fun a q1 q2 => absurd q2 q1) (same_upd2 k.gh (k.freeG hp)) (fun b x e _ => same_upd hp _ _ e)
    (fun q hq => by
      obtain ⟨a1, a2, x, y, z, a3⟩ := k.pail q hq
      have : q ≠ p := ne_of_none a3 hp
      exact ⟨a1, x, y, z, by rw [upd_ne this]; exact a3⟩)
    (fun _ e => nomatch e) (fun _ e => nomatch e) (fun e => nomatch e)
  exact Ok.drop (ys := [none]) (rs := [.un]) ⟨_, _, this⟩ hl
end
section
variable {X : Cx} {B : Bs} {pos : Pos}
/-- a, b = x, y by way of a tuple -/
theorem s_parC {a b : Expr} {R : FA} {x y : Str} {px py pt : Pos} {kt k2 pt2} (i j : Nat) (hN : X.N.Nodup) (ha : PA X [a, b] (tDA B R)) (hij : i ≠ j) (hc : X.calm = true := by rfl) (hi : X.N[i]? = some x := by rfl) (hj : X.N[j]? = some y := by rfl)
    (hx : Loc X.env.scope x := by first | exact Or.inl rfl | exact Or.inr rfl) (hy : Loc X.env.scope y := by first | exact Or.inl rfl | exact Or.inr rfl)
    (hfx : X.fn x = true ∨ X.env.scope.names.lookup x = some .local := by first | exact .inl rfl | exact .inr rfl | assumption) (hfy : X.fn y = true ∨ X.env.scope.names.lookup y = some .local := by first | exact .inl rfl | exact .inr rfl | assumption)
    (hw : swappedStores [.Tuple [.Name x px, .Name y py] kt pt] (.Tuple [a, b] k2 pt2) X.env = pure none := by rfl)
    (hs : swapsWithSole [.Tuple [.Name x px, .Name y py] kt pt] (.Tuple [a, b] k2 pt2) pos.line X.env = pure false := by rfl) :
    PS X (.Assign [.Tuple [.Name x px, .Name y py] kt pt] (.Tuple [a, b] k2 pt2) pos) (tDS B (fPar i j R)) := by
  refine ps_w (ps_asg (pe_tup ha) (pg_tup (n := 2) hc (pgs_cons (pg_name hN hi hx hfx) (pgs_cons (pg_name hN hj hy hfy) pgs_nil ae_name) ae_name) (ae_len _) (ae_find _ rfl)) hs hw ae_one) fun D σ H h => ?_
  obtain ⟨ρ, ys, rs, δ, hl, ok, hF, q1, q2, q3, q4⟩ := h
  refine ⟨ρ, ys, rs, _, hl, ok, hF, fun vs H1 qs hv ok1 hP => ?_⟩
  unfold fParK at hP
  split at hP
  · rename_i a b
    obtain ⟨v, w, rfl⟩ := two_len hv
    refine ⟨by show 2 ≤ sizeLine; decide, fun p hp => ?_⟩
    refine ⟨p, [v, w], rfl, SqT.of upd_same, rfl, v, [w], rfl, w, [], rfl, rfl, ?_⟩
    have ok1' := ok1.heap (o := .tup [v, w]) hp
    have ok3 := Ok.store (σ := σ) (ρ := ρ) (ys := ys ++ [some v]) (rs := rs ++ [a]) (v := w) (r := b) (i := j) (by simpa using ok1') hl
    have ok4 := Ok.store (σ := σ.set j (some w)) (ρ := ρ.set j b) (ys := ys) (rs := rs) (v := v) (r := a) (i := i) (by simpa using ok3) (by simp [hl])
    rw [List.set_comm _ _ (Ne.symm hij), List.set_comm _ _ (Ne.symm hij)] at ok4
    exact q1 _ _ _ (by simp [hl]) (by simp) ok4 hP
  · exact hP.elim
/-- a, b, c = x, y, z -/
def fPar3K (i j l : Nat) (ρ : List Sl) (qs : List Sl) (PR : List Sl → Prop) : Prop := match qs with
  | [a, b, c] => PR (((ρ.set i a).set j b).set l c)
  | _ => False
def fPar3 (i j l : Nat) (R : FA) : FST := fun δ ρ => R ρ fun qs => fPar3K i j l ρ qs δ.nx
theorem three_len {α : Type} {vs : List α} (h : vs.length = 3) : ∃ x y z, vs = [x, y, z] := by
  match vs, h with
  | [x, y, z], _ => exact ⟨x, y, z, rfl⟩
theorem s_par3 {a b c : Expr} {R : FA} {x y z : Str} {px py pz pt : Pos} {kt k2 pt2} (i j l : Nat) (hN : X.N.Nodup) (ha : PA X [a, b, c] (tDA B R)) (hc : X.calm = true := by rfl) (hi : X.N[i]? = some x := by rfl) (hj : X.N[j]? = some y := by rfl) (hl' : X.N[l]? = some z := by rfl)
    (hij : i ≠ j := by decide) (hil : i ≠ l := by decide) (hjl : j ≠ l := by decide)
    (hx : X.env.scope.names.lookup x = some .local := by rfl) (hy : X.env.scope.names.lookup y = some .local := by rfl) (hz : X.env.scope.names.lookup z = some .local := by rfl)
    (hw : swappedStores [.Tuple [.Name x px, .Name y py, .Name z pz] kt pt] (.Tuple [a, b, c] k2 pt2) X.env = pure (some [x, y, z]) := by rfl)
    (hs : swapsWithSole [.Tuple [.Name x px, .Name y py, .Name z pz] kt pt] (.Tuple [a, b, c] k2 pt2) pos.line X.env = pure false := by rfl) :
    PS X (.Assign [.Tuple [.Name x px, .Name y py, .Name z pz] kt pt] (.Tuple [a, b, c] k2 pt2) pos) (tDS B (fPar3 i j l R)) := by
  refine ps_w (ps_par3 hc hN hi hj hl' hij hil hjl hx hy hz ha hw hs) fun D σ H h => ?_
  obtain ⟨ρ, ys, rs, δ, hl, ok, hF, q1, q2, q3, q4⟩ := h
  refine ⟨ρ, ys, rs, _, hl, ok, hF, fun vs H1 qs hv ok1 hP => ?_⟩
  unfold fPar3K at hP
  split at hP
  · rename_i a b c
    obtain ⟨u, v, w, rfl⟩ := three_len hv
    refine ⟨u, v, w, rfl, ?_⟩
    have ok3 := Ok.store (σ := σ) (ρ := ρ) (ys := ys ++ [some u, some v]) (rs := rs ++ [a, b]) (v := w) (r := c) (i := l) (by simpa using ok1) hl
    have ok4 := Ok.store (σ := σ.set l (some w)) (ρ := ρ.set l c) (ys := ys ++ [some u]) (rs := rs ++ [a]) (v := v) (r := b) (i := j) (by simpa using ok3) (by simp [hl])
    have ok5 := Ok.store (σ := (σ.set l (some w)).set j (some v)) (ρ := (ρ.set l c).set j b) (ys := ys) (rs := rs) (v := u) (r := a) (i := i) (by simpa using ok4) (by simp [hl])
    rw [List.set_comm (some w) (some v) (Ne.symm hjl), List.set_comm c b (Ne.symm hjl), List.set_comm (some w) (some u) (Ne.symm hil), List.set_comm c a (Ne.symm hil), List.set_comm (some v) (some u) (Ne.symm hij), List.set_comm b a (Ne.symm hij)] at ok5
    exact q1 _ H1 _ (by simp [hl]) (by simp) ok5 hP
  · exact hP.elim
end
/-! ### products with a short factor -/
def CMulS (i j : Int) : Prop := Builtin.Int.intBits i ≤ 64 ∨ Builtin.Int.intBits j ≤ 64
theorem op_mulS {X : Cx} : OpR X (binaryOp .Mult) (rI CMulS fun i j => .int (i * j)) := opI fun _ _ _ _ _ _ _ hc q => mul_int q (hc.elim IntMulOk.of_left IntMulOk.of_right)
/-! ### keyword calls -/
section
variable {P : Program} {w : World} {K : PySem.W.Frag} {mg : Str → Option Value} {base : Heap}
/-- no exception is asked for: a def like others -/
theorem goodX_good {k : Nat} {x : Str} {ps : List Str} {C : Addr} {S : FXS} (g : GoodX P w K mg base k x ps C S) : Good P w K mg base k x ps fun rs P => S rs P False := by
  obtain ⟨f, fd, hm, hk, hb, F⟩ := g
  have up : ∀ vs H Q E, spD K (fun rs P => S rs P False) vs H Q E → spX K C S vs H Q fun _ _ _ => False := fun vs H Q E ⟨G, pa, rs, P, q1, q2, q3⟩ => ⟨G, pa, rs, P, False, q1, q2, q3, fun _ _ z => z⟩
  refine ⟨f, fd, hm, hk, hb, fun vs H Q E h => F.len vs H Q _ (up vs H Q E h), fun A outer s H args us vs Q E hr he hbd hv hs => ?_⟩
  refine codeAny_mono (F.run A outer s H args us vs Q (fun _ _ _ => False) hr he hbd hv (up vs H Q E hs)) fun r s' hq => ?_
  cases r with
  | ok fl => cases fl <;> exact hq
  | error e =>
    obtain ⟨_, _, _, _, _, _, _, _, _, _, _, _, z⟩ := hq
    exact z.elim
theorem vals_swap {vs : List V} {us : List Value} (h : Vals vs us) : Vals (swap2 vs) (swap2 us) := by
  cases h with
  | nil => exact .nil
  | cons a b =>
    cases b with
    | nil => exact .cons a .nil
    | cons c d =>
      cases d with
      | nil => exact .cons c (.cons a .nil)
      | cons e f => exact .cons a (.cons c (.cons e f))
theorem vals_app {vs : List V} {us : List Value} (h : Vals vs us) {zs : List V} {ws : List Value} (h' : Vals zs ws) : Vals (vs ++ zs) (us ++ ws) := by
  induction h with
  | nil => exact h'
  | cons a b ih => exact .cons a ih
end
end DL
/-! DL11: the pail. -/
namespace DL
open PySem PySem.Spec PyProof.Rows L2
section
variable {B : Bs} {G : Hp} {ad : Nat → Addr} {H : Hp} {xs : List (Option V)} {ρ : List Sl}
/-- where the pail stands -/
theorem Ok.pailAt (h : Ok B H xs ρ) {i : Nat} (e : ρ[i]? = some .pl) : ∃ p a b c, B.pa = some p ∧ xs[i]? = some (some (V.ref p)) ∧ H p = some (.lst [.int a, .int b, .int c]) := by
  obtain ⟨G, ad, o⟩ := h
  obtain ⟨p, h1, h2⟩ := o.pl i e
  obtain ⟨_, _, a, b, c, h3⟩ := o.pail p h1
  exact ⟨p, a, b, c, h1, h2, h3⟩
/-- the pail changes -/
theorem Ok.mutPail (h : Ok B H xs ρ) {p : Addr} (hp : B.pa = some p) {a b c : Int} : Ok B (upd H p (.lst [.int a, .int b, .int c])) xs ρ := by
  obtain ⟨G, ad, o⟩ := h
  obtain ⟨g0, h0, _⟩ := o.pail p hp
  refine ⟨G, ad, o.g0, o.fr, same_upd2 o.gh g0, fun x y e1 e2 => ?_, o.len, o.dat, fun i ds e => ?_, o.sep, o.pl, fun q hq => ?_⟩
  · rw [upd_ne (fun z => e2 (by rw [z]; exact hp))]
    exact o.keep x y e1 e2
  · obtain ⟨e1, e2, e3, vs, e4, e5⟩ := o.own i ds e
    refine ⟨e1, e2, e3, vs, ?_, e5⟩
    rw [upd_ne (fun z => h0 (by rw [← z]; exact e3))]
    exact e4
  · rw [hp] at hq
    cases hq
    exact ⟨g0, h0, a, b, c, upd_same⟩
end
section
variable {X : Cx} {B : Bs} {pos p : Pos} {e : Expr}
/-- an int of the pail -/
def fPail (i : Nat) : FE := fun ρ P => match ρ[i]? with
  | some .pl => ∀ v : Int, P (.dat (.int v))
  | _ => False
theorem d_pail {x : Str} {k : Int} {j : Nat} {p2 : Pos} (i : Nat) (hk : k = 0 ∨ k = 1 ∨ k = 2) (hN : X.N[i]? = some x := by rfl) (hv : Vis X.env.scope x := by first | exact Or.inl rfl | exact Or.inr (Or.inl rfl) | exact Or.inr (Or.inr rfl))
    (hd : (x == ("__debug__" : Str)) = false := by decide) (hcd : (x == ("__classdict__" : Str)) = false := by decide) (hs : PlainIx (.Constant (.int k) j p2) := by intro _ _; rfl) :
    PE X (.Subscript (.Name x p) (.Constant (.int k) j p2) pos) (tD B (fPail i)) := by
  refine pe_w (pe_ix ix_list (pe_var hN hv hd hcd) pe_int hs) fun σ H Q h => ?_
  obtain ⟨ρ, ys, rs, P, hl, ok, hF, q⟩ := h
  unfold fPail at hF
  split at hF
  · rename_i hi
    have hi1 : i < ρ.length := (List.getElem?_eq_some_iff.mp hi).1
    obtain ⟨r, a, b, c, h1, h2, h3⟩ := ok.pailAt (i := i) (by rw [List.getElem?_append_left hi1]; exact hi)
    rw [List.getElem?_append_left (by omega)] at h2
    have key : ∃ v, atI [V.int a, .int b, .int c] k = some (.int v) := by
      rcases hk with rfl | rfl | rfl
      · exact ⟨a, rfl⟩
      · exact ⟨b, rfl⟩
      · exact ⟨c, rfl⟩
    obtain ⟨v, hv⟩ := key
    refine ⟨.ref r, h2, r, _, k, .int v, rfl, rfl, SqL.of h3, hv, q (.int v) H (.dat (.int v)) ?_ (hF v)⟩
    have := ok.flat (v := .int v) (d := .int v) fun _ => .int _
    simpa using this
  · exact hF.elim
/-- pail[k] = .. -/
def gPail (i : Nat) : FG := fun r ρ P => match r, ρ[i]? with
  | .dat (.int _), some .pl => P ρ
  | _, _ => False
theorem g_pail {x : Str} {k : Int} {j : Nat} {p2 : Pos} (i : Nat) (hk : k = 0 ∨ k = 1 ∨ k = 2) (hN : X.N[i]? = some x := by rfl) (hv : Vis X.env.scope x := by first | exact Or.inl rfl | exact Or.inr (Or.inl rfl) | exact Or.inr (Or.inr rfl))
    (hd : (x == ("__debug__" : Str)) = false := by decide) (hcd : (x == ("__classdict__" : Str)) = false := by decide)
    (hass : ∀ v, assign (.Subscript (.Name x p) (.Constant (.int k) j p2) pos) X.env v = (do
      let ov ← holding [v] (eval (.Name x p) X.env)
      let iv ← holding [v, ov] (eval (.Constant (.int k) j p2) X.env)
      standAt pos
      holding [v, ov, iv] (setItem ov iv v)
      release [v, ov, iv] []) := by intro _; rfl) : PG X (.Subscript (.Name x p) (.Constant (.int k) j p2) pos) (tDG B (gPail i)) := by
  refine pg_w (pg_sub (pe_var hN hv hd hcd) pe_int set_list hass) fun v σ H Q h => ?_
  obtain ⟨ρ, ys, rs, r, P, hl, ok, hg, q⟩ := h
  unfold gPail at hg
  split at hg
  · rename_i n hi
    have hi1 : i < ρ.length := (List.getElem?_eq_some_iff.mp hi).1
    obtain ⟨w, a, b, c, h1, h2, h3⟩ := ok.pailAt (i := i) (by rw [List.getElem?_append_left hi1]; exact hi)
    rw [List.getElem?_append_left (by omega)] at h2
    have ok1 : Ok B H ((σ ++ ys) ++ [some v]) ((ρ ++ rs) ++ [.dat (.int n)]) := by simpa using ok
    have hv := ok1.last
    cases hv
    have hl2 : (σ ++ ys).length = (ρ ++ rs).length := by
      have := ok1.len
      simp only [List.length_append, List.length_cons, List.length_nil] at this ⊢
      omega
    have ok2 := ok1.drop hl2
    have key : ∃ j' a' b' c', ixN [V.int a, .int b, .int c].length k = some j' ∧ [V.int a, .int b, .int c].set j' (.int n) = [.int a', .int b', .int c'] := by
      rcases hk with rfl | rfl | rfl
      · exact ⟨0, n, b, c, rfl, rfl⟩
      · exact ⟨1, a, n, c, rfl, rfl⟩
      · exact ⟨2, a, b, n, rfl, rfl⟩
    obtain ⟨j', a', b', c', k1, k2⟩ := key
    refine ⟨.ref w, h2, w, _, k, j', rfl, rfl, h3, k1, ?_⟩
    rw [k2]
    exact q σ _ ρ hl rfl (ok2.mutPail h1) hg
  · exact hg.elim
/-- divmod -/
def fDivmod : List Sl → (Sl → Prop) → Prop := fun qs P => match qs with
  | [.dat (.int i), .dat (.int j)] => CDivP i j ∧ P (.dat (.tuple [.int (i / j), .int (i % j)]))
  | _ => False
theorem cd_divmod : CallD B (fun xs H Q => ∃ i j, xs = [.int i, .int j] ∧ CDivP i j ∧ ∀ p, H p = none → Q (.ref p) (upd H p (.tup [.int (i / j), .int (i % j)]))) fDivmod := by
  intro H xs ρ vs qs P Q hl hv ok hF q
  unfold fDivmod at hF
  split at hF
  · rename_i i j
    obtain ⟨x, y, rfl⟩ := two_len hv
    obtain ⟨rfl, rfl, o⟩ := ok.two_int
    refine ⟨i, j, rfl, hF.1, fun r hr => ?_⟩
    obtain ⟨G, ad, o⟩ := o
    exact q _ _ _ (o.newT (.cons (.int _) (.cons (.int _) .nil)) hr) hF.2
  · exact hF.elim
/-- all of a list of truths -/
def bools : List PyData → Option (List Bool)
  | [] => some []
  | .bool b :: r => (bools r).map (b :: ·)
  | _ :: _ => none
theorem bools_map : ∀ {ds : List PyData} {bs : List Bool}, bools ds = some bs → ds = bs.map PyData.bool
  | [], _, h => by cases h; rfl
  | .bool b :: r, bs, h => by
    unfold bools at h
    cases e : bools r with
    | none => rw [e] at h; cases h
    | some es =>
      rw [e] at h
      cases h
      rw [bools_map e]; rfl
  | .none :: _, _, h => nomatch h
  | .int _ :: _, _, h => nomatch h
  | .str _ :: _, _, h => nomatch h
  | .list _ :: _, _, h => nomatch h
  | .tuple _ :: _, _, h => nomatch h
  | .dict _ :: _, _, h => nomatch h
def fAllK (r : Sl) (P : Sl → Prop) : Prop := match r with
  | .dat (.list ds) => match bools ds with
    | some bs => P (.dat (.bool (bs.all id)))
    | none => False
  | _ => False
def fAll : List Sl → (Sl → Prop) → Prop := fun qs P => match qs with
  | [r] => fAllK r P
  | _ => False
theorem dv_bools {K : PySem.W.Frag} {G : Hp} : ∀ {bs : List Bool} {vs : List V}, DvAll K G vs (bs.map PyData.bool) → vs = bs.map V.bl
  | [], _, .nil => rfl
  | b :: bs, _, .cons h a => by
    cases h
    rw [dv_bools a]; rfl
theorem cd_all (hK : B.K = X.K) : CallD B (rAll X.K) fAll := by
  intro H xs ρ vs qs P Q hl hv ok hF q
  unfold fAll at hF
  split at hF
  · rename_i r
    unfold fAllK at hF
    split at hF
    · rename_i ds
      split at hF
      · rename_i bs hb
        have hm := bools_map hb
        subst hm
        obtain ⟨x, rfl⟩ := one_len hv
        have ok1 : Ok B H (xs ++ [some x]) (ρ ++ [.dat (.list (bs.map PyData.bool))]) := by simpa using ok
        obtain ⟨G, ad, o⟩ := id ok1
        obtain ⟨a, vs, g1, g2, g3⟩ := o.lstL (i := ρ.length) (.inl get_last)
        rw [← hl, get_last] at g1
        cases g1
        rw [dv_bools g3] at g2
        exact ⟨a, bs, rfl, .inl g2, q _ H _ ((ok1.drop hl).flat fun _ => .bl _) hF⟩
      · exact hF.elim
    · exact hF.elim
  · exact hF.elim
end
end DL
/-! DL12: repr; defs that ask that nothing is being shown; keyword calls by name; a list of one's own given as the pail. -/
namespace DL
open PySem PySem.Spec PyProof.Rows L2
/-! ### repr -/
section
variable {X : Cx} {B : Bs}
def isDisp : PyData → Bool
  | .list _ => true
  | .tuple _ => true
  | .none => true
  | _ => false
/-- may be shown -/
structure ShowOk (d : PyData) : Prop where
  dp : isDisp d = true
  sh : d.showable = true
  nd : d.hasDict = false
  de : d.depth ≤ 60
  sz : d.shown.length ≤ sizeLine
def fReprK (r : Sl) (P : Sl → Prop) : Prop := match r with
  | .dat d => ShowOk d ∧ P (.dat (.str d.shown))
  | _ => False
/-- the form is not told -/
@[irreducible] def fReprI (r : Sl) (P : Sl → Prop) : Prop := fReprK r P
def fRepr : List Sl → (Sl → Prop) → Prop := fun qs P => match qs with
  | [r] => fReprI r P
  | _ => False
def rReprD (K : PySem.W.Frag) : List V → Hp → VK → Prop := fun xs H Q => ∃ v d, xs = [v] ∧ Dp K H v d ∧ ShowOk d ∧ Q (.str d.shown) H
theorem call_reprD (hG : X.A.guards = some []) (hu : X.A.units + 64 < cLine) : CallR X (.builtin "repr") (rReprD X.K) := by
  intro pins s σ H xs us Q I r h
  obtain ⟨v, d, rfl, hd, ok, q⟩ := h
  cases r with
  | cons rv rr =>
    cases rr
    obtain ⟨as, rd⟩ := Dp.reads I d v _ hd rv
    have dsp := ok.dp
    by_cases hn : d = .none
    · subst hn
      cases hd
      have e : _ = Value.none := rv
      subst e
      exact P.repr_of_none ⟨.str _, H, I.tok _, ⟨_, rfl⟩, q⟩
    · have hdis : isDisplay d = true := by
        cases d <;> first | rfl | exact absurd rfl hn | exact nomatch dsp
      obtain ⟨a, rfl⟩ := isRef_of_reads rd hdis
      have := ok.de
      refine repr_of_reads' rd ok.sh (PyData.noDict_hsm ok.nd) hG (by omega) (fun _ _ e => e) (fun h' u tk hk => ?_) ok.sz
      exact ⟨.str d.shown, H, I.kept hk, ⟨_, rfl⟩, q⟩
theorem cd_repr (hK : B.K = X.K) : CallD B (rReprD X.K) fRepr := by
  intro H xs ρ vs qs P Q hl hv ok hF q
  unfold fRepr at hF
  split at hF
  · rename_i r
    unfold fReprI fReprK at hF
    split at hF
    · rename_i d
      obtain ⟨x, rfl⟩ := one_len hv
      have ok1 : Ok B H (xs ++ [some x]) (ρ ++ [.dat d]) := by simpa using ok
      have hd := ok1.last
      rw [hK] at hd
      exact ⟨x, d, rfl, hd, hF.1, q _ H _ ((ok1.drop hl).flat fun _ => .str _) hF.2⟩
    · exact hF.elim
  · exact hF.elim
theorem repr_go {d : PyData} {P : Sl → Prop} (h : ShowOk d) (hP : P (.dat (.str d.shown))) : fReprI (.dat d) P := by unfold fReprI; exact ⟨h, hP⟩
end
/-! ### a def that is called while nothing is being shown -/
structure FnG (P : Program) (w : World) (K : PySem.W.Frag) (mg : Str → Option Value) (base : Heap) (k : Nat) (f : Addr) (fd : FuncData) (ps : List Str) (sp : Sp) : Prop where
  len : ∀ vs H Q E, sp vs H Q E → vs.length = ps.length
  run : ∀ (A : Around) (outer : List Env) (s : Shared) (H : Hp) (args : Args) (us : List Value) (vs : List V) (Q : VK) (E : XK), A.guards = some [] → Room k A → Env0 P w K mg base A outer s H → BindsTo s fd args (ps.zip us) → Vals vs us → sp vs H Q E →
    codeAny (model P w) A (.call (.ref f) args) (CR CX0 outer P w H s Q E) s
def GoodG (P : Program) (w : World) (K : PySem.W.Frag) (mg : Str → Option Value) (base : Heap) (k : Nat) (x : Str) (ps : List Str) (S : FS) : Prop :=
  ∃ f fd, mg x = some (.ref f) ∧ PySem.W.keepIn K (.ref f) = true ∧ (Binds K fd ps [] ∧ FdAt K f fd) ∧ FnG P w K mg base k f fd ps (spD K S)
theorem good_mkG {P : Program} {w : World} {K : PySem.W.Frag} {mg : Str → Option Value} {base : Heap} {x : String} {st : Stmt} {N ps : List Str} {k : Nat} {S : FS} (D : DefAt K mg x st) (Sc : FnScope N ps (defScope st))
    (hb : ∀ (kV doc pm : Value) (an : Option Addr) (cdv ct : Value) (us : List Value), us.length = ps.length → bindArgs (PySem.W.fnOf x x (defArgs st) (defBody st) (defScope st) .none kV doc pm an cdv ct) ⟨us, []⟩ = pure (ps.zip us))
    (len : ∀ rs P, S rs P → rs.length = ps.length)
    (hbody : ∀ (cdv : Value) (A : Around) (outer : List Env) (s : Shared) (H : Hp) (E : XK) (B : Bs) (f : Addr), B.K = K → A.guards = some [] → Room k (A.deeper (envOfC x (defScope st) s.heap.objs.size f cdv)) →
      ∃ T : FST, PSs (cxOf CX0 P w K mg base N x (defScope st) f cdv A outer s H E).nox (defBody st) (tDS B T) ∧ ∀ rs P, S rs P → T { nx := fun _ => P (.dat .none), rt := P } (rs ++ List.replicate (N.length - rs.length) .un)) :
    GoodG P w K mg base (k + 1) x ps S := by
  obtain ⟨f, fd, F, hm⟩ := D
  have slen : ∀ vs H Q E, spD K S vs H Q E → vs.length = ps.length := fun vs H Q E ⟨G, pa, rs, P, ok, hS, _⟩ => by
    have := ok.len
    rw [List.length_map] at this
    rw [this, len rs P hS]
  refine ⟨f, fd, hm, F.kp, ⟨F.binds hb, fdAt_of F⟩, slen, fun A outer s H args us vs Q E hg hr e0 hbd rel hsp => ?_⟩
  have hl := slen vs H Q E hsp
  obtain ⟨G, pa, rs, P, ok, hS, q⟩ := hsp
  obtain ⟨oc, od, kV, doc, pm, an, cdv, ct, osl, rfl, lk, hcd⟩ := F.ex
  have inHeap : K.In s.heap := e0.mod.kin.keeps fun b o e => (e0.bs b o e).1
  have noLim : s.heap.NoLimit := e0.mod.nolimit.keeps fun b o e => (e0.bs b o e).1
  have inScope : ∀ y ∈ ps.zip us, (defScope st).names.lookup y.1 = some .local ∨ ((defScope st).names.lookup y.1 = some .cell ∧ ((cellsFrom (s.heap.objs.size + 1) (defScope st).names []).lookup y.1).isSome = true) := fun y hy =>
    (Sc.par y.1 (List.of_mem_zip hy).1).elim .inl fun z => .inr ⟨z, PySem.W.cellsFrom_some _ _ _ (.inl z)⟩
  refine codeAny_call_function hr.depth (inHeap _ _ lk) rfl Sc.co Sc.gen rfl (PySem.W.codeRec_of inHeap hcd) (hbd _ _ _ _ (wpAny_newFunctionEnv_cells Sc.kind inScope fun env he s1 y => ?_))
  subst he
  refine ⟨noLim.keeps y.toInCall.keep, codeAny_func ?_⟩
  obtain ⟨T, h1, h2⟩ := hbody cdv A outer s H E ⟨K, G, H, pa⟩ f rfl hg (hr.deeper _)
  have J := inv_start (CX := CX0) (E := E) Sc hr.hd e0 hl rel y
  have okl := ok.len
  rw [List.length_map] at okl
  have start : tDS ⟨K, G, H, pa⟩ T { nx := fun _ H' => Q .non H', rt := Q } (L2.start N vs) H := by
    refine ⟨rs ++ List.replicate (N.length - vs.length) Sl.un, [], [], { nx := fun _ => P (.dat .none), rt := P }, by simp [L2.start, okl], Ok.start ok, by rw [okl]; exact h2 rs P hS, fun σ' H' ρ' a b ok' hn => ?_, fun v H' r ok' hr => q v r H' ok' hr, fun _ _ _ _ _ _ h => h.elim, fun _ _ _ _ _ _ h => h.elim⟩
    refine q .non (.dat .none) H' ?_ hn
    have := ok'.flat (v := .non) (d := .none) fun _ => .non
    exact Ok.lastOnly this
  refine wpAny_mono (h1.nox.run [] s1 (L2.start N vs) H _ J start) (fun fl s' hs => ?_) fun e s' hs => hs
  cases fl with
  | ret u =>
    obtain ⟨v, σ', H', J', rv, qq⟩ := hs
    exact ⟨v, H', J'.os, J'.bare, J'.base, J'.hok, rv, qq⟩
  | next =>
    obtain ⟨σ', H', J', qq⟩ := hs
    exact ⟨V.non, H', J'.os, J'.bare, J'.base, J'.hok, rfl, qq⟩
  | brk => exact hs.elim fun _ z => z.elim fun _ z => z.2.elim
  | cont => exact hs.elim fun _ z => z.elim fun _ z => z.2.elim
section
variable {X : Cx} {B : Bs} {k : Nat} {ps : List Str} {S : FS} {x : Str} {p pos : Pos} {e : Expr} {es : List Expr} {R : FA}
theorem run_g {f : Addr} {fd : FuncData} {sp : Sp} {pins : List (Addr × Obj)} {σ : L2.St} {H : Hp} {s : Shared} {Q : VK} {us : List Value} {vs : List V} (F : FnG X.prog X.w X.K X.mg X.base k f fd ps sp) (hG : X.A.guards = some []) (hr : Room k X.A) (hb : Binds X.K fd ps [])
    (I : Inv X pins σ H s) (r : Vals vs us) (h : sp vs H Q E0) : wpAny (model X.prog X.w) X.A (call (.ref f) us) (EP X pins σ Q) X.xe s := by
  have hl : us.length = ps.length := by
    have := F.len vs H Q E0 h
    rw [r.length] at this; exact this
  have bt := hb s us I.kIn (by rw [List.append_nil]; exact hl)
  rw [List.append_nil] at bt
  have run := F.run X.A X.stack s H ⟨us, []⟩ us vs Q E0 hG hr I.env0 bt r h
  refine wpAny_call (codeAny_mono run fun z s' hz => ?_)
  cases z with
  | error e => exact hz.elim
  | ok fl => cases fl <;> first | exact I.after hz | exact hz.elim
theorem c_callG (g : GoodG X.prog X.w X.K X.mg X.base k x ps S) (hK : B.K = X.K) (hG : X.A.guards = some []) (hr : Room k X.A) (ha : PA X (e :: es) (tDA B R)) (hg : Gl X x := by rfl)
    (hdb : (x == ("__debug__" : Str)) = false := by decide) (he : starEach (e :: es) X.env = (false, eval e X.env) :: starEach es X.env := by rfl) (hpl : (backTo pos (starEach es X.env)).any (·.1) = false := by rfl) :
    PE X (.Call (.Name x p) (e :: es) [] pos) (tD B (fCall R S)) := by
  obtain ⟨f, fd, hm, hk, hb, F⟩ := g
  refine ⟨fun pins s σ H Q I h => ?_⟩
  obtain ⟨ρ, ys, rs, P, hl, ok, hF, q⟩ := h
  refine wpAny_Call_Name_kw (ld_glob I hg hm ?_ hdb)
  refine PySem.W.callWith_K (h₀ := X.base) I.ok.mod.kin hk (thn (ha.run pos pins s σ H (fun vs H1 => spD X.K S vs H1 Q E0) I ⟨ρ, ys, rs, _, hl, ok, hF, fun vs H1 qs hv ok1 hP => ?_⟩) fun us s1 ⟨vs, H1, I1, r, q1⟩ => ⟨I1.kIn, run_g F hG hr hb.1 I1 r q1⟩) he hpl
  obtain ⟨G, c1, c2⟩ := Ok.call (xs := σ ++ ys) (ρ := ρ ++ rs) (vs := vs) (rs := qs) (by simpa using ok1) ok.len hP.out.1
  rw [hK] at c1 c2
  exact ⟨G, B.pa, qs, P, c1, hP.out.2, fun v r H' h' hr => q v H' r (by have := c2 v r H' h'; simpa using this) hr⟩
end
end DL
/-! DL13: keyword calls by name; a list of one's own given as the pail. -/
namespace DL
open PySem PySem.Spec PyProof.Rows L2
/-- how a def with two parameters takes them by keyword, the second first -/
def KB2 (x : Str) (st : Stmt) (a b : Str) : Prop := ∀ (kV doc pm : Value) (an : Option Addr) (cdv ct : Value),
  (∀ v w, bindArgs (PySem.W.fnOf x x (defArgs st) (defBody st) (defScope st) .none kV doc pm an cdv ct) ⟨[], [(b, w), (a, v)]⟩ = pure [(a, v), (b, w)]) ∧
  (∀ v w, bindArgs (PySem.W.fnOf x x (defArgs st) (defBody st) (defScope st) .none kV doc pm an cdv ct) ⟨[v], [(b, w)]⟩ = pure [(a, v), (b, w)]) ∧
  ∀ v w, bindArgs (PySem.W.fnOf x x (defArgs st) (defBody st) (defScope st) .none kV doc pm an cdv ct) ⟨[v, w], []⟩ = pure [(a, v), (b, w)]
def KB1 (x : Str) (st : Stmt) (a : Str) : Prop := ∀ (kV doc pm : Value) (an : Option Addr) (cdv ct : Value),
  (∀ v, bindArgs (PySem.W.fnOf x x (defArgs st) (defBody st) (defScope st) .none kV doc pm an cdv ct) ⟨[], [(a, v)]⟩ = pure [(a, v)]) ∧
  ∀ v, bindArgs (PySem.W.fnOf x x (defArgs st) (defBody st) (defScope st) .none kV doc pm an cdv ct) ⟨[v], []⟩ = pure [(a, v)]
theorem swap2_len {α : Type} : ∀ ws : List α, (swap2 ws).length = ws.length
  | [] => rfl
  | [_] => rfl
  | [_, _] => rfl
  | _ :: _ :: _ :: _ => rfl
theorem kbinds2 {K : PySem.W.Frag} {x : Str} {st : Stmt} {f : Addr} {fd : FuncData} {a b : Str} (F : Fun K x x st f fd) (h : KB2 x st a b) : KBinds K fd [a, b] [b, a] (fun us ws => us ++ swap2 ws) (fun vs zs => vs ++ swap2 zs) := by
  obtain ⟨oc, od, kV, doc, pm, an, cdv, ct, osl, rfl, lk, hcd⟩ := F.ex
  obtain ⟨h1, h2, h3⟩ := h kV doc pm an cdv ct
  refine ⟨fun s us ws _ hl => .of_eq ?_, fun r rz => vals_app r (vals_swap rz)⟩
  rw [List.length_append, swap2_len] at hl
  match us, ws, hl with
  | [], [w, v], _ => exact h1 v w
  | [v], [w], _ => exact h2 v w
  | [v, w], [], _ => exact h3 v w
  | [], [], hl => exact nomatch hl
  | [], [_], hl => exact nomatch hl
  | [], _ :: _ :: _ :: _, hl => simp only [List.length_cons, List.length_nil] at hl; omega
  | [_], [], hl => exact nomatch hl
  | [_], _ :: _ :: _, hl => simp only [List.length_cons, List.length_nil] at hl; omega
  | [_, _], _ :: _, hl => simp only [List.length_cons, List.length_nil] at hl; omega
  | _ :: _ :: _ :: _, _, hl => simp only [List.length_cons, List.length_nil] at hl; omega
theorem kbinds1 {K : PySem.W.Frag} {x : Str} {st : Stmt} {f : Addr} {fd : FuncData} {a : Str} (F : Fun K x x st f fd) (h : KB1 x st a) : KBinds K fd [a] [a] (fun us ws => us ++ ws) (fun vs zs => vs ++ zs) := by
  obtain ⟨oc, od, kV, doc, pm, an, cdv, ct, osl, rfl, lk, hcd⟩ := F.ex
  obtain ⟨h1, h2⟩ := h kV doc pm an cdv ct
  refine ⟨fun s us ws _ hl => .of_eq ?_, fun r rz => vals_app r rz⟩
  rw [List.length_append] at hl
  match us, ws, hl with
  | [], [v], _ => exact h1 v
  | [v], [], _ => exact h2 v
  | [], [], hl => exact nomatch hl
  | [], _ :: _ :: _, hl => simp only [List.length_cons, List.length_nil] at hl; omega
  | [_], _ :: _, hl => simp only [List.length_cons, List.length_nil] at hl; omega
  | _ :: _ :: _, _, hl => simp only [List.length_cons, List.length_nil] at hl; omega
section
variable {X : Cx} {B : Bs} {k : Nat} {S : FS} {x : String} {st : Stmt} {a b : Str} {p pos : Pos} {e : Expr} {es : List Expr} {R : FA} {kws : List Keyword}
theorem fd_same {P : Program} {w : World} {K : PySem.W.Frag} {mg : Str → Option Value} {base : Heap} {ps : List Str} (g : Good P w K mg base k x ps S) (D : DefAt K mg x st) : ∃ f fd, mg x = some (.ref f) ∧ PySem.W.keepIn K (.ref f) = true ∧ Fun K x x st f fd ∧ FnOk P w K mg base CX0 k f fd ps (spD K S) := by
  obtain ⟨f, fd, hm, hk, hb, F⟩ := g
  obtain ⟨f', fd', F', hm'⟩ := D
  rw [hm] at hm'
  cases hm'
  have := hb.2.uniq (fdAt_of F')
  subst this
  exact ⟨f, fd, hm, hk, F', F⟩
theorem c_callK2 (g : Good X.prog X.w X.K X.mg X.base k x [a, b] S) (D : DefAt X.K X.mg x st) (kb : KB2 x st a b) (hK : B.K = X.K) (hr : Room k X.A)
    (hkw : PK X kws (tDA B R)) (hg : Gl X x := by rfl) (hall : (backToKw pos (keywordEach kws X.env)).all (·.1.isSome) = true := by rfl) (hks : (backToKw pos (keywordEach kws X.env)).filterMap (·.1) = [b, a] := by rfl)
    (hdb : ((x : Str) == ("__debug__" : Str)) = false := by decide)
    (hpl : ((backTo pos (starEach [] X.env)).any (·.1) || (backToKw pos (keywordEach kws X.env)).any (·.1.isNone)) = false := by rfl) :
    PE X (.Call (.Name x p) [] kws pos) (tD B (fun ρ P => R ρ fun qs => fSwK S qs P)) := by
  obtain ⟨f, fd, hm, hk, F', F⟩ := fd_same g D
  exact d_callK2 F hK hr hg hm hk (kbinds2 F' kb) hkw hall hks hdb hpl
theorem c_callK1 (g : Good X.prog X.w X.K X.mg X.base k x [a] S) (D : DefAt X.K X.mg x st) (kb : KB1 x st a) (hK : B.K = X.K) (hr : Room k X.A)
    (hkw : PK X kws (tDA B R)) (hg : Gl X x := by rfl) (hall : (backToKw pos (keywordEach kws X.env)).all (·.1.isSome) = true := by rfl) (hks : (backToKw pos (keywordEach kws X.env)).filterMap (·.1) = [a] := by rfl)
    (hdb : ((x : Str) == ("__debug__" : Str)) = false := by decide)
    (hpl : ((backTo pos (starEach [] X.env)).any (·.1) || (backToKw pos (keywordEach kws X.env)).any (·.1.isNone)) = false := by rfl) :
    PE X (.Call (.Name x p) [] kws pos) (tD B (fCall R S)) := by
  obtain ⟨f, fd, hm, hk, F', F⟩ := fd_same g D
  exact d_callK1 F hK hr hg hm hk (kbinds1 F' kb) hkw hall hks hdb hpl
/-! ### == and != of texts -/
@[irreducible] def fEqS (neg : Bool) : Sl → Sl → (Sl → Prop) → Prop := fun x y P => match x, y with
  | .dat (.str a), .dat (.str b) => a = b ∧ P (.dat (.bool (!neg)))
  | _, _ => False
theorem two_str {H : Hp} {xs : List (Option V)} {ρ : List Sl} {x y : V} {a b : Str} (h : Ok B H (xs ++ [some x, some y]) (ρ ++ [.dat (.str a), .dat (.str b)])) : x = .str a ∧ y = .str b ∧ Ok B H xs ρ := by
  obtain ⟨hl, o1, o2, o3⟩ := h.two
  have h1 := o1.last
  have h2 := o2.last
  cases h1
  cases h2
  exact ⟨rfl, rfl, o3⟩
theorem opd_eqS : OpD B rEq (fEqS false) := by
  intro H xs ρ x y qx qy P Q ok hF q
  unfold fEqS at hF
  split at hF
  · rename_i a b
    obtain ⟨rfl, rfl, o⟩ := two_str ok
    obtain ⟨rfl, hF⟩ := hF
    refine ⟨rfl, ?_⟩
    rw [decide_eq_true rfl]
    exact q _ H _ (o.flat fun _ => .bl _) hF
  · exact hF.elim
theorem opd_neS : OpD B rNe (fEqS true) := by
  intro H xs ρ x y qx qy P Q ok hF q
  unfold fEqS at hF
  split at hF
  · rename_i a b
    obtain ⟨rfl, rfl, o⟩ := two_str ok
    obtain ⟨rfl, hF⟩ := hF
    refine ⟨rfl, ?_⟩
    rw [decide_eq_true rfl]
    exact q _ H _ (o.flat fun _ => .bl _) hF
  · exact hF.elim
theorem str_go {a : Str} {neg : Bool} {P : Sl → Prop} (hP : P (.dat (.bool (!neg)))) : fEqS neg (.dat (.str a)) (.dat (.str a)) P := by unfold fEqS; exact ⟨rfl, hP⟩
/-! ### one's own list as the pail -/
theorem Ok.callP {H : Hp} {xs : List (Option V)} {ρ : List Sl} {v : V} {i j l : Int} (h : Ok B H (xs ++ [some v]) (ρ ++ [.own [.int i, .int j, .int l]])) (hl : xs.length = ρ.length) :
    ∃ G q, Ok ⟨B.K, G, H, some q⟩ H [some v] [.pl] ∧ ∀ w r H', Ok ⟨B.K, G, H, some q⟩ H' [some w] [r] → r ≠ .pl → Ok B H' (xs ++ [some w]) (ρ ++ [r]) := by
  obtain ⟨G, ad, o⟩ := h
  obtain ⟨e1, e2, e3, vs, e4, e5⟩ := o.own ρ.length _ get_last
  rw [← hl, get_last] at e1
  cases e1
  have hvs : vs = [.int i, .int j, .int l] := by
    cases e5 with
    | cons a b =>
      cases a
      cases b with
      | cons a b =>
        cases a
        cases b with
        | cons a b =>
          cases a
          cases b
          rfl
  subst hvs
  rw [← hl] at e2 e3 e4
  generalize hq : ad xs.length = q at *
  refine ⟨G, q, ⟨G, ad, Same.refl _, fun a q1 q2 => absurd q2 q1, o.gh, fun a x e _ => e, rfl, fun n d e => ?_, fun n ds e => ?_, fun n m ds es e => ?_, fun n e => ?_, fun p hp => ?_⟩, fun w r H' h' hr => ?_⟩
  · match n with
    | 0 => exact nomatch e
    | n + 1 => exact nomatch e
  · match n with
    | 0 => exact nomatch e
    | n + 1 => exact nomatch e
  · match n with
    | 0 => exact nomatch e
    | n + 1 => exact nomatch e
  · match n with
    | 0 => exact ⟨q, rfl, rfl⟩
    | n + 1 => exact nomatch e
  · cases hp
    refine ⟨e2, ?_, i, j, l, e4⟩
    show H q ≠ none
    rw [e4]; exact fun z => nomatch z
  · obtain ⟨G', ad', c⟩ := h'
    have hHq : H q ≠ none := by rw [e4]; exact fun z => nomatch z
    have o1 : OkG B G ad H xs ρ := o.reix id hl (fun n r e _ => by
      have hi : n < ρ.length := (List.getElem?_eq_some_iff.mp e).1
      refine ⟨?_, ?_⟩
      · rw [id, List.getElem?_append_left hi]; exact e
      · rw [id, List.getElem?_append_left (by omega)]) (fun i j _ _ _ _ e => e)
    have nq : ∀ (n : Nat) (ds : List PyData), ρ[n]? = some (.own ds) → ad n ≠ q := fun n ds e z => by
      have hi : n < ρ.length := (List.getElem?_eq_some_iff.mp e).1
      have := o.sep n ρ.length ds _ (by rw [List.getElem?_append_left hi]; exact e) get_last (by rw [z, ← hq, hl])
      omega
    obtain ⟨_, _, x, y, z, ePq⟩ := c.pail q rfl
    -- the heap with the pail as it is left
    have o2 : OkG B G ad (upd H q (.lst [.int x, .int y, .int z])) xs ρ := by
      refine ⟨o1.g0, o1.fr, same_upd2 o1.gh e2, fun a u f1 f2 => ?_, o1.len, o1.dat, fun n ds e => ?_, o1.sep, o1.pl, fun p hp => ?_⟩
      · rw [upd_ne (fun t => by rw [t, e3] at f1; cases f1)]
        exact o1.keep a u f1 f2
      · obtain ⟨a1, a2, a3, ws, a4, a5⟩ := o1.own n ds e
        exact ⟨a1, a2, a3, ws, by rw [upd_ne (nq n ds e)]; exact a4, a5⟩
      · obtain ⟨a1, a2, u1, u2, u3, a3⟩ := o1.pail p hp
        have : p ≠ q := fun t => a2 (by rw [t]; exact e3)
        exact ⟨a1, a2, u1, u2, u3, by rw [upd_ne this]; exact a3⟩
    have keepH : ∀ a u, upd H q (.lst [.int x, .int y, .int z]) a = some u → H' a = some u := fun a u f => by
      by_cases t : a = q
      · rw [t] at f ⊢
        rw [upd_same] at f
        cases f
        exact ePq
      · rw [upd_ne t] at f
        exact c.keep a u f fun t' => t (by cases t'; rfl)
    have free : ∀ a, G' a ≠ none → G a = none → upd H q (.lst [.int x, .int y, .int z]) a = none := fun a f1 f2 => by
      have := c.fr a f1 f2
      rw [upd_ne (fun t => hHq (by rw [← t]; exact this))]
      exact this
    refine ⟨G', _, o2.push (ad' 0) c.g0 free c.gh (fun a u f _ => keepH a u f) (fun p hp => ?_) (fun d e => ?_) (fun ds e => ?_) (fun e => absurd e hr)⟩
    · obtain ⟨a1, a2, u1, u2, u3, a3⟩ := o2.pail p hp
      refine ⟨?_, u1, u2, u3, keepH p _ a3⟩
      cases t : G' p with
      | none => rfl
      | some u =>
        have := free p (by rw [t]; exact fun z => nomatch z) a1
        rw [a3] at this; cases this
    · subst e
      obtain ⟨u, a1, a2⟩ := c.dat 0 d rfl
      exact ⟨u, Option.some.inj a1, a2⟩
    · subst e
      obtain ⟨a1, a2, a3, a4⟩ := c.own 0 ds rfl
      refine ⟨Option.some.inj a1, a2, ?_, a4⟩
      have a3' : H (ad' 0) = none := a3
      rw [upd_ne (fun t => hHq (by rw [← t]; exact a3'))]
      exact a3'
def fPailK (S : FS) (qs : List Sl) (P : Sl → Prop) : Prop := match qs with
  | [.own [.int _, .int _, .int _]] => S [.pl] fun r => r ≠ .pl ∧ P r
  | _ => False
theorem c_callGP {ps : List Str} (g : GoodG X.prog X.w X.K X.mg X.base k x ps S) (hK : B.K = X.K) (hG : X.A.guards = some []) (hr : Room k X.A) (ha : PA X (e :: es) (tDA B R)) (hg : Gl X x := by rfl)
    (hdb : ((x : Str) == ("__debug__" : Str)) = false := by decide) (he : starEach (e :: es) X.env = (false, eval e X.env) :: starEach es X.env := by rfl) (hpl : (backTo pos (starEach es X.env)).any (·.1) = false := by rfl) :
    PE X (.Call (.Name x p) (e :: es) [] pos) (tD B (fun ρ P => R ρ fun qs => fPailK S qs P)) := by
  obtain ⟨f, fd, hm, hk, hb, F⟩ := g
  refine ⟨fun pins s σ H Q I h => ?_⟩
  obtain ⟨ρ, ys, rs, P, hl, ok, hF, q⟩ := h
  refine wpAny_Call_Name_kw (ld_glob I hg hm ?_ hdb)
  refine PySem.W.callWith_K (h₀ := X.base) I.ok.mod.kin hk (thn (ha.run pos pins s σ H (fun vs H1 => spD X.K S vs H1 Q E0) I ⟨ρ, ys, rs, _, hl, ok, hF, fun vs H1 qs hv ok1 hP => ?_⟩) fun us s1 ⟨vs, H1, I1, r, q1⟩ => ⟨I1.kIn, run_g F hG hr hb.1 I1 r q1⟩) he hpl
  unfold fPailK at hP
  split at hP
  · rename_i i j l
    obtain ⟨v, rfl⟩ := one_len hv
    obtain ⟨G, r, c1, c2⟩ := Ok.callP (xs := σ ++ ys) (ρ := ρ ++ rs) (v := v) (by simpa using ok1) ok.len
    rw [hK] at c1 c2
    exact ⟨G, some r, [.pl], _, c1, hP, fun w t H' h' ht => q w H' t (by have := c2 w t H' h' ht.1; simpa using this) ht.2⟩
  · exact hP.elim
end
end DL
/-! DL14: the end of a row whose law asks that nothing is being shown. -/
namespace DL
open PySem PySem.Spec PyProof.Rows L2
/-- no list stands in the written part -/
def noL (K : PySem.W.Frag) : Bool := K.all fun p => !(p.2.cls == .type "list")
theorem no_list : ∀ {K : List (Addr × Obj)} {a : Addr} {o : Obj}, noL K = true → K.lookup a = some o → o.cls = .type "list" → False
  | [], _, _, _, e, _ => nomatch e
  | (b, u) :: K, a, o, h, e, c => by
    unfold noL at h
    rw [List.all_cons, Bool.and_eq_true] at h
    rw [List.lookup_cons] at e
    by_cases q : (a == b) = true
    · rw [q] at e
      cases e
      have h1 := h.1
      rw [c] at h1
      exact absurd h1 (by decide)
    · rw [Bool.not_eq_true] at q
      rw [q] at e
      exact no_list (K := K) h.2 e c
/-- what is tracked at the start: the script -/
structure AtMost (P : Program) (w : World) (K : PySem.W.Frag) (h : Heap) (a : Addr) (ns : List Int) (H : Hp) : Prop where
  o : Only H
  s : Rd H a (.lst (ns.map V.int))
  k : HOk P w H h
  u : ∀ b, H b ≠ none → b = a
  f : H a ≠ none → K.lookup a = none
theorem atMost {P : Program} {w : World} {K : PySem.W.Frag} {h : Heap} {a : Addr} {vs : List Value} {ns : List Int} (KX : K.In h) (hL : noL K = true) (ha : h.get? a = some { cls := .type "list", data := .seq vs.toArray }) (hi : IntsAre vs ns) (hl : ns.length ≤ sizeLine) : ∃ H, AtMost P w K h a ns H := by
  have rv := vals_ints hi
  cases hk : K.lookup a with
  | none =>
    let S : HO := .frz { cls := .type "list", data := .seq vs.toArray } (.lst (ns.map V.int))
    let H : Hp := fun b => if b = a then some S else none
    have one : H a = some S := if_pos rfl
    have none' : ∀ b, b ≠ a → H b = none := fun b hb => if_neg hb
    have eqa : ∀ b, H b ≠ none → b = a := fun b hb => Decidable.byContradiction fun z => hb (none' b z)
    refine ⟨H, fun b => ?_, .inr ⟨_, one⟩, fun b u z => ?_, eqa, fun _ => hk⟩
    · by_cases hb : b = a
      · exact .inr ⟨_, _, by rw [hb]; exact one⟩
      · exact .inl (none' b hb)
    · have hb := eqa b (by rw [z]; exact fun q => nomatch q)
      subst hb
      rw [one] at z
      cases z
      exact ⟨ha, by rw [List.length_map]; exact hl, vs, _, rv, ha⟩
  | some u =>
    have e := KX a u hk
    rw [ha] at e
    cases e
    exact (no_list hL hk rfl).elim
theorem law_callG {P : Program} {w : World} {K : PySem.W.Frag} {mg mb : Str → Option Value} {k : Nat} {fa a : Addr} {fd : FuncData} {x : Str} {sp : Sp} {s : Shared} {vs : List Value} {ns : List Int}
    (KX : K.In s.heap) (hL : noL K = true) (hn : s.heap.Ns mainGlobals mg) (hb : s.heap.Ns builtinsNs mb) (hbb : ∀ x : Str, x ≠ "__name__" → mb x = bootBuiltins x) (hlim : s.heap.NoLimit) (hg : s.gens = #[])
    (ha : s.heap.get? a = some { cls := .type "list", data := .seq vs.toArray }) (hi : IntsAre vs ns) (hl : ns.length ≤ sizeLine) (hr : Room k callerA)
    (F : ∀ base : Heap, K.In base → base.Ns mainGlobals mg → FnG P w K mg base k fa fd [x] sp) (hbd : ∀ (s : Shared) (u : Value), BindsTo s fd ⟨[u], []⟩ [(x, u)])
    (hsp : ∀ H : Hp, Rd H a (.lst (ns.map V.int)) → sp [.ref a] H (fun v _ => v = .bl true) fun _ _ _ => False) :
    codeAny (model P w) callerA (.call (.ref fa) ⟨[.ref a], []⟩) (fun r t => r = .ok (.ret (.bool true)) ∧ OldK s.heap t.heap ∧ t.os = s.os ∧ AllBare t.gens) s := by
  obtain ⟨H, M⟩ := atMost (P := P) (w := w) KX hL ha hi hl
  have back : ∀ {b : Addr} {o : Obj}, s.heap.get? b = some o → H b = none → (hidT s.heap H).get? b = some o := fun e z => hidT_get e z
  have isA : ∀ {b : Addr} {u : HO}, H b = some u → b = a := fun {b u} z => M.u b (by rw [z]; exact fun q => nomatch q)
  have dictFree : ∀ {b : Addr} {o : Obj} {es : Array DictEntry} {ep : Nat}, s.heap.get? b = some o → o.data = .dict es ep → H b = none := fun {b o es ep} e d => by
    cases z : H b with
    | none => rfl
    | some u =>
      have := isA z
      subst this
      rw [ha] at e
      cases e
      exact absurd d (fun q => by cases q)
  have ns' : ∀ {b : Addr} {m : Str → Option Value}, s.heap.Ns b m → (hidT s.heap H).Ns b m := fun {b m} ⟨o, es, ep, e, d, r⟩ => ⟨o, es, ep, back e (dictFree e d), d, r⟩
  have inB : K.In (hidT s.heap H) := fun b o e => back (KX b o e) (by
    cases z : H b with
    | none => rfl
    | some u =>
      have := isA z
      subst this
      rw [M.f (by rw [z]; exact fun q => nomatch q)] at e
      cases e)
  obtain ⟨mc, l1, l2⟩ := hlim
  have md : Mod K mg (hidT s.heap H) := ⟨inB, ns' hn, ⟨mb, ns' hb, hbb⟩, mc, ns' l1, l2⟩
  have env : Env0 P w K mg (hidT s.heap H) callerA [] s H := ⟨rfl, md, fun b o e => of_hidT e, Nat.le_of_eq (hidT_size _ _), trivial, fun b hb => (nomatch hb), M.k, .of_eq hg⟩
  have run := (F _ inB (ns' hn)).run callerA [] s H ⟨[.ref a], []⟩ [.ref a] [.ref a] (fun v _ => v = .bl true) (fun _ _ _ => False) rfl hr env (hbd s (.ref a)) (.cons rfl .nil) (hsp H M.s)
  refine codeAny_mono run fun r t ht => ?_
  cases r with
  | error e => exact ht.elim
  | ok fl =>
    cases fl with
    | ret u =>
      obtain ⟨v, H', os, bare, un, ok', rv', q⟩ := ht
      have q1 : v = .bl true := q
      subst q1
      have q2 : u = Value.bool true := rv'
      subst q2
      refine ⟨rfl, OldK.of_keep fun b o e => ?_, os, bare⟩
      cases z : H b with
      | none => exact un.keep b o e z (fun y => (nomatch y)) (by simp)
      | some u =>
        rcases M.o b with y | ⟨ob, ys, y⟩
        · rw [z] at y; cases y
        · have y2 := un.frzs b ob _ y
          obtain ⟨e1, _⟩ := M.k b _ y
          obtain ⟨e2, _⟩ := ok' b _ y2
          rw [e] at e1
          cases e1
          exact e2
    | next => exact ht.elim
    | brk => exact ht.elim
    | cont => exact ht.elim
theorem walk_ofG {l : PySem.W.OpenLaw} {n k : Nat} {q : Program} {loose : List Str} {XP : (Str → Option Value) → Heap → Prop} {YP : World → Heap → Prop} {d : DefRec} {K : Params → PySem.W.Frag} {sp : World → Sp} {x : Str}
    (hn : l.most = some n) (hn2 : n ≤ sizeLine) (hdf : d.params.defaults = []) (hr : Room k callerA) (hY : ∀ (w : World) (h : Heap), YP w h → (K w.params).In h) (hL : ∀ w : World, noL (K w.params) = true)
    (F : ∀ (w : World) (mg : Str → Option Value) (fa : Addr) (h : Heap), (K w.params).In h → h.Ns mainGlobals mg → mg d.name = some (.ref fa) →
      ∃ fd : FuncData, (∀ (s : Shared) (u : Value), BindsTo s fd ⟨[u], []⟩ [(x, u)]) ∧ ∀ base : Heap, (K w.params).In base → base.Ns mainGlobals mg → FnG l.prog w (K w.params) mg base k fa fd [x] (sp w))
    (hsp : ∀ (w : World) (H : Hp) (a : Addr) (ns : List Int), ns.length ≤ n → Rd H a (.lst (ns.map V.int)) → sp w [.ref a] H (fun v _ => v = .bl true) fun _ _ _ => False) :
    PySem.W.WalkO q loose XP YP l.row.toRowW d [] (fun f vs => PySem.call f vs) := by
  refine Att.attach_call hn hdf fun w s₀ s₁ mg mb fa o pm cd doc a vs ns G Y ho hd hcd hmg hobj hints hlen hg => ?_
  obtain ⟨fd, hb, hF⟩ := F w mg fa _ (hY w _ Y) G.T.g hmg
  exact law_callG (hY w _ Y) (hL w) G.T.g G.T.b G.T.builtins G.T.nolimit hg hobj hints (Nat.le_trans hlen hn2) hr hF hb fun H hS => hsp w H a ns hlen hS
/-- the script as data -/
theorem script_ok {K : PySem.W.Frag} {H : Hp} {a : Addr} {ns : List Int} (h : Rd H a (.lst (ns.map V.int))) : Ok ⟨K, H, H, none⟩ H [some (.ref a)] [.dat (.list (ns.map PyData.int))] := by
  refine ⟨H, fun _ => 0, Same.refl _, fun b q1 q2 => absurd q2 q1, Same.refl _, fun b o e _ => e, rfl, fun i d e => ?_, fun i ds e => ?_, fun i j ds es e => ?_, fun i e => ?_, fun p hp => (nomatch hp)⟩
  · match i with
    | 0 =>
      cases e
      exact ⟨_, rfl, .lst h (DvAll.ints ns)⟩
    | i + 1 => exact nomatch e
  · match i with
    | 0 => exact nomatch e
    | i + 1 => exact nomatch e
  · match i with
    | 0 => exact nomatch e
    | i + 1 => exact nomatch e
  · match i with
    | 0 => exact nomatch e
    | i + 1 => exact nomatch e
end DL
/-! The text of the program and the law: what stands at the top. -/
namespace K12
open PySem PySem.Spec PyProof.Rows L2 DL
def topS (i : Nat) : Stmt := PySem.Challenge.pw_withinrim_k12_whole_quotients_by_own_red.main.body.getD i (.Pass ⟨0, 0, 0, 0⟩)
theorem hu64 {k : Nat} {A : Around} (r : Room k A) : A.units + 64 < cLine := by have := r.un; omega
def table : List (String × Nat) := [("is_whole", 12), ("is_frac", 13), ("is_num", 14), ("frac_reduced", 15), ("frac_sum", 16), ("frac_less", 17), ("frac_product", 18), ("frac_over", 19), ("num_sum", 20), ("num_less", 21), ("num_product", 22), ("num_scaled", 23), ("num_mirrored", 24), ("num_size", 25), ("num_over", 26), ("is_a_row", 28), ("row_trimmed", 29), ("row_number", 30), ("row_plus", 31), ("row_minus", 32), ("row_times", 33), ("row_scaled", 34), ("row_value_of", 35), ("row_rest", 36), ("row_last_one", 37), ("row_divisor", 38), ("quote_reduced", 40), ("is_a_quote", 41), ("quote_degree", 42), ("quote_plus", 43), ("quote_minus", 44), ("quote_times", 45), ("quote_over", 46), ("quote_value", 47), ("check_number", 49), ("check_row", 51), ("check_quotient", 53), ("is_quotient", 54), ("quotient_of", 55), ("quotient_degree", 56), ("quotient_sum", 57), ("quotient_less", 58), ("quotient_product", 59), ("quotient_over", 60), ("quotient_value", 61), ("_law_pail", 63), ("_law_dip", 64), ("_law_gcd", 65), ("_law_cut", 66), ("_law_over", 67), ("_law_trim", 68), ("_law_less", 69), ("_law_times", 70), ("_law_row_divided", 71), ("_law_reduced", 72), ("_law_fraction", 73), ("_law_told", 74), ("_law_told_row", 75), ("_law_told_quotient", 76), ("_law_drawn", 77), ("_law_add", 78), ("_law_row_times", 79), ("_law_under", 80), ("_law_row", 81), ("_law_row_sum", 82), ("_law_one_of", 83), ("_law_row_value", 84), ("_law_made", 85), ("_law_parted", 86), ("_law_due", 87), ("_law_drawn_pair", 88), ("_law_sums", 89), ("_law_right", 90), ("law", 91)]
/-- what the top has left -/
structure Txt (K : PySem.W.Frag) (mg : Str → Option Value) : Prop where
  defs : ∀ p ∈ table, DefAt K mg p.1 (topS p.2)
  gcd : mg "gcd" = some (.builtin "math.gcd")
  abs_ : mg "abs" = none
  all_ : mg "all" = none
  bool_ : mg "bool" = none
  divmod_ : mg "divmod" = none
  enumerate_ : mg "enumerate" = none
  int_ : mg "int" = none
  isinstance_ : mg "isinstance" = none
  len_ : mg "len" = none
  list_ : mg "list" = none
  max_ : mg "max" = none
  min_ : mg "min" = none
  range_ : mg "range" = none
  repr_ : mg "repr" = none
  tuple_ : mg "tuple" = none
  FRAC_ONE : ∃ a, mg "FRAC_ONE" = some (.ref a) ∧ ∀ G, Dv K G (.ref a) (.tuple [.int 1, .int 1])
  NOUGHT : ∃ a, mg "NOUGHT" = some (.ref a) ∧ ∀ G, Dv K G (.ref a) (.tuple [.tuple [.int 0, .int 1], .tuple [.int 0, .int 1]])
  ONE : ∃ a, mg "ONE" = some (.ref a) ∧ ∀ G, Dv K G (.ref a) (.tuple [.tuple [.int 1, .int 1], .tuple [.int 0, .int 1]])
  nos : ∃ C, Xc K mg "NoSeries" C
abbrev s_is_whole : Stmt := topS 12
theorem sc_is_whole : FnScope ["value"] ["value"] (defScope s_is_whole) := ⟨rfl, rfl, rfl, by decide +kernel, rfl, by decide +kernel, by decide +kernel⟩
abbrev s_is_frac : Stmt := topS 13
theorem sc_is_frac : FnScope ["value"] ["value"] (defScope s_is_frac) := ⟨rfl, rfl, rfl, by decide +kernel, rfl, by decide +kernel, by decide +kernel⟩
abbrev s_is_num : Stmt := topS 14
theorem sc_is_num : FnScope ["value"] ["value"] (defScope s_is_num) := ⟨rfl, rfl, rfl, by decide +kernel, rfl, by decide +kernel, by decide +kernel⟩
abbrev s_frac_reduced : Stmt := topS 15
theorem sc_frac_reduced : FnScope ["n", "m", "divisor"] ["n", "m"] (defScope s_frac_reduced) := ⟨rfl, rfl, rfl, by decide +kernel, rfl, by decide +kernel, by decide +kernel⟩
abbrev s_frac_sum : Stmt := topS 16
theorem sc_frac_sum : FnScope ["x", "y"] ["x", "y"] (defScope s_frac_sum) := ⟨rfl, rfl, rfl, by decide +kernel, rfl, by decide +kernel, by decide +kernel⟩
abbrev s_frac_less : Stmt := topS 17
theorem sc_frac_less : FnScope ["x", "y"] ["x", "y"] (defScope s_frac_less) := ⟨rfl, rfl, rfl, by decide +kernel, rfl, by decide +kernel, by decide +kernel⟩
abbrev s_frac_product : Stmt := topS 18
theorem sc_frac_product : FnScope ["x", "y"] ["x", "y"] (defScope s_frac_product) := ⟨rfl, rfl, rfl, by decide +kernel, rfl, by decide +kernel, by decide +kernel⟩
abbrev s_frac_over : Stmt := topS 19
theorem sc_frac_over : FnScope ["x", "y"] ["x", "y"] (defScope s_frac_over) := ⟨rfl, rfl, rfl, by decide +kernel, rfl, by decide +kernel, by decide +kernel⟩
abbrev s_num_sum : Stmt := topS 20
theorem sc_num_sum : FnScope ["x", "y"] ["x", "y"] (defScope s_num_sum) := ⟨rfl, rfl, rfl, by decide +kernel, rfl, by decide +kernel, by decide +kernel⟩
abbrev s_num_less : Stmt := topS 21
theorem sc_num_less : FnScope ["x", "y"] ["x", "y"] (defScope s_num_less) := ⟨rfl, rfl, rfl, by decide +kernel, rfl, by decide +kernel, by decide +kernel⟩
abbrev s_num_product : Stmt := topS 22
theorem sc_num_product : FnScope ["x", "y", "under", "a", "b", "c", "d", "p", "q", "r", "s"] ["x", "y"] (defScope s_num_product) := ⟨rfl, rfl, rfl, by decide +kernel, rfl, by decide +kernel, by decide +kernel⟩
abbrev s_num_scaled : Stmt := topS 23
theorem sc_num_scaled : FnScope ["x", "fraction"] ["x", "fraction"] (defScope s_num_scaled) := ⟨rfl, rfl, rfl, by decide +kernel, rfl, by decide +kernel, by decide +kernel⟩
abbrev s_num_mirrored : Stmt := topS 24
theorem sc_num_mirrored : FnScope ["x"] ["x"] (defScope s_num_mirrored) := ⟨rfl, rfl, rfl, by decide +kernel, rfl, by decide +kernel, by decide +kernel⟩
abbrev s_num_size : Stmt := topS 25
theorem sc_num_size : FnScope ["x", "a", "b", "c", "d"] ["x"] (defScope s_num_size) := ⟨rfl, rfl, rfl, by decide +kernel, rfl, by decide +kernel, by decide +kernel⟩
abbrev s_num_over : Stmt := topS 26
theorem sc_num_over : FnScope ["x", "y"] ["x", "y"] (defScope s_num_over) := ⟨rfl, rfl, rfl, by decide +kernel, rfl, by decide +kernel, by decide +kernel⟩
abbrev s_is_a_row : Stmt := topS 28
theorem sc_is_a_row : FnScope ["value", "each"] ["value"] (defScope s_is_a_row) := ⟨rfl, rfl, rfl, by decide +kernel, rfl, by decide +kernel, by decide +kernel⟩
abbrev s_row_trimmed : Stmt := topS 29
theorem sc_row_trimmed : FnScope ["numbers", "many"] ["numbers"] (defScope s_row_trimmed) := ⟨rfl, rfl, rfl, by decide +kernel, rfl, by decide +kernel, by decide +kernel⟩
abbrev s_row_number : Stmt := topS 30
theorem sc_row_number : FnScope ["row", "at"] ["row", "at"] (defScope s_row_number) := ⟨rfl, rfl, rfl, by decide +kernel, rfl, by decide +kernel, by decide +kernel⟩
abbrev s_row_plus : Stmt := topS 31
theorem sc_row_plus : FnScope ["row", "other", "many", "at"] ["row", "other"] (defScope s_row_plus) := ⟨rfl, rfl, rfl, by decide +kernel, rfl, by decide +kernel, by decide +kernel⟩
abbrev s_row_minus : Stmt := topS 32
theorem sc_row_minus : FnScope ["row", "other", "many", "at"] ["row", "other"] (defScope s_row_minus) := ⟨rfl, rfl, rfl, by decide +kernel, rfl, by decide +kernel, by decide +kernel⟩
abbrev s_row_times : Stmt := topS 33
theorem sc_row_times : FnScope ["row", "other", "found", "at", "number", "_", "by", "second"] ["row", "other"] (defScope s_row_times) := ⟨rfl, rfl, rfl, by decide +kernel, rfl, by decide +kernel, by decide +kernel⟩
abbrev s_row_scaled : Stmt := topS 34
theorem sc_row_scaled : FnScope ["row", "number", "each"] ["row", "number"] (defScope s_row_scaled) := ⟨rfl, rfl, rfl, by decide +kernel, rfl, by decide +kernel, by decide +kernel⟩
abbrev s_row_value_of : Stmt := topS 35
theorem sc_row_value_of : FnScope ["row", "number", "found", "each"] ["row", "number"] (defScope s_row_value_of) := ⟨rfl, rfl, rfl, by decide +kernel, rfl, by decide +kernel, by decide +kernel⟩
abbrev s_row_rest : Stmt := topS 36
theorem sc_row_rest : FnScope ["row", "other", "rest", "factor", "last", "start", "number", "by", "each"] ["row", "other"] (defScope s_row_rest) := ⟨rfl, rfl, rfl, by decide +kernel, rfl, by decide +kernel, by decide +kernel⟩
abbrev s_row_last_one : Stmt := topS 37
theorem sc_row_last_one : FnScope ["row"] ["row"] (defScope s_row_last_one) := ⟨rfl, rfl, rfl, by decide +kernel, rfl, by decide +kernel, by decide +kernel⟩
abbrev s_row_divisor : Stmt := topS 38
theorem sc_row_divisor : FnScope ["row", "other", "one", "two"] ["row", "other"] (defScope s_row_divisor) := ⟨rfl, rfl, rfl, by decide +kernel, rfl, by decide +kernel, by decide +kernel⟩
abbrev s_quote_reduced : Stmt := topS 40
theorem sc_quote_reduced : FnScope ["top", "under", "common", "first"] ["top", "under"] (defScope s_quote_reduced) := ⟨rfl, rfl, rfl, by decide +kernel, rfl, by decide +kernel, by decide +kernel⟩
abbrev s_is_a_quote : Stmt := topS 41
theorem sc_is_a_quote : FnScope ["value"] ["value"] (defScope s_is_a_quote) := ⟨rfl, rfl, rfl, by decide +kernel, rfl, by decide +kernel, by decide +kernel⟩
abbrev s_quote_degree : Stmt := topS 42
theorem sc_quote_degree : FnScope ["quote"] ["quote"] (defScope s_quote_degree) := ⟨rfl, rfl, rfl, by decide +kernel, rfl, by decide +kernel, by decide +kernel⟩
abbrev s_quote_plus : Stmt := topS 43
theorem sc_quote_plus : FnScope ["quote", "other", "top"] ["quote", "other"] (defScope s_quote_plus) := ⟨rfl, rfl, rfl, by decide +kernel, rfl, by decide +kernel, by decide +kernel⟩
abbrev s_quote_minus : Stmt := topS 44
theorem sc_quote_minus : FnScope ["quote", "other", "top"] ["quote", "other"] (defScope s_quote_minus) := ⟨rfl, rfl, rfl, by decide +kernel, rfl, by decide +kernel, by decide +kernel⟩
abbrev s_quote_times : Stmt := topS 45
theorem sc_quote_times : FnScope ["quote", "other"] ["quote", "other"] (defScope s_quote_times) := ⟨rfl, rfl, rfl, by decide +kernel, rfl, by decide +kernel, by decide +kernel⟩
abbrev s_quote_over : Stmt := topS 46
theorem sc_quote_over : FnScope ["quote", "other"] ["quote", "other"] (defScope s_quote_over) := ⟨rfl, rfl, rfl, by decide +kernel, rfl, by decide +kernel, by decide +kernel⟩
abbrev s_quote_value : Stmt := topS 47
theorem sc_quote_value : FnScope ["quote", "number", "under"] ["quote", "number"] (defScope s_quote_value) := ⟨rfl, rfl, rfl, by decide +kernel, rfl, by decide +kernel, by decide +kernel⟩
abbrev s_check_number : Stmt := topS 49
theorem sc_check_number : FnScope ["value"] ["value"] (defScope s_check_number) := ⟨rfl, rfl, rfl, by decide +kernel, rfl, by decide +kernel, by decide +kernel⟩
abbrev s_check_row : Stmt := topS 51
theorem sc_check_row : FnScope ["value"] ["value"] (defScope s_check_row) := ⟨rfl, rfl, rfl, by decide +kernel, rfl, by decide +kernel, by decide +kernel⟩
abbrev s_check_quotient : Stmt := topS 53
theorem sc_check_quotient : FnScope ["value"] ["value"] (defScope s_check_quotient) := ⟨rfl, rfl, rfl, by decide +kernel, rfl, by decide +kernel, by decide +kernel⟩
abbrev s_is_quotient : Stmt := topS 54
theorem sc_is_quotient : FnScope ["value"] ["value"] (defScope s_is_quotient) := ⟨rfl, rfl, rfl, by decide +kernel, rfl, by decide +kernel, by decide +kernel⟩
abbrev s_quotient_of : Stmt := topS 55
theorem sc_quotient_of : FnScope ["top", "under", "found"] ["top", "under"] (defScope s_quotient_of) := ⟨rfl, rfl, rfl, by decide +kernel, rfl, by decide +kernel, by decide +kernel⟩
abbrev s_quotient_degree : Stmt := topS 56
theorem sc_quotient_degree : FnScope ["quotient"] ["quotient"] (defScope s_quotient_degree) := ⟨rfl, rfl, rfl, by decide +kernel, rfl, by decide +kernel, by decide +kernel⟩
abbrev s_quotient_sum : Stmt := topS 57
theorem sc_quotient_sum : FnScope ["quotient", "other"] ["quotient", "other"] (defScope s_quotient_sum) := ⟨rfl, rfl, rfl, by decide +kernel, rfl, by decide +kernel, by decide +kernel⟩
abbrev s_quotient_less : Stmt := topS 58
theorem sc_quotient_less : FnScope ["quotient", "other"] ["quotient", "other"] (defScope s_quotient_less) := ⟨rfl, rfl, rfl, by decide +kernel, rfl, by decide +kernel, by decide +kernel⟩
abbrev s_quotient_product : Stmt := topS 59
theorem sc_quotient_product : FnScope ["quotient", "other"] ["quotient", "other"] (defScope s_quotient_product) := ⟨rfl, rfl, rfl, by decide +kernel, rfl, by decide +kernel, by decide +kernel⟩
abbrev s_quotient_over : Stmt := topS 60
theorem sc_quotient_over : FnScope ["quotient", "other", "found"] ["quotient", "other"] (defScope s_quotient_over) := ⟨rfl, rfl, rfl, by decide +kernel, rfl, by decide +kernel, by decide +kernel⟩
abbrev s_quotient_value : Stmt := topS 61
theorem sc_quotient_value : FnScope ["quotient", "number"] ["quotient", "number"] (defScope s_quotient_value) := ⟨rfl, rfl, rfl, by decide +kernel, rfl, by decide +kernel, by decide +kernel⟩
abbrev s__law_pail : Stmt := topS 63
theorem sc__law_pail : FnScope ["_law_script", "_law_turn", "_law_cell", "_law_mixed", "_law_each", "_law_rich"] ["_law_script", "_law_turn"] (defScope s__law_pail) := ⟨rfl, rfl, rfl, by decide +kernel, rfl, by decide +kernel, by decide +kernel⟩
abbrev s__law_dip : Stmt := topS 64
theorem sc__law_dip : FnScope ["_law_pail_here", "_law_many", "_law_one", "_law_figure"] ["_law_pail_here", "_law_many"] (defScope s__law_dip) := ⟨rfl, rfl, rfl, by decide +kernel, rfl, by decide +kernel, by decide +kernel⟩
abbrev s__law_gcd : Stmt := topS 65
theorem sc__law_gcd : FnScope ["_law_a", "_law_b"] ["_law_a", "_law_b"] (defScope s__law_gcd) := ⟨rfl, rfl, rfl, by decide +kernel, rfl, by decide +kernel, by decide +kernel⟩
abbrev s__law_cut : Stmt := topS 66
theorem sc__law_cut : FnScope ["_law_a", "_law_b", "_law_d", "_law_g"] ["_law_a", "_law_b", "_law_d"] (defScope s__law_cut) := ⟨rfl, rfl, rfl, by decide +kernel, rfl, by decide +kernel, by decide +kernel⟩
abbrev s__law_over : Stmt := topS 67
theorem sc__law_over : FnScope ["_law_x", "_law_y", "_law_down"] ["_law_x", "_law_y"] (defScope s__law_over) := ⟨rfl, rfl, rfl, by decide +kernel, rfl, by decide +kernel, by decide +kernel⟩
abbrev s__law_trim : Stmt := topS 68
theorem sc__law_trim : FnScope ["_law_row_here", "_law_many", "_law_at"] ["_law_row_here"] (defScope s__law_trim) := ⟨rfl, rfl, rfl, by decide +kernel, rfl, by decide +kernel, by decide +kernel⟩
abbrev s__law_less : Stmt := topS 69
theorem sc__law_less : FnScope ["_law_x", "_law_y"] ["_law_x", "_law_y"] (defScope s__law_less) := ⟨rfl, rfl, rfl, by decide +kernel, rfl, by decide +kernel, by decide +kernel⟩
abbrev s__law_times : Stmt := topS 70
theorem sc__law_times : FnScope ["_law_x", "_law_y"] ["_law_x", "_law_y"] (defScope s__law_times) := ⟨rfl, rfl, rfl, by decide +kernel, rfl, by decide +kernel, by decide +kernel⟩
abbrev s__law_row_divided : Stmt := topS 71
theorem sc__law_row_divided : FnScope ["_law_one", "_law_two", "_law_k", "_law_factor", "_law_rest", "_law_at", "_law_lead", "_law_low", "_law_far", "_law_j"] ["_law_one", "_law_two"] (defScope s__law_row_divided) := ⟨rfl, rfl, rfl, by decide +kernel, rfl, by decide +kernel, by decide +kernel⟩
abbrev s__law_reduced : Stmt := topS 72
theorem sc__law_reduced : FnScope ["_law_top", "_law_under_here", "_law_one", "_law_two", "_law_up", "_law_down", "_law_each"] ["_law_top", "_law_under_here"] (defScope s__law_reduced) := ⟨rfl, rfl, rfl, by decide +kernel, rfl, by decide +kernel, by decide +kernel⟩
abbrev s__law_fraction : Stmt := topS 73
theorem sc__law_fraction : FnScope ["_law_n", "_law_m", "_law_g"] ["_law_n", "_law_m"] (defScope s__law_fraction) := ⟨rfl, rfl, rfl, by decide +kernel, rfl, by decide +kernel, by decide +kernel⟩
abbrev s__law_told : Stmt := topS 74
theorem sc__law_told : FnScope ["_law_x"] ["_law_x"] (defScope s__law_told) := ⟨rfl, rfl, rfl, by decide +kernel, rfl, by decide +kernel, by decide +kernel⟩
abbrev s__law_told_row : Stmt := topS 75
theorem sc__law_told_row : FnScope ["_law_row_here", "_law_each"] ["_law_row_here"] (defScope s__law_told_row) := ⟨rfl, rfl, rfl, by decide +kernel, rfl, by decide +kernel, by decide +kernel⟩
abbrev s__law_told_quotient : Stmt := topS 76
theorem sc__law_told_quotient : FnScope ["_law_pair"] ["_law_pair"] (defScope s__law_told_quotient) := ⟨rfl, rfl, rfl, by decide +kernel, rfl, by decide +kernel, by decide +kernel⟩
abbrev s__law_drawn : Stmt := topS 77
theorem sc__law_drawn : FnScope ["_law_pail_here", "_law_top", "_law_low", "_law_a", "_law_b"] ["_law_pail_here", "_law_top", "_law_low"] (defScope s__law_drawn) := ⟨rfl, rfl, rfl, by decide +kernel, rfl, by decide +kernel, by decide +kernel⟩
abbrev s__law_add : Stmt := topS 78
theorem sc__law_add : FnScope ["_law_x", "_law_y"] ["_law_x", "_law_y"] (defScope s__law_add) := ⟨rfl, rfl, rfl, by decide +kernel, rfl, by decide +kernel, by decide +kernel⟩
abbrev s__law_row_times : Stmt := topS 79
theorem sc__law_row_times : FnScope ["_law_one", "_law_two", "_law_row_here", "_law_many", "_law_j", "_law_whole", "_law_down", "_law_low", "_law_each", "_law_left", "_law_right_here", "_law_k", "_law_a", "_law_b", "_law_c", "_law_d"] ["_law_one", "_law_two"] (defScope s__law_row_times) := ⟨rfl, rfl, rfl, by decide +kernel, rfl, by decide +kernel, by decide +kernel⟩
abbrev s__law_under : Stmt := topS 80
theorem sc__law_under : FnScope ["_law_pail_here", "_law_most", "_law_k", "_law_found", "_law_row_here", "_law_x"] ["_law_pail_here", "_law_most"] (defScope s__law_under) := ⟨rfl, rfl, rfl, by decide +kernel, rfl, by decide +kernel, by decide +kernel⟩
abbrev s__law_row : Stmt := topS 81
theorem sc__law_row : FnScope ["_law_pail_here", "_law_most", "_law_row_here", "_law_k", "_law_each"] ["_law_pail_here", "_law_most"] (defScope s__law_row) := ⟨rfl, rfl, rfl, by decide +kernel, rfl, by decide +kernel, by decide +kernel⟩
abbrev s__law_row_sum : Stmt := topS 82
theorem sc__law_row_sum : FnScope ["_law_one", "_law_two", "_law_many", "_law_long", "_law_row_here", "_law_k"] ["_law_one", "_law_two"] (defScope s__law_row_sum) := ⟨rfl, rfl, rfl, by decide +kernel, rfl, by decide +kernel, by decide +kernel⟩
abbrev s__law_one_of : Stmt := topS 83
theorem sc__law_one_of : FnScope ["_law_pail_here", "_law_some"] ["_law_pail_here", "_law_some"] (defScope s__law_one_of) := ⟨rfl, rfl, rfl, by decide +kernel, rfl, by decide +kernel, by decide +kernel⟩
abbrev s__law_row_value : Stmt := topS 84
theorem sc__law_row_value : FnScope ["_law_row_here", "_law_x", "_law_found", "_law_each"] ["_law_row_here", "_law_x"] (defScope s__law_row_value) := ⟨rfl, rfl, rfl, by decide +kernel, rfl, by decide +kernel, by decide +kernel⟩
abbrev s__law_made : Stmt := topS 85
theorem sc__law_made : FnScope ["_law_top", "_law_under_here", "_law_told_here"] ["_law_top", "_law_under_here"] (defScope s__law_made) := ⟨rfl, rfl, rfl, by decide +kernel, rfl, by decide +kernel, by decide +kernel⟩
abbrev s__law_parted : Stmt := topS 86
theorem sc__law_parted : FnScope ["_law_one", "_law_two", "_law_told_here"] ["_law_one", "_law_two"] (defScope s__law_parted) := ⟨rfl, rfl, rfl, by decide +kernel, rfl, by decide +kernel, by decide +kernel⟩
abbrev s__law_due : Stmt := topS 87
theorem sc__law_due : FnScope ["_law_top", "_law_under_here", "_law_pair"] ["_law_top", "_law_under_here"] (defScope s__law_due) := ⟨rfl, rfl, rfl, by decide +kernel, rfl, by decide +kernel, by decide +kernel⟩
abbrev s__law_drawn_pair : Stmt := topS 88
theorem sc__law_drawn_pair : FnScope ["_law_pail_here", "_law_roots", "_law_under_here"] ["_law_pail_here"] (defScope s__law_drawn_pair) := ⟨rfl, rfl, rfl, by decide +kernel, rfl, by decide +kernel, by decide +kernel⟩
abbrev s__law_sums : Stmt := topS 89
theorem sc__law_sums : FnScope ["_law_first", "_law_second", "_law_due_here", "_law_told_here", "_law_a", "_law_b", "_law_c", "_law_d", "_law_one", "_law_two", "_law_low", "_law_left", "_law_right_here"] ["_law_first", "_law_second"] (defScope s__law_sums) := ⟨rfl, rfl, rfl, by decide +kernel, rfl, by decide +kernel, by decide +kernel⟩
abbrev s__law_right : Stmt := topS 90
theorem sc__law_right : FnScope ["_law_pail_here", "_law_way", "_law_one", "_law_both", "_law_twice", "_law_loose", "_law_things", "_law_truths", "_law_degree", "_law_x", "_law_first", "_law_roots", "_law_second", "_law_others", "_law_top", "_law_under_here", "_law_row_here", "_law_low", "_law_down", "_law_due_here", "_law_thing"] ["_law_pail_here"] (defScope s__law_right) := ⟨rfl, rfl, rfl, by decide +kernel, rfl, by decide +kernel, by decide +kernel⟩
abbrev s_law : Stmt := topS 91
theorem sc_law : FnScope ["_law_script", "_law_turn"] ["_law_script"] (defScope s_law) := ⟨rfl, rfl, rfl, by decide +kernel, rfl, by decide +kernel, by decide +kernel⟩
end K12
namespace K12
open PySem PySem.Spec PyProof.Rows L2 DL
theorem rep0 {α : Type} (a : α) : List.replicate 0 a = [] := rfl
theorem repS {α : Type} (n : Nat) (a : α) : List.replicate (n + 1) a = a :: List.replicate n a := rfl
theorem argOk_dat (d : PyData) : argOk (.dat d) = true := rfl
theorem argOk_pl : argOk .pl = true := rfl
theorem lb {n m : Nat} (h : Nat.ble n m = true) : n ≤ m := Nat.le_of_ble_eq_true h
end K12
/-! Numbers of the program: fractions, NUMBERs. The mathematics. -/
namespace K12
open PySem PySem.Spec PyProof.Rows L2 DL
def encF (q : Rat) : PyData := .tuple [.int q.num, .int (q.den : Int)]
def encN (x : G) : PyData := .tuple [encF x.re, encF x.im]
def NoPy (n m : Int) : Prop := ∀ g : Int, g.natAbs = Nat.gcd n.natAbs m.natAbs → Builtin.divisionGoesByPylong n g = false ∧ Builtin.divisionGoesByPylong m g = false
/-- sizes -/
def Lt2 (n : Nat) (i : Int) : Prop := i.natAbs < 2 ^ n
theorem Lt2.mono {n m : Nat} {i : Int} (h : Lt2 n i) (hm : n ≤ m) : Lt2 m i := Nat.lt_of_lt_of_le h (Nat.pow_le_pow_right (by decide) hm)
theorem Lt2.mul {n m : Nat} {i j : Int} (h : Lt2 n i) (h' : Lt2 m j) : Lt2 (n + m) (i * j) := by
  unfold Lt2
  rw [Int.natAbs_mul, Nat.pow_add]
  exact Nat.mul_lt_mul'' h h'
theorem Lt2.add {n : Nat} {i j : Int} (h : Lt2 n i) (h' : Lt2 n j) : Lt2 (n + 1) (i + j) := by
  unfold Lt2 at *
  rw [Nat.pow_succ]
  omega
theorem Lt2.sub {n : Nat} {i j : Int} (h : Lt2 n i) (h' : Lt2 n j) : Lt2 (n + 1) (i - j) := by
  unfold Lt2 at *
  rw [Nat.pow_succ]
  omega
theorem Lt2.neg {n : Nat} {i : Int} (h : Lt2 n i) : Lt2 n (-i) := by
  unfold Lt2 at *
  omega
theorem log2_lt {x n : Nat} (h : x < 2 ^ n) (hn : 0 < n) : x.log2 < n := PySem.Flt.log2_lt_of hn h
theorem cm {n m : Nat} {i j : Int} (h : Lt2 n i) (h' : Lt2 m j) (hs : n + m ≤ 900000) : CMulW i j := by
  refine wide_mul (a := n + 1) (b := m + 1) (Nat.lt_of_lt_of_le h (Nat.pow_le_pow_right (by decide) (by omega))) (Nat.lt_of_lt_of_le h' (Nat.pow_le_pow_right (by decide) (by omega))) (by omega) (by omega) (by omega)
/-- the working size -/
def EB : Nat := 2200
def Bq (n : Nat) (q : Rat) : Prop := Lt2 n q.num ∧ Lt2 n (q.den : Int)
def Bd (n : Nat) (x : G) : Prop := Bq n x.re ∧ Bq n x.im
theorem Bq.mono {n m : Nat} {q : Rat} (h : Bq n q) (hm : n ≤ m) : Bq m q := ⟨h.1.mono hm, h.2.mono hm⟩
theorem Bd.mono {n m : Nat} {x : G} (h : Bd n x) (hm : n ≤ m) : Bd m x := ⟨h.1.mono hm, h.2.mono hm⟩
theorem nopy_of {x y : Int} {k : Nat} (hk : k ≤ 4400) (h : x.natAbs < (y.natAbs + 1) * 2 ^ k) : Builtin.divisionGoesByPylong x y = false := by
  unfold Builtin.divisionGoesByPylong
  by_cases hy : y = 0
  · subst hy
    simp
  by_cases hx : x = 0
  · subst hx
    simp
  have hy2 : y.natAbs ≠ 0 := by omega
  have h1 : x.natAbs.log2 < y.natAbs.log2 + 1 + k + 1 := by
    refine log2_lt ?_ (by omega)
    have q : y.natAbs < 2 ^ (y.natAbs.log2 + 1) := (Nat.log2_lt hy2).mp (Nat.lt_succ_self _)
    calc x.natAbs < (y.natAbs + 1) * 2 ^ k := h
      _ ≤ 2 ^ (y.natAbs.log2 + 1) * 2 ^ k := Nat.mul_le_mul_right _ q
      _ = 2 ^ (y.natAbs.log2 + 1 + k) := by rw [← Nat.pow_add]
      _ ≤ 2 ^ (y.natAbs.log2 + 1 + k + 1) := Nat.pow_le_pow_right (by decide) (by omega)
  have e1 : (x == 0) = false := by simpa using hx
  have e2 : (y == 0) = false := by simpa using hy
  simp only [e1, e2, Bool.false_eq_true, if_false]
  have : ¬ (x.natAbs.log2 / 30 + 1 > y.natAbs.log2 / 30 + 1 + 150) := by omega
  simp [this]
theorem nopy1 {n m : Int} (hm : m ≠ 0) {k : Nat} (hk : k ≤ 8999) (h : Lt2 k m) : NoPy n m := by
  intro g hg
  have hlt : g.natAbs.log2 < 9000 := by
    have h1 : g.natAbs ≤ m.natAbs := by rw [hg]; exact Nat.gcd_le_right _ (by omega)
    have h2 : g.natAbs < 2 ^ (k + 1) := Nat.lt_of_le_of_lt h1 (Nat.lt_of_lt_of_le h (Nat.pow_le_pow_right (by decide) (by omega)))
    have := log2_lt h2 (by omega)
    omega
  exact ⟨PyProof.noPylong_of_log2 hlt, PyProof.noPylong_of_log2 hlt⟩
theorem num_abs {n m : Int} (hm : m ≠ 0) : ((n : Rat) / (m : Rat)).num.natAbs = n.natAbs / Nat.gcd n.natAbs m.natAbs ∧ ((n : Rat) / (m : Rat)).den = m.natAbs / Nat.gcd n.natAbs m.natAbs := by
  have e : (n : Rat) / (m : Rat) = Rat.divInt n m := (Rat.divInt_eq_div n m).symm
  have d1 : (Int.gcd n m : Int) ∣ n := Int.gcd_dvd_left ..
  rw [e, Rat.num_divInt, Rat.den_divInt, if_neg hm, Int.gcd_comm m n]
  refine ⟨?_, rfl⟩
  obtain ⟨a, ha⟩ := d1
  have hG : 0 < Int.gcd n m := Int.gcd_pos_of_ne_zero_right n hm
  show _ = n.natAbs / Int.gcd n m
  generalize hk : Int.gcd n m = k at *
  have hk0 : (k : Int) ≠ 0 := by omega
  rw [ha]
  rw [show m.sign * (k * a) = k * (m.sign * a) by grind, Int.mul_ediv_cancel_left _ hk0, Int.natAbs_mul, Int.natAbs_mul, Int.natAbs_sign_of_ne_zero hm, Int.natAbs_natCast, Nat.one_mul, Nat.mul_div_cancel_left _ hG]
theorem nopy2 {n m : Int} (hm : m ≠ 0) {k : Nat} (hk : k ≤ 4400) (h : Bq k ((n : Rat) / (m : Rat))) : NoPy n m := by
  intro g hg
  obtain ⟨h1, h2⟩ := h
  obtain ⟨e1, e2⟩ := num_abs (n := n) hm
  unfold Lt2 at h1 h2
  rw [e1] at h1
  rw [Int.natAbs_natCast, e2] at h2
  rw [← hg] at h1 h2
  have hd1 : g.natAbs ∣ n.natAbs := by rw [hg]; exact Nat.gcd_dvd_left ..
  have hd2 : g.natAbs ∣ m.natAbs := by rw [hg]; exact Nat.gcd_dvd_right ..
  refine ⟨nopy_of hk ?_, nopy_of hk ?_⟩
  · calc n.natAbs = g.natAbs * (n.natAbs / g.natAbs) := (Nat.mul_div_cancel' hd1).symm
      _ ≤ g.natAbs * 2 ^ k := Nat.mul_le_mul_left _ (Nat.le_of_lt h1)
      _ < (g.natAbs + 1) * 2 ^ k := by rw [Nat.succ_mul]; have := Nat.two_pow_pos k; omega
  · calc m.natAbs = g.natAbs * (m.natAbs / g.natAbs) := (Nat.mul_div_cancel' hd2).symm
      _ ≤ g.natAbs * 2 ^ k := Nat.mul_le_mul_left _ (Nat.le_of_lt h2)
      _ < (g.natAbs + 1) * 2 ^ k := by rw [Nat.succ_mul]; have := Nat.two_pow_pos k; omega
theorem fr_val {n m : Int} (hm : m ≠ 0) : ∀ g : Int, g = (if m > 0 then gGcd n m else -gGcd n m) → g ≠ 0 ∧ n.fdiv g = ((n : Rat) / (m : Rat)).num ∧ m.fdiv g = (((n : Rat) / (m : Rat)).den : Int) := by
  intro g hg
  have e : (n : Rat) / (m : Rat) = Rat.divInt n m := (Rat.divInt_eq_div n m).symm
  have hG : 0 < Int.gcd n m := Int.gcd_pos_of_ne_zero_right n hm
  have hgg : gGcd n m = (Int.gcd n m : Int) := rfl
  have d1 : (Int.gcd n m : Int) ∣ n := Int.gcd_dvd_left ..
  have d2 : (Int.gcd n m : Int) ∣ m := Int.gcd_dvd_right ..
  rw [e, Rat.num_divInt, Rat.den_divInt, if_neg hm, Int.gcd_comm m n]
  rw [hgg] at hg
  generalize Int.gcd n m = k at *
  obtain ⟨a, ha⟩ := d1
  obtain ⟨b, hb⟩ := d2
  have hk : (k : Int) ≠ 0 := by omega
  by_cases h : m > 0
  · rw [if_pos h] at hg
    subst hg
    have hs : m.sign = 1 := Int.sign_eq_one_of_pos h
    refine ⟨hk, ?_, ?_⟩
    · rw [hs, Int.one_mul, Int.fdiv_eq_ediv_of_nonneg _ (by omega)]
    · rw [Int.fdiv_eq_ediv_of_nonneg _ (by omega)]
      rw [Int.natCast_ediv]
      congr 1
      omega
  · rw [if_neg h] at hg
    subst hg
    have hs : m.sign = -1 := Int.sign_eq_neg_one_of_neg (by omega)
    refine ⟨by omega, ?_, ?_⟩
    · rw [hs, ha, show (-1 : Int) * (k * a) = k * (-a) by grind, Int.mul_ediv_cancel_left _ hk, show (k : Int) * a = (-(k : Int)) * (-a) by grind, Int.mul_fdiv_cancel_left _ (by omega)]
    · have hb0 : b < 0 := by
        have : (k : Int) * b < 0 := by omega
        rcases Int.lt_or_le b 0 with q | q
        · exact q
        · have := Int.mul_nonneg (show (0 : Int) ≤ k by omega) q
          omega
      rw [Int.natCast_ediv, show ((m.natAbs : Nat) : Int) = k * (-b) by rw [hb] at h ⊢; rw [Int.natAbs_mul]; push_cast; rw [show ((b.natAbs : Nat) : Int) = -b by omega, show ((((k : Int)).natAbs : Nat) : Int) = k by omega]]
      rw [Int.mul_ediv_cancel_left _ hk, hb, show (k : Int) * b = (-(k : Int)) * (-b) by grind, Int.mul_fdiv_cancel_left _ (by omega)]
/-- the parts of a rational -/
theorem q_eq (x : Rat) : (x.num : Rat) / ((x.den : Int) : Rat) = x := by
  rw [← Rat.divInt_eq_div]; exact Rat.num_divInt_den x
theorem den_ne (x : Rat) : (x.den : Int) ≠ 0 := by have := x.den_pos; omega
theorem cast_ne {i : Int} (h : i ≠ 0) : (i : Rat) ≠ 0 := by
  intro e
  exact h (by exact_mod_cast e)
theorem q_mul (x : Rat) : (x.num : Rat) = x * ((x.den : Int) : Rat) := by
  have := q_eq x
  have h := cast_ne (den_ne x)
  grind
theorem sum_val (x y : Rat) : ((x.num * (y.den : Int) + y.num * (x.den : Int) : Int) : Rat) / (((x.den : Int) * (y.den : Int) : Int) : Rat) = x + y := by
  have h1 := q_mul x
  have h2 := q_mul y
  have h3 := cast_ne (den_ne x)
  have h4 := cast_ne (den_ne y)
  push_cast at *
  grind
theorem less_val (x y : Rat) : ((x.num * (y.den : Int) - y.num * (x.den : Int) : Int) : Rat) / (((x.den : Int) * (y.den : Int) : Int) : Rat) = x - y := by
  have h1 := q_mul x
  have h2 := q_mul y
  have h3 := cast_ne (den_ne x)
  have h4 := cast_ne (den_ne y)
  push_cast at *
  grind
theorem prod_val (x y : Rat) : ((x.num * y.num : Int) : Rat) / (((x.den : Int) * (y.den : Int) : Int) : Rat) = x * y := by
  have h1 := q_mul x
  have h2 := q_mul y
  have h3 := cast_ne (den_ne x)
  have h4 := cast_ne (den_ne y)
  push_cast at *
  grind
theorem over_val (x y : Rat) (h : y ≠ 0) : ((x.num * (y.den : Int) : Int) : Rat) / (((x.den : Int) * y.num : Int) : Rat) = x / y := by
  have h1 := q_mul x
  have h2 := q_mul y
  have h3 := cast_ne (den_ne x)
  have h4 := cast_ne (den_ne y)
  push_cast at *
  grind
end K12
namespace K12
open PySem PySem.Spec PyProof.Rows L2 DL
theorem bq_div {n m : Int} {k : Nat} (hm : m ≠ 0) (h1 : Lt2 k n) (h2 : Lt2 k m) : Bq k ((n : Rat) / (m : Rat)) := by
  obtain ⟨e1, e2⟩ := num_abs (n := n) hm
  refine ⟨?_, ?_⟩
  · unfold Lt2 at *
    rw [e1]
    exact Nat.lt_of_le_of_lt (Nat.div_le_self ..) h1
  · unfold Lt2 at *
    rw [Int.natAbs_natCast, e2]
    exact Nat.lt_of_le_of_lt (Nat.div_le_self ..) h2
def conj (x : G) : G := ⟨x.re, -x.im⟩
theorem den4 (x y : G) : (x.re.den : Int) * (x.im.den : Int) * (y.re.den : Int) * (y.im.den : Int) ≠ 0 :=
  Int.mul_ne_zero (Int.mul_ne_zero (Int.mul_ne_zero (den_ne _) (den_ne _)) (den_ne _)) (den_ne _)
theorem den4s (x : G) : (x.re.den : Int) * (x.re.den : Int) * (x.im.den : Int) * (x.im.den : Int) ≠ 0 :=
  Int.mul_ne_zero (Int.mul_ne_zero (Int.mul_ne_zero (den_ne _) (den_ne _)) (den_ne _)) (den_ne _)
theorem prodN_re (x y : G) : ((x.re.num * y.re.num * (x.im.den : Int) * (y.im.den : Int) - x.im.num * y.im.num * (x.re.den : Int) * (y.re.den : Int) : Int) : Rat) / (((x.re.den : Int) * (x.im.den : Int) * (y.re.den : Int) * (y.im.den : Int) : Int) : Rat) = (x * y).re := by
  have h1 := q_mul x.re
  have h2 := q_mul x.im
  have h3 := q_mul y.re
  have h4 := q_mul y.im
  have k1 := cast_ne (den_ne x.re)
  have k2 := cast_ne (den_ne x.im)
  have k3 := cast_ne (den_ne y.re)
  have k4 := cast_ne (den_ne y.im)
  have k5 := cast_ne (den4 x y)
  rw [G.mul_re]
  push_cast at *
  generalize x.re = a at *
  generalize x.im = b at *
  generalize y.re = c at *
  generalize y.im = d at *
  grind
theorem prodN_im (x y : G) : ((x.re.num * y.im.num * (x.im.den : Int) * (y.re.den : Int) + x.im.num * y.re.num * (x.re.den : Int) * (y.im.den : Int) : Int) : Rat) / (((x.re.den : Int) * (x.im.den : Int) * (y.re.den : Int) * (y.im.den : Int) : Int) : Rat) = (x * y).im := by
  have h1 := q_mul x.re
  have h2 := q_mul x.im
  have h3 := q_mul y.re
  have h4 := q_mul y.im
  have k1 := cast_ne (den_ne x.re)
  have k2 := cast_ne (den_ne x.im)
  have k3 := cast_ne (den_ne y.re)
  have k4 := cast_ne (den_ne y.im)
  have k5 := cast_ne (den4 x y)
  rw [G.mul_im]
  push_cast at *
  generalize x.re = a at *
  generalize x.im = b at *
  generalize y.re = c at *
  generalize y.im = d at *
  grind
theorem size_val (x : G) : ((x.re.num * x.re.num * (x.im.den : Int) * (x.im.den : Int) + x.im.num * x.im.num * (x.re.den : Int) * (x.re.den : Int) : Int) : Rat) / (((x.re.den : Int) * (x.re.den : Int) * (x.im.den : Int) * (x.im.den : Int) : Int) : Rat) = x.nm := by
  have h1 := q_mul x.re
  have h2 := q_mul x.im
  have k1 := cast_ne (den_ne x.re)
  have k2 := cast_ne (den_ne x.im)
  have k5 := cast_ne (den4s x)
  unfold G.nm
  push_cast at *
  generalize x.re = a at *
  generalize x.im = b at *
  grind
theorem bd_prod {x y : G} (hx : Bd 2200 x) (hy : Bd 2200 y) : Bd 8801 (x * y) := by
  obtain ⟨⟨a1, a2⟩, b1, b2⟩ := hx
  obtain ⟨⟨c1, c2⟩, d1, d2⟩ := hy
  refine ⟨?_, ?_⟩
  · rw [← prodN_re]
    exact bq_div (den4 x y) (Lt2.sub (((a1.mul c1).mul b2).mul d2) (((b1.mul d1).mul a2).mul c2)) ((((a2.mul b2).mul c2).mul d2).mono (by decide))
  · rw [← prodN_im]
    exact bq_div (den4 x y) (Lt2.add (((a1.mul d1).mul b2).mul c2) (((b1.mul c1).mul a2).mul d2)) ((((a2.mul b2).mul c2).mul d2).mono (by decide))
theorem bq_size {x : G} (hx : Bd 2200 x) : Bq 8801 x.nm := by
  obtain ⟨⟨a1, a2⟩, b1, b2⟩ := hx
  rw [← size_val]
  exact bq_div (den4s x) (Lt2.add (((a1.mul a1).mul b2).mul b2) (((b1.mul b1).mul a2).mul a2)) ((((a2.mul a2).mul b2).mul b2).mono (by decide))
theorem bd_conj {n : Nat} {x : G} (h : Bd n x) : Bd n (conj x) := ⟨h.1, by
  obtain ⟨_, h1, h2⟩ := h
  refine ⟨?_, ?_⟩
  · show Lt2 n (-x.im).num
    rw [Rat.neg_num]; exact h1.neg
  · show Lt2 n ((-x.im).den : Int)
    rw [Rat.neg_den]; exact h2⟩
theorem over_re (x y : G) : (x * conj y).re * (1 / y.nm) = (x / y).re := by
  show (x.re * y.re - x.im * -y.im) * (1 / y.nm) = x.re * (y.re * (y.nm)⁻¹) - x.im * (-y.im * (y.nm)⁻¹)
  generalize y.nm = n
  grind
theorem over_im (x y : G) : (x * conj y).im * (1 / y.nm) = (x / y).im := by
  show (x.re * -y.im + x.im * y.re) * (1 / y.nm) = x.re * (-y.im * (y.nm)⁻¹) + x.im * (y.re * (y.nm)⁻¹)
  generalize y.nm = n
  grind
theorem bq_inv {n : Nat} {q : Rat} (hq : q ≠ 0) (h : Bq n q) : Bq n (1 / q) := by
  have hy0 : q.num ≠ 0 := fun e => hq (Rat.num_eq_zero.mp e)
  have e := over_val 1 q hq
  rw [← e]
  refine bq_div (Int.mul_ne_zero (by decide) hy0) ?_ ?_
  · show Lt2 n (1 * _)
    rw [Int.one_mul]; exact h.2
  · show Lt2 n (1 * _)
    rw [Int.one_mul]; exact h.1
end K12
/-! Data: shapes and equality. -/
namespace K12
open PySem PySem.Spec PyProof.Rows L2 DL
/-- may be laid, at most k deep -/
def Sh (k : Nat) (d : PyData) : Prop := d.canLay0 = true ∧ d.depth ≤ k
theorem Sh.mono {k n : Nat} {d : PyData} (h : Sh k d) (hk : k ≤ n) : Sh n d := ⟨h.1, Nat.le_trans h.2 hk⟩
theorem Sh.shaped {k : Nat} {d : PyData} (h : Sh k d) (hk : Nat.ble k 64 = true) : SeqAt.shaped d = true := by
  unfold SeqAt.shaped
  rw [h.1, decide_eq_true (Nat.le_trans h.2 (Nat.le_of_ble_eq_true hk))]
  rfl
theorem sh_int (i : Int) : Sh 0 (.int i) := ⟨rfl, by rw [PyData.depth]; exact Nat.le_refl _⟩
theorem sh_bool (i : Bool) : Sh 0 (.bool i) := ⟨rfl, by rw [PyData.depth]; exact Nat.le_refl _⟩
theorem sh_none : Sh 0 .none := ⟨rfl, by rw [PyData.depth]; exact Nat.le_refl _⟩
theorem sh_all {k : Nat} : ∀ {ds : List PyData}, (∀ d ∈ ds, Sh k d) → PyData.canLayAll0 ds = true ∧ PyData.depthAll ds ≤ k
  | [], _ => ⟨rfl, by rw [PyData.depthAll]; exact Nat.zero_le _⟩
  | d :: ds, h => by
    obtain ⟨a, b⟩ := h d (by simp)
    obtain ⟨c, e⟩ := sh_all (ds := ds) fun d hd => h d (by simp [hd])
    rw [PyData.canLayAll0, PyData.depthAll, a, c]
    exact ⟨rfl, Nat.max_le.mpr ⟨b, e⟩⟩
theorem sh_tup {k : Nat} {ds : List PyData} (h : ∀ d ∈ ds, Sh k d) : Sh (k + 1) (.tuple ds) := by
  obtain ⟨a, b⟩ := sh_all h
  refine ⟨?_, ?_⟩
  · rw [PyData.canLay0]; exact a
  · rw [PyData.depth]; omega
theorem sh_lst {k : Nat} {ds : List PyData} (h : ∀ d ∈ ds, Sh k d) : Sh (k + 1) (.list ds) := by
  obtain ⟨a, b⟩ := sh_all h
  refine ⟨?_, ?_⟩
  · rw [PyData.canLay0]; exact a
  · rw [PyData.depth]; omega
theorem sh_F (q : Rat) : Sh 1 (encF q) := sh_tup fun d hd => by
  simp only [List.mem_cons, List.not_mem_nil, or_false] at hd
  rcases hd with rfl | rfl <;> exact sh_int _
theorem sh_N (x : G) : Sh 2 (encN x) := sh_tup fun d hd => by
  simp only [List.mem_cons, List.not_mem_nil, or_false] at hd
  rcases hd with rfl | rfl <;> exact sh_F _
/-- a row of the program -/
def encR (l : List G) : PyData := .tuple (l.map encN)
theorem sh_R (l : List G) : Sh 3 (encR l) := sh_tup fun d hd => by
  obtain ⟨x, _, rfl⟩ := List.mem_map.mp hd
  exact sh_N x
/-- a quote of the program -/
def encQ (q : List G × List G) : PyData := .tuple [encR q.1, encR q.2]
theorem sh_Q (q : List G × List G) : Sh 4 (encQ q) := sh_tup fun d hd => by
  simp only [List.mem_cons, List.not_mem_nil, or_false] at hd
  rcases hd with rfl | rfl <;> exact sh_R _
/-! ### equality -/
theorem eqv_int (i j : Int) : PyData.eqv (.int i) (.int j) = decide (i = j) := by
  rw [PyData.eqv]; exact Bool.beq_eq_decide_eq i j
theorem eqv_tup (a b : List PyData) : PyData.eqv (.tuple a) (.tuple b) = PyData.eqvAll a b := by rw [PyData.eqv]
theorem eqv_lst (a b : List PyData) : PyData.eqv (.list a) (.list b) = PyData.eqvAll a b := by rw [PyData.eqv]
theorem eqvAll_nil : PyData.eqvAll [] [] = true := by rw [PyData.eqvAll]
theorem eqvAll_cons (x y : PyData) (a b : List PyData) : PyData.eqvAll (x :: a) (y :: b) = (PyData.eqv x y && PyData.eqvAll a b) := by rw [PyData.eqvAll]
theorem eqvAll_nil1 (y : PyData) (b : List PyData) : PyData.eqvAll [] (y :: b) = false := by rw [PyData.eqvAll]
theorem eqvAll_nil2 (y : PyData) (b : List PyData) : PyData.eqvAll (y :: b) [] = false := by rw [PyData.eqvAll]
theorem eqvAll_map {α : Type} [DecidableEq α] {f : α → PyData} (hf : ∀ x y, PyData.eqv (f x) (f y) = decide (x = y)) : ∀ l m : List α, PyData.eqvAll (l.map f) (m.map f) = decide (l = m)
  | [], [] => by rw [List.map_nil, eqvAll_nil]; simp
  | [], y :: m => by rw [List.map_nil, List.map_cons, eqvAll_nil1]; simp
  | x :: l, [] => by rw [List.map_nil, List.map_cons, eqvAll_nil2]; simp
  | x :: l, y :: m => by
    rw [List.map_cons, List.map_cons, eqvAll_cons, hf, eqvAll_map hf l m]
    simp [Bool.decide_and]
theorem eqv_F (p q : Rat) : PyData.eqv (encF p) (encF q) = decide (p = q) := by
  unfold encF
  rw [eqv_tup, eqvAll_cons, eqvAll_cons, eqvAll_nil, eqv_int, eqv_int, Bool.and_true, ← Bool.decide_and]
  congr 1
  apply propext
  refine ⟨fun ⟨a, b⟩ => Rat.ext a (by omega), fun h => by subst h; exact ⟨rfl, rfl⟩⟩
theorem eqv_N (x y : G) : PyData.eqv (encN x) (encN y) = decide (x = y) := by
  unfold encN
  rw [eqv_tup, eqvAll_cons, eqvAll_cons, eqvAll_nil, eqv_F, eqv_F, Bool.and_true, ← Bool.decide_and]
  congr 1
  apply propext
  refine ⟨fun ⟨a, b⟩ => G.ext' a b, fun h => by subst h; exact ⟨rfl, rfl⟩⟩
theorem eqv_R (l m : List G) : PyData.eqv (encR l) (encR m) = decide (l = m) := by
  unfold encR
  rw [eqv_tup]; exact eqvAll_map eqv_N l m
theorem eqv_Q (p q : List G × List G) : PyData.eqv (encQ p) (encQ q) = decide (p = q) := by
  unfold encQ
  rw [eqv_tup, eqvAll_cons, eqvAll_cons, eqvAll_nil, eqv_R, eqv_R, Bool.and_true, ← Bool.decide_and]
  congr 1
  apply propext
  refine ⟨fun ⟨a, b⟩ => Prod.ext a b, fun h => by subst h; exact ⟨rfl, rfl⟩⟩
theorem eqv_R0 (l : List G) : PyData.eqv (encR l) (.tuple []) = decide (l = []) := eqv_R l []
theorem encN_0 : encN 0 = .tuple [.tuple [.int 0, .int 1], .tuple [.int 0, .int 1]] := rfl
theorem encN_1 : encN 1 = .tuple [.tuple [.int 1, .int 1], .tuple [.int 0, .int 1]] := rfl
theorem encF_1 : encF 1 = .tuple [.int 1, .int 1] := rfl
theorem gcd_F (q : Rat) : gGcd q.num q.den = 1 := by
  unfold gGcd
  rw [Int.natAbs_natCast]
  have := q.reduced
  unfold Nat.Coprime at this
  rw [this]; rfl
end K12
/-! Loops and comprehensions, once each. -/
namespace K12
open PySem PySem.Spec PyProof.Rows L2 DL
section
variable {α : Type} {i : Nat} {T : FT} {Fe : FE} {ρ : List Sl} {P : List PyData → Prop} {g : FG} {S : FST} {δ : DEnd}
/-- a comprehension that keeps nothing -/
theorem lc_none {enc : α → PyData} {l : List α} : ∀ {acc : List PyData}, (∀ a ∈ l, ∀ PB : Bool → Prop, PB false → T (ρ.set i (.dat (enc a))) PB) → P acc → lcRun i T Fe ρ P (l.map enc) acc := by
  induction l with
  | nil => intro acc _ hP; exact hP
  | cons a l ih =>
    intro acc h hP
    refine h a (by simp) _ ?_
    refine ⟨fun z => (nomatch z), fun _ => ?_⟩
    exact ih (fun b hb => h b (by simp [hb])) hP
/-- a comprehension over all -/
theorem lc_map' {enc f : α → PyData} {l : List α} : ∀ {acc : List PyData}, (∀ a ∈ l, ∀ PP : Sl → Prop, PP (.dat (f a)) → Fe (ρ.set i (.dat (enc a))) PP) → acc.length + l.length ≤ 1000 → P (acc ++ l.map f) → lcRun i fYes Fe ρ P (l.map enc) acc := by
  induction l with
  | nil => intro acc _ _ hP; rw [List.map_nil, List.append_nil] at hP; exact hP
  | cons a l ih =>
    intro acc h hl hP
    rw [List.length_cons] at hl
    refine ⟨fun _ => ?_, fun z => (nomatch z)⟩
    refine h a (by simp) _ ⟨by omega, ?_⟩
    refine ih (fun b hb => h b (by simp [hb])) ?_ ?_
    · rw [List.length_append, List.length_cons, List.length_nil]; omega
    · rw [List.append_assoc]; exact hP
theorem lc_map {enc f : α → PyData} {l : List α} (h : ∀ a ∈ l, ∀ PP : Sl → Prop, PP (.dat (f a)) → Fe (ρ.set i (.dat (enc a))) PP) (hl : l.length ≤ 1000) (hP : P (l.map f)) : lcRun i fYes Fe ρ P (l.map enc) [] :=
  lc_map' h (by simpa using hl) hP
/-- for, with what holds before each turn -/
theorem for_inv' {enc : α → PyData} (I : Nat → List Sl → Prop) {l : List α} : ∀ {k n : Nat} {ρ : List Sl}, k + l.length = n → I k ρ →
    (∀ j a ρ', k ≤ j → l[j - k]? = some a → I j ρ' → ∀ D : DEnd, D.rt = δ.rt → (∀ ρ3, I (j + 1) ρ3 → D.nx ρ3) → (∀ ρ3, I (j + 1) ρ3 → D.ct ρ3) → g (.dat (enc a)) ρ' fun ρ2 => S D ρ2) → (∀ ρ', I n ρ' → δ.nx ρ') →
    forRun g S δ (l.map enc) ρ := by
  induction l with
  | nil => intro k n ρ hn h0 _ he; exact he ρ (by rw [← hn]; exact h0)
  | cons a l ih =>
    intro k n ρ hn h0 hs he
    rw [List.length_cons] at hn
    have ih2 : ∀ ρ3, I (k + 1) ρ3 → forRun g S δ (l.map enc) ρ3 := fun ρ3 h3 => ih (k := k + 1) (n := n) (by omega) h3 (fun j b ρ' hj hb hI => hs j b ρ' (by omega) (by
      rw [show j - k = (j - (k + 1)) + 1 by omega]; simpa using hb) hI) he
    exact hs k a ρ (Nat.le_refl _) (by rw [Nat.sub_self]; rfl) h0 { nx := forRun g S δ (l.map enc), rt := δ.rt, bk := δ.nx, ct := forRun g S δ (l.map enc) } rfl ih2 ih2
theorem for_inv {enc : α → PyData} (I : Nat → List Sl → Prop) {l : List α} {ρ : List Sl} (h0 : I 0 ρ)
    (hs : ∀ j a ρ', l[j]? = some a → I j ρ' → ∀ D : DEnd, D.rt = δ.rt → (∀ ρ3, I (j + 1) ρ3 → D.nx ρ3) → (∀ ρ3, I (j + 1) ρ3 → D.ct ρ3) → g (.dat (enc a)) ρ' fun ρ2 => S D ρ2) (he : ∀ ρ', I l.length ρ' → δ.nx ρ') : forRun g S δ (l.map enc) ρ :=
  for_inv' I (k := 0) (by omega) h0 (fun j a ρ' _ ha hI => hs j a ρ' (by simpa using ha) hI) he
end
/-- what stands between two statements -/
theorem seq_join {S T : FST} {δ : DEnd} {ρ : List Sl} (J : List Sl → Prop) (hT : ∀ ρ', J ρ' → T δ ρ') (h : ∀ N : List Sl → Prop, (∀ ρ', J ρ' → N ρ') → S { δ with nx := N } ρ) : fSeq S T δ ρ := h (T δ) hT
/-! ### places -/
theorem atI_map {α : Type} {enc : α → PyData} {l : List α} {n : Nat} {a : α} (h : l[n]? = some a) : atI (l.map enc) (n : Int) = some (enc a) := atI_nat (by rw [List.getElem?_map, h]; rfl)
theorem atI_last {α : Type} {enc : α → PyData} {l : List α} {a : α} (h : l.getLast? = some a) : atI (l.map enc) (-1) = some (enc a) := by
  have hl : l ≠ [] := fun e => by subst e; cases h
  have hp : 0 < l.length := List.length_pos_iff.mpr hl
  have hg : l[l.length - 1]? = some a := by rw [← List.getLast?_eq_getElem?]; exact h
  unfold atI
  rw [List.length_map]
  have e : ixN l.length (-1) = some (l.length - 1) := by
    unfold ixN
    simp
    omega
  rw [e]
  show (l.map enc)[l.length - 1]? = _
  rw [List.getElem?_map, hg]; rfl
theorem at_go {ds : List PyData} {i : Int} {d : PyData} {P : Sl → Prop} (h : atI ds i = some d) (hP : P (.dat d)) : fAtS ds i P := by unfold fAtS fAt; rw [h]; exact hP
theorem eq_go {x y : PyData} {b : Bool} {P : Sl → Prop} (h1 : SeqAt.shaped x = true) (h2 : SeqAt.shaped y = true) (h : PyData.eqv x y = b) (hP : P (.dat (.bool b))) : fEqD false (.dat x) (.dat y) P := by unfold fEqD; exact ⟨h1, h2, by rw [h]; exact hP⟩
theorem ne_go {x y : PyData} {b : Bool} {P : Sl → Prop} (h1 : SeqAt.shaped x = true) (h2 : SeqAt.shaped y = true) (h : PyData.eqv x y = b) (hP : P (.dat (.bool (!b)))) : fEqD true (.dat x) (.dat y) P := by unfold fEqD; exact ⟨h1, h2, by rw [h]; exact hP⟩
theorem j_go {n j : Nat} {k : Int} {PJ : Nat → Prop} (hj : ixN n k = some j) (h : PJ j) : fJ (ixN n k) PJ := by unfold fJ; rw [hj]; exact h
end K12
/-! Power series over G: a commutative ring; rows are lists of G. -/
namespace K12
structure Ser where
  c : Nat → G
namespace Ser
theorem ext' {f g : Ser} (h : ∀ n, f.c n = g.c n) : f = g := by
  cases f; cases g
  congr 1
  exact funext h
def sh (f : Ser) : Ser := ⟨fun n => f.c (n + 1)⟩
def mulC : Nat → (Nat → G) → (Nat → G) → G
  | 0, f, g => f 0 * g 0
  | n + 1, f, g => f 0 * g (n + 1) + mulC n (fun k => f (k + 1)) g
instance : Add Ser := ⟨fun f g => ⟨fun n => f.c n + g.c n⟩⟩
instance : Sub Ser := ⟨fun f g => ⟨fun n => f.c n - g.c n⟩⟩
instance : Neg Ser := ⟨fun f => ⟨fun n => -f.c n⟩⟩
instance : Mul Ser := ⟨fun f g => ⟨fun n => mulC n f.c g.c⟩⟩
def con (x : G) : Ser := ⟨fun n => if n = 0 then x else 0⟩
instance : NatCast Ser := ⟨fun n => con n⟩
instance : IntCast Ser := ⟨fun n => con n⟩
instance (n : Nat) : OfNat Ser n := ⟨con (OfNat.ofNat n)⟩
def npow (x : Ser) : Nat → Ser
  | 0 => 1
  | n + 1 => npow x n * x
instance : HPow Ser Nat Ser := ⟨npow⟩
instance : SMul Nat Ser := ⟨fun n x => (n : Ser) * x⟩
instance : SMul Int Ser := ⟨fun n x => (n : Ser) * x⟩
theorem add_c (f g : Ser) (n : Nat) : (f + g).c n = f.c n + g.c n := rfl
theorem sub_c (f g : Ser) (n : Nat) : (f - g).c n = f.c n - g.c n := rfl
theorem neg_c (f : Ser) (n : Nat) : (-f).c n = -f.c n := rfl
theorem mul_c (f g : Ser) (n : Nat) : (f * g).c n = mulC n f.c g.c := rfl
theorem con_0 (x : G) : (con x).c 0 = x := rfl
theorem con_s (x : G) (n : Nat) : (con x).c (n + 1) = 0 := rfl
theorem one_c0 : (1 : Ser).c 0 = 1 := rfl
theorem one_cs (n : Nat) : (1 : Ser).c (n + 1) = 0 := rfl
theorem zero_c (n : Nat) : (0 : Ser).c n = 0 := by cases n <;> rfl
theorem mulC_add : ∀ (n : Nat) (f g h : Nat → G), mulC n f (fun k => g k + h k) = mulC n f g + mulC n f h
  | 0, f, g, h => by simp only [mulC]; grind
  | n + 1, f, g, h => by simp only [mulC]; rw [mulC_add n]; grind
theorem add_mulC : ∀ (n : Nat) (f g h : Nat → G), mulC n (fun k => f k + g k) h = mulC n f h + mulC n g h
  | 0, f, g, h => by simp only [mulC]; grind
  | n + 1, f, g, h => by simp only [mulC]; rw [add_mulC n (fun k => f (k + 1)) (fun k => g (k + 1))]; grind
theorem smul_mulC : ∀ (n : Nat) (a : G) (f g : Nat → G), mulC n (fun k => a * f k) g = a * mulC n f g
  | 0, a, f, g => by simp only [mulC]; grind
  | n + 1, a, f, g => by simp only [mulC]; rw [smul_mulC n a (fun k => f (k + 1))]; grind
theorem zero_mulC : ∀ (n : Nat) (f g : Nat → G), (∀ k, f k = 0) → mulC n f g = 0
  | 0, f, g, h => by simp only [mulC]; rw [h]; grind
  | n + 1, f, g, h => by simp only [mulC]; rw [zero_mulC n _ _ (fun k => h (k + 1)), h]; grind
theorem mulC_right : ∀ (n : Nat) (f g : Nat → G), mulC (n + 1) f g = mulC n f (fun k => g (k + 1)) + f (n + 1) * g 0
  | 0, f, g => by simp only [mulC]
  | n + 1, f, g => by
    rw [mulC, mulC_right n (fun k => f (k + 1)) g]
    show _ = f 0 * g (n + 1 + 1) + mulC n (fun k => f (k + 1)) (fun k => g (k + 1)) + _
    grind
theorem mulC_comm : ∀ (n : Nat) (f g : Nat → G), mulC n f g = mulC n g f
  | 0, f, g => by simp only [mulC]; grind
  | n + 1, f, g => by
    rw [mulC_right n g f, mulC, mulC_comm n (fun k => f (k + 1)) g]
    grind
theorem mulC_assoc : ∀ (n : Nat) (f g h : Nat → G), mulC n (fun k => mulC k f g) h = mulC n f (fun k => mulC k g h)
  | 0, f, g, h => by simp only [mulC]; grind
  | n + 1, f, g, h => by
    have e : (fun k => mulC (k + 1) f g) = fun k => f 0 * g (k + 1) + mulC k (fun k => f (k + 1)) g := rfl
    show mulC 0 f g * h (n + 1) + mulC n (fun k => mulC (k + 1) f g) h = f 0 * mulC (n + 1) g h + mulC n (fun k => f (k + 1)) (fun k => mulC k g h)
    rw [e, add_mulC n (fun k => f 0 * g (k + 1)) (fun k => mulC k (fun k => f (k + 1)) g), smul_mulC n (f 0) (fun k => g (k + 1)), mulC_assoc n (fun k => f (k + 1)) g h]
    show f 0 * g 0 * h (n + 1) + _ = f 0 * (g 0 * h (n + 1) + mulC n (fun k => g (k + 1)) h) + _
    grind
theorem one_mulC (n : Nat) (g : Nat → G) : mulC n (1 : Ser).c g = g n := by
  cases n with
  | zero => simp only [mulC]; rw [one_c0]; grind
  | succ n =>
    simp only [mulC]
    rw [zero_mulC n _ _ (fun k => one_cs k), one_c0]; grind
instance : Lean.Grind.CommRing Ser where
  add_zero a := ext' fun n => by rw [add_c, zero_c]; grind
  add_comm a b := ext' fun n => by simp only [add_c]; grind
  add_assoc a b c := ext' fun n => by simp only [add_c]; grind
  mul_assoc a b c := ext' fun n => mulC_assoc n _ _ _
  mul_one a := ext' fun n => by rw [mul_c, mulC_comm, one_mulC]
  one_mul a := ext' fun n => by rw [mul_c, one_mulC]
  left_distrib a b c := ext' fun n => mulC_add n _ _ _
  right_distrib a b c := ext' fun n => add_mulC n _ _ _
  zero_mul a := ext' fun n => by rw [mul_c, zero_mulC n _ _ zero_c, zero_c]
  mul_zero a := ext' fun n => by rw [mul_c, mulC_comm, zero_mulC n _ _ zero_c, zero_c]
  mul_comm a b := ext' fun n => mulC_comm n _ _
  pow_zero a := rfl
  pow_succ a n := rfl
  ofNat_succ a := ext' fun n => by
    cases n with
    | zero =>
      show (OfNat.ofNat (a + 1) : G) = OfNat.ofNat a + 1
      exact Lean.Grind.Semiring.ofNat_succ a
    | succ n =>
      show (0 : G) = 0 + 0
      grind
  ofNat_eq_natCast n := rfl
  nsmul_eq_natCast_mul n a := rfl
  neg_add_cancel a := ext' fun n => by rw [add_c, neg_c, zero_c]; grind
  sub_eq_add_neg a b := ext' fun n => by rw [sub_c, add_c, neg_c]; grind
  neg_zsmul i a := ext' fun n => by
    show mulC n (con ((-i : Int) : G)).c a.c = -(mulC n (con (i : G)).c a.c)
    have e : (con ((-i : Int) : G)).c = fun k => (-1 : G) * (con (i : G)).c k := by
      funext k
      cases k with
      | zero =>
        show ((-i : Int) : G) = -1 * (i : G)
        rw [Lean.Grind.Ring.intCast_neg]; grind
      | succ k => show (0 : G) = -1 * 0; grind
    rw [e, smul_mulC]; grind
  zsmul_natCast_eq_nsmul n a := rfl
  intCast_ofNat n := rfl
  intCast_neg i := ext' fun n => by
    cases n with
    | zero => exact Lean.Grind.Ring.intCast_neg i
    | succ n => show (0 : G) = -0; grind
theorem con_mul (x : G) (f : Ser) (n : Nat) : (con x * f).c n = x * f.c n := by
  rw [mul_c]
  have e : (con x).c = fun k => x * (1 : Ser).c k := by
    funext k
    cases k with
    | zero => show x = x * 1; grind
    | succ k => show 0 = x * 0; grind
  rw [e, smul_mulC, one_mulC]
end Ser
example (a b c : Ser) (h : a * b = 1) : a * (b * c) = c := by grind
end K12
/-! Rows as polynomials: degrees, no zero divisors. -/
namespace K12
open Ser
def sr (l : List G) : Ser := ⟨fun n => l.getD n 0⟩
theorem sr_c (l : List G) (n : Nat) : (sr l).c n = l.getD n 0 := rfl
theorem sr_get {l : List G} {n : Nat} {x : G} (h : l[n]? = some x) : (sr l).c n = x := by
  rw [sr_c, List.getD_eq_getElem?_getD, h]; rfl
theorem sr_ge {l : List G} {n : Nat} (h : l.length ≤ n) : (sr l).c n = 0 := by
  rw [sr_c, List.getD_eq_getElem?_getD, List.getElem?_eq_none h]; rfl
theorem sr_nil : sr [] = 0 := Ser.ext' fun n => by rw [zero_c]; rfl
/-- degree below n -/
def Dl (n : Nat) (f : Ser) : Prop := ∀ k, n ≤ k → f.c k = 0
/-- degree n -/
def Dg (n : Nat) (f : Ser) : Prop := f.c n ≠ 0 ∧ Dl (n + 1) f
def IsP (f : Ser) : Prop := ∃ n, Dl n f
theorem Dl.mono {n m : Nat} {f : Ser} (h : Dl n f) (hm : n ≤ m) : Dl m f := fun k hk => h k (Nat.le_trans hm hk)
theorem dl_sr (l : List G) : Dl l.length (sr l) := fun _ hk => sr_ge hk
theorem isP_sr (l : List G) : IsP (sr l) := ⟨_, dl_sr l⟩
theorem Dl.add {n : Nat} {f g : Ser} (h : Dl n f) (h' : Dl n g) : Dl n (f + g) := fun k hk => by rw [add_c, h k hk, h' k hk]; grind
theorem Dl.sub {n : Nat} {f g : Ser} (h : Dl n f) (h' : Dl n g) : Dl n (f - g) := fun k hk => by rw [sub_c, h k hk, h' k hk]; grind
theorem Dl.con {n : Nat} {f : Ser} (x : G) (h : Dl n f) : Dl n (con x * f) := fun k hk => by rw [con_mul, h k hk]; grind
theorem mulC_top : ∀ (n m j : Nat) (f g : Nat → G), (∀ k, n < k → f k = 0) → (∀ k, m < k → g k = 0) → n + m ≤ j → mulC j f g = if j = n + m then f n * g m else 0
  | 0, m, 0, f, g, hf, hg, hj => by
    have : m = 0 := by omega
    subst this
    rw [if_pos rfl]; rfl
  | 0, m, j + 1, f, g, hf, hg, hj => by
    rw [mulC, zero_mulC j _ _ (fun k => hf (k + 1) (by omega))]
    by_cases e : j + 1 = 0 + m
    · rw [if_pos e, e, Nat.zero_add]; grind
    · rw [if_neg e, hg (j + 1) (by omega)]; grind
  | n + 1, m, 0, f, g, hf, hg, hj => by omega
  | n + 1, m, j + 1, f, g, hf, hg, hj => by
    rw [mulC, hg (j + 1) (by omega), mulC_top n m j (fun k => f (k + 1)) g (fun k hk => hf (k + 1) (by omega)) hg (by omega)]
    by_cases e : j = n + m
    · rw [if_pos e, if_pos (by omega)]; grind
    · rw [if_neg e, if_neg (by omega)]; grind
theorem mul_top {n m : Nat} {f g : Ser} (hf : Dl (n + 1) f) (hg : Dl (m + 1) g) : (f * g).c (n + m) = f.c n * g.c m ∧ Dl (n + m + 1) (f * g) := by
  refine ⟨?_, fun k hk => ?_⟩
  · rw [mul_c, mulC_top n m (n + m) _ _ (fun k hk => hf k (by omega)) (fun k hk => hg k (by omega)) (Nat.le_refl _), if_pos rfl]
  · rw [mul_c, mulC_top n m k _ _ (fun k hk => hf k (by omega)) (fun k hk => hg k (by omega)) (by omega), if_neg (by omega)]
theorem Dg.mul {n m : Nat} {f g : Ser} (hf : Dg n f) (hg : Dg m g) : Dg (n + m) (f * g) := by
  obtain ⟨a, b⟩ := mul_top hf.2 hg.2
  refine ⟨fun e => ?_, b⟩
  rw [a] at e
  rcases G.mul_eq_zero e with e | e
  · exact hf.1 e
  · exact hg.1 e
theorem Dl.zero {f : Ser} (h : Dl 0 f) : f = 0 := Ser.ext' fun n => by rw [zero_c]; exact h n (Nat.zero_le _)
theorem dg_of {n : Nat} : ∀ {f : Ser}, Dl n f → f ≠ 0 → ∃ m, m < n ∧ Dg m f := by
  induction n with
  | zero => intro f h h0; exact absurd h.zero h0
  | succ n ih =>
    intro f h h0
    by_cases e : f.c n = 0
    · obtain ⟨m, hm, hd⟩ := ih (f := f) (fun k hk => by
        by_cases q : k = n
        · subst q; exact e
        · exact h k (by omega)) h0
      exact ⟨m, by omega, hd⟩
    · exact ⟨n, by omega, e, h⟩
theorem IsP.dg {f : Ser} (h : IsP f) (h0 : f ≠ 0) : ∃ m, Dg m f := by
  obtain ⟨n, h⟩ := h
  obtain ⟨m, _, hm⟩ := dg_of h h0
  exact ⟨m, hm⟩
theorem Dg.ne {n : Nat} {f : Ser} (h : Dg n f) : f ≠ 0 := fun e => h.1 (by rw [e, zero_c])
theorem Dg.uniq {n m : Nat} {f : Ser} (h : Dg n f) (h' : Dg m f) : n = m := by
  rcases Nat.lt_trichotomy n m with q | q | q
  · exact absurd (h.2 m q) h'.1
  · exact q
  · exact absurd (h'.2 n q) h.1
theorem Dg.lt {n m : Nat} {f : Ser} (h : Dg n f) (h' : Dl m f) : n < m := by
  rcases Nat.lt_or_ge n m with q | q
  · exact q
  · exact absurd (h' n q) h.1
theorem isP_add {f g : Ser} (h : IsP f) (h' : IsP g) : IsP (f + g) := by
  obtain ⟨n, h⟩ := h
  obtain ⟨m, h'⟩ := h'
  exact ⟨max n m, (h.mono (Nat.le_max_left ..)).add (h'.mono (Nat.le_max_right ..))⟩
theorem isP_sub {f g : Ser} (h : IsP f) (h' : IsP g) : IsP (f - g) := by
  obtain ⟨n, h⟩ := h
  obtain ⟨m, h'⟩ := h'
  exact ⟨max n m, (h.mono (Nat.le_max_left ..)).sub (h'.mono (Nat.le_max_right ..))⟩
theorem isP_mul {f g : Ser} (h : IsP f) (h' : IsP g) : IsP (f * g) := by
  obtain ⟨n, h⟩ := h
  obtain ⟨m, h'⟩ := h'
  exact ⟨_, (mul_top (h.mono (Nat.le_succ n)) (h'.mono (Nat.le_succ m))).2⟩
theorem dl_con (x : G) : Dl 1 (con x) := fun k hk => by
  cases k with
  | zero => omega
  | succ k => rfl
theorem isP_con (x : G) : IsP (con x) := ⟨1, dl_con x⟩
theorem isP_one : IsP 1 := isP_con 1
theorem isP_zero : IsP 0 := ⟨0, fun k _ => zero_c k⟩
theorem con_add (x y : G) : con (x + y) = con x + con y := Ser.ext' fun n => by
  cases n with
  | zero => rfl
  | succ n => show (0 : G) = 0 + 0; grind
theorem con_sub (x y : G) : con (x - y) = con x - con y := Ser.ext' fun n => by
  cases n with
  | zero => rfl
  | succ n => show (0 : G) = 0 - 0; grind
theorem con_con (x y : G) : con x * con y = con (x * y) := Ser.ext' fun n => by
  rw [con_mul]
  cases n with
  | zero => rfl
  | succ n => show x * 0 = (0 : G); grind
theorem con_one : con 1 = 1 := rfl
theorem con_zero : con 0 = 0 := rfl
theorem con_inv {x : G} (h : x ≠ 0) : con x * con (1 / x) = 1 := by
  rw [con_con, show x * (1 / x) = 1 by grind]; rfl
theorem con_ne {x : G} (h : x ≠ 0) : con x ≠ 0 := fun e => h (by
  have q : (con x).c 0 = (0 : Ser).c 0 := by rw [e]
  rw [zero_c, con_0] at q
  exact q)
theorem mul0_c (f g : Ser) : (f * g).c 0 = f.c 0 * g.c 0 := rfl
/-- no zero divisors among polynomials -/
theorem isP_cancel {f g : Ser} (hf : IsP f) (hg : IsP g) (h : f * g = 0) : f = 0 ∨ g = 0 := by
  by_cases e : f = 0
  · exact .inl e
  · by_cases e' : g = 0
    · exact .inr e'
    · obtain ⟨n, a⟩ := hf.dg e
      obtain ⟨m, b⟩ := hg.dg e'
      exact absurd h (a.mul b).ne
theorem mul_left_cancel {f g h : Ser} (hf : IsP f) (hg : IsP g) (hh : IsP h) (h0 : f ≠ 0) (e : f * g = f * h) : g = h := by
  have : f * (g - h) = 0 := by grind
  rcases isP_cancel hf (isP_sub hg hh) this with q | q
  · exact absurd q h0
  · grind
/-! ### division -/
theorem div_uniq {g q r q' r' : Ser} {n : Nat} (hg : Dg n g) (hq : IsP q) (hq' : IsP q') (hr : Dl n r) (hr' : Dl n r') (e : q * g + r = q' * g + r') : q = q' ∧ r = r' := by
  have e1 : (q - q') * g = r' - r := by grind
  by_cases h : q - q' = 0
  · exact ⟨by grind, by grind⟩
  · obtain ⟨m, hm⟩ := (isP_sub hq hq').dg h
    have := (hm.mul hg).lt (e1 ▸ hr'.sub hr)
    omega
/-! ### common divisors -/
/-- g is a greatest common divisor, told by a combination -/
structure Gcd (g a b : Ser) : Prop where
  p : IsP g
  l : ∃ x, IsP x ∧ a = x * g
  r : ∃ y, IsP y ∧ b = y * g
  c : ∃ s t, IsP s ∧ IsP t ∧ s * a + t * b = g
theorem Gcd.base {g : Ser} (h : IsP g) : Gcd g g 0 :=
  ⟨h, ⟨1, isP_one, by grind⟩, ⟨0, isP_zero, by grind⟩, 1, 0, isP_one, isP_zero, by grind⟩
/-- scaled on both sides -/
theorem Gcd.scale {g a b : Ser} {x y : G} (hx : x ≠ 0) (hy : y ≠ 0) (h : Gcd g (con x * a) (con y * b)) : Gcd g a b := by
  have ex := con_inv hx
  have ey := con_inv hy
  obtain ⟨hp, ⟨u, hu, e1⟩, ⟨v, hv, e2⟩, s, t, hs, ht, e3⟩ := h
  refine ⟨hp, ⟨con (1 / x) * u, isP_mul (isP_con _) hu, ?_⟩, ⟨con (1 / y) * v, isP_mul (isP_con _) hv, ?_⟩, s * con x, t * con y, isP_mul hs (isP_con _), isP_mul ht (isP_con _), by grind⟩
  · grind
  · grind
/-- one step: a = q b + r -/
theorem Gcd.step {g a b q r : Ser} (hq : IsP q) (e : a = q * b + r) (h : Gcd g b r) : Gcd g a b := by
  obtain ⟨hp, ⟨u, hu, e1⟩, ⟨v, hv, e2⟩, s, t, hs, ht, e3⟩ := h
  refine ⟨hp, ⟨q * u + v, isP_add (isP_mul hq hu) hv, by grind⟩, ⟨u, hu, e1⟩, t, s - t * q, ht, isP_sub hs (isP_mul ht hq), by grind⟩
/-- coprime -/
def Cop (a b : Ser) : Prop := ∃ s t, IsP s ∧ IsP t ∧ s * a + t * b = 1
theorem Gcd.cop {g a b x y : Ser} (h : Gcd g a b) (h0 : g ≠ 0) (hx : IsP x) (hy : IsP y) (e1 : a = x * g) (e2 : b = y * g) : Cop x y := by
  obtain ⟨hp, _, _, s, t, hs, ht, e3⟩ := h
  refine ⟨s, t, hs, ht, mul_left_cancel hp (isP_add (isP_mul hs hx) (isP_mul ht hy)) isP_one h0 (by grind)⟩
theorem Gcd.ne {g a b : Ser} (h : Gcd g a b) (hb : b ≠ 0) : g ≠ 0 := by
  obtain ⟨_, _, ⟨y, _, e⟩, _⟩ := h
  intro z
  exact hb (by rw [e, z]; grind)
/-- degree nought of what divides one -/
theorem unit_con {f g : Ser} (hf : IsP f) (hg : IsP g) (e : f * g = 1) : ∃ x, x ≠ 0 ∧ f = con x := by
  have h1 : Dg 0 (1 : Ser) := ⟨by rw [one_c0]; intro e; exact absurd e (by grind), fun k hk => by
    cases k with
    | zero => omega
    | succ k => rfl⟩
  have hf0 : f ≠ 0 := fun z => h1.ne (by rw [← e, z]; grind)
  have hg0 : g ≠ 0 := fun z => h1.ne (by rw [← e, z]; grind)
  obtain ⟨n, a⟩ := hf.dg hf0
  obtain ⟨m, b⟩ := hg.dg hg0
  have := Dg.uniq (a.mul b) (e ▸ h1)
  have hn : n = 0 := by omega
  subst hn
  refine ⟨f.c 0, a.1, Ser.ext' fun k => ?_⟩
  cases k with
  | zero => rfl
  | succ k => rw [con_s]; exact a.2 _ (by omega)
/-- a reduced quotient is one alone, up to a number -/
theorem red_uniq {a b t u t' u' : Ser} (ha : IsP a) (hb : IsP b) (ht : IsP t) (hu : IsP u) (ht' : IsP t') (hu' : IsP u') (hb0 : b ≠ 0) (hu0 : u ≠ 0)
    (e : t * b = u * a) (e' : t' * b = u' * a) (h : Cop t u) (h' : Cop t' u') : ∃ x, x ≠ 0 ∧ u' = con x * u ∧ t' = con x * t := by
  have e1 : t * u' = t' * u := by
    refine mul_left_cancel hb (isP_mul ht hu') (isP_mul ht' hu) hb0 ?_
    grind
  obtain ⟨p, q, hp, hq, e2⟩ := h
  obtain ⟨p', q', hp', hq', e3⟩ := h'
  have w1 : u' = (p * t' + q * u') * u := by grind
  have w2 : u = (p' * t + q' * u) * u' := by grind
  have hw := isP_add (isP_mul hp ht') (isP_mul hq hu')
  have hw' := isP_add (isP_mul hp' ht) (isP_mul hq' hu)
  have e4 : (p * t' + q * u') * (p' * t + q' * u) = 1 := by
    refine mul_left_cancel hu (isP_mul hw hw') isP_one hu0 ?_
    grind
  obtain ⟨x, hx, e5⟩ := unit_con hw hw' e4
  refine ⟨x, hx, by rw [← e5]; exact w1, ?_⟩
  refine mul_left_cancel hu ht' (isP_mul (isP_con x) ht) hu0 ?_
  rw [← e5]
  grind
end K12
/-! Rows as lists: trimmed lists, lists by places. -/
namespace K12
open Ser
/-- the last is not nought -/
def Tr (l : List G) : Prop := l.getLast? ≠ some 0
instance (l : List G) : Decidable (Tr l) := inferInstanceAs (Decidable (l.getLast? ≠ some 0))
theorem tr_nil : Tr [] := by intro e; cases e
/-- the list of the first n values -/
def toL (n : Nat) (f : Nat → G) : List G := (List.range n).map f
theorem toL_len (n : Nat) (f : Nat → G) : (toL n f).length = n := by simp [toL]
theorem toL_get {n j : Nat} {f : Nat → G} (h : j < n) : (toL n f)[j]? = some (f j) := by
  unfold toL
  rw [List.getElem?_map, List.getElem?_range h]; rfl
theorem toL_c {n k : Nat} {f : Nat → G} (h : k < n) : (sr (toL n f)).c k = f k := sr_get (toL_get h)
theorem toL_ge {n k : Nat} {f : Nat → G} (h : n ≤ k) : (sr (toL n f)).c k = 0 := sr_ge (by rw [toL_len]; exact h)
theorem toL_congr {n : Nat} {f g : Nat → G} (h : ∀ k, k < n → f k = g k) : toL n f = toL n g := by
  unfold toL
  exact List.map_congr_left fun k hk => h k (List.mem_range.mp hk)
theorem toL_self (l : List G) : toL l.length (sr l).c = l := by
  refine List.ext_getElem? fun k => ?_
  by_cases h : k < l.length
  · rw [toL_get h, List.getElem?_eq_getElem h, sr_get (List.getElem?_eq_getElem h)]
  · rw [List.getElem?_eq_none (by rw [toL_len]; omega), List.getElem?_eq_none (by omega)]
theorem toL_set {n j : Nat} {f : Nat → G} {v : G} : (toL n f).set j v = toL n fun k => if k = j then v else f k := by
  refine List.ext_getElem? fun k => ?_
  rw [List.getElem?_set, toL_len]
  by_cases h : k < n
  · rw [toL_get (f := fun k => if k = j then v else f k) h, toL_get h]
    by_cases e : j = k
    · subst e; rw [if_pos rfl, if_pos h, if_pos rfl]
    · rw [if_neg e, if_neg (fun z => e z.symm)]
  · rw [List.getElem?_eq_none (l := toL n fun k => if k = j then v else f k) (by rw [toL_len]; omega), List.getElem?_eq_none (l := toL n f) (by rw [toL_len]; omega)]
    by_cases e : j = k
    · subst e; rw [if_pos rfl, if_neg h]
    · rw [if_neg e]
theorem toL_take {n m : Nat} {f : Nat → G} (h : m ≤ n) : (toL n f).take m = toL m f := by
  unfold toL
  rw [← List.map_take, List.take_range, Nat.min_eq_left h]
theorem toL_dropLast {n : Nat} {f : Nat → G} : (toL (n + 1) f).dropLast = toL n f := by
  rw [List.dropLast_eq_take, toL_len, toL_take (by omega)]; rfl
theorem toL_last {n : Nat} {f : Nat → G} : (toL (n + 1) f).getLast? = some (f n) := by
  rw [List.getLast?_eq_getElem?, toL_len, toL_get (by omega)]; rfl
theorem toL_rep {n : Nat} {x : G} : toL n (fun _ => x) = List.replicate n x := by
  unfold toL
  refine List.ext_getElem? fun k => ?_
  rw [List.getElem?_map, List.getElem?_replicate]
  by_cases h : k < n
  · rw [List.getElem?_range h, if_pos h]; rfl
  · rw [List.getElem?_eq_none (by simp; omega), if_neg h]; rfl
theorem sr_toL {n : Nat} {f : Ser} (h : Dl n f) : sr (toL n f.c) = f := Ser.ext' fun k => by
  by_cases q : k < n
  · exact toL_c q
  · rw [toL_ge (by omega), h k (by omega)]
theorem getLast_get {l : List G} {x : G} (h : l.getLast? = some x) : 0 < l.length ∧ (sr l).c (l.length - 1) = x := by
  have hl : l ≠ [] := fun e => by subst e; cases h
  rw [List.getLast?_eq_getElem?] at h
  exact ⟨List.length_pos_iff.mpr hl, sr_get h⟩
/-- a trimmed list's degree -/
theorem Tr.dg {l : List G} (h : Tr l) (h0 : l ≠ []) : Dg (l.length - 1) (sr l) := by
  have hp := List.length_pos_iff.mpr h0
  refine ⟨fun e => h ?_, fun k hk => sr_ge (by omega)⟩
  rw [List.getLast?_eq_getElem?, List.getElem?_eq_getElem (by omega)]
  rw [sr_get (List.getElem?_eq_getElem (by omega))] at e
  rw [e]
theorem Tr.ne {l : List G} (h : Tr l) (h0 : l ≠ []) : sr l ≠ 0 := (h.dg h0).ne
theorem Tr.nil_of {l : List G} (h : Tr l) (h0 : sr l = 0) : l = [] := by
  by_cases e : l = []
  · exact e
  · exact absurd h0 (h.ne e)
theorem tr_ext {l m : List G} (h : Tr l) (h' : Tr m) (e : sr l = sr m) : l = m := by
  have hl : l.length = m.length := by
    by_cases a : l = []
    · subst a
      rw [h'.nil_of (by rw [← e, sr_nil])]
    · by_cases b : m = []
      · subst b
        exact absurd (h.nil_of (by rw [e, sr_nil])) a
      · have := (h.dg a).uniq (e ▸ h'.dg b)
        have := List.length_pos_iff.mpr a
        have := List.length_pos_iff.mpr b
        omega
  rw [← toL_self l, ← toL_self m, e, hl]
theorem Tr.len_of {l : List G} (h : Tr l) {n : Nat} (hn : Dg n (sr l)) : l.length = n + 1 := by
  by_cases a : l = []
  · subst a
    exact absurd (sr_nil) hn.ne
  · have := (h.dg a).uniq hn
    have := List.length_pos_iff.mpr a
    omega
theorem Tr.len_le {l : List G} (h : Tr l) {n : Nat} (hn : Dl n (sr l)) : l.length ≤ n := by
  by_cases a : l = []
  · subst a; exact Nat.zero_le _
  · have := (h.dg a).lt hn
    omega
/-- cut where the noughts begin -/
theorem tr_take {l : List G} {k : Nat} (hk : k ≤ l.length) (h0 : ∀ j, k ≤ j → (sr l).c j = 0) (h1 : k ≠ 0 → (sr l).c (k - 1) ≠ 0) : Tr (l.take k) ∧ sr (l.take k) = sr l := by
  have e : l.take k = toL k (sr l).c := by
    rw [← toL_take hk, toL_self]
  rw [e]
  refine ⟨?_, sr_toL fun j hj => h0 j hj⟩
  intro z
  cases k with
  | zero => cases z
  | succ k =>
    rw [toL_last] at z
    exact h1 (by omega) (Option.some.inj z)
/-- a polynomial's row -/
theorem row_of {f : Ser} (h : IsP f) : ∃ l, Tr l ∧ sr l = f := by
  by_cases e : f = 0
  · exact ⟨[], tr_nil, by rw [sr_nil, e]⟩
  · obtain ⟨n, hn⟩ := h.dg e
    refine ⟨toL (n + 1) f.c, fun z => ?_, sr_toL hn.2⟩
    rw [toL_last] at z
    exact hn.1 (Option.some.inj z)
theorem sr_cons (a : G) (l : List G) : ∀ n, (sr (a :: l)).c (n + 1) = (sr l).c n := fun n => rfl
theorem sr_one (x : G) : sr [x] = con x := Ser.ext' fun n => by
  cases n with
  | zero => rfl
  | succ n => rfl
theorem tr_last {l : List G} (h : l ≠ []) : l.getLast? = some ((sr l).c (l.length - 1)) := by
  have hp := List.length_pos_iff.mpr h
  rw [List.getLast?_eq_getElem?, List.getElem?_eq_getElem (by omega), sr_get (List.getElem?_eq_getElem (by omega))]
/-- the last is one -/
def Mo (l : List G) : Prop := l ≠ [] → (sr l).c (l.length - 1) = 1
theorem Mo.tr {l : List G} (h : Mo l) : Tr l := by
  by_cases e : l = []
  · subst e; exact tr_nil
  · intro z
    rw [tr_last e, h e] at z
    have := Option.some.inj z
    grind
end K12
/-! Heights: Gaussian integers over a common denominator. -/
namespace K12
open Ser
def Gb (n : Nat) (p : G) : Prop := ∃ a b : Int, p = ⟨(a : Rat), (b : Rat)⟩ ∧ a.natAbs + b.natAbs ≤ n
theorem Gb.mono {n m : Nat} {p : G} (h : Gb n p) (hm : n ≤ m) : Gb m p := by
  obtain ⟨a, b, e, q⟩ := h
  exact ⟨a, b, e, Nat.le_trans q hm⟩
theorem gb_zero (n : Nat) : Gb n 0 := ⟨0, 0, rfl, Nat.zero_le _⟩
theorem gb_int (i : Int) : Gb i.natAbs ⟨(i : Rat), 0⟩ := ⟨i, 0, rfl, by simp⟩
theorem gb_one : Gb 1 1 := ⟨1, 0, rfl, by decide⟩
theorem Gb.add {n m : Nat} {p q : G} (h : Gb n p) (h' : Gb m q) : Gb (n + m) (p + q) := by
  obtain ⟨a, b, rfl, k⟩ := h
  obtain ⟨c, d, rfl, k'⟩ := h'
  refine ⟨a + c, b + d, ?_, by omega⟩
  refine G.ext' ?_ ?_
  · show (a : Rat) + c = _
    push_cast; rfl
  · show (b : Rat) + d = _
    push_cast; rfl
theorem Gb.neg {n : Nat} {p : G} (h : Gb n p) : Gb n (-p) := by
  obtain ⟨a, b, rfl, k⟩ := h
  refine ⟨-a, -b, ?_, by omega⟩
  refine G.ext' ?_ ?_
  · show -(a : Rat) = _
    push_cast; rfl
  · show -(b : Rat) = _
    push_cast; rfl
theorem Gb.sub {n m : Nat} {p q : G} (h : Gb n p) (h' : Gb m q) : Gb (n + m) (p - q) := by
  have := h.add h'.neg
  rw [show p - q = p + -q by grind]; exact this
theorem Gb.mul {n m : Nat} {p q : G} (h : Gb n p) (h' : Gb m q) : Gb (n * m) (p * q) := by
  obtain ⟨a, b, rfl, k⟩ := h
  obtain ⟨c, d, rfl, k'⟩ := h'
  refine ⟨a * c - b * d, a * d + b * c, ?_, ?_⟩
  · refine G.ext' ?_ ?_
    · show (a : Rat) * c - b * d = _
      push_cast; rfl
    · show (a : Rat) * d + b * c = _
      push_cast; rfl
  · have e1 : (a * c - b * d).natAbs ≤ a.natAbs * c.natAbs + b.natAbs * d.natAbs := by
      have := Int.natAbs_sub_le (a * c) (b * d)
      rw [Int.natAbs_mul, Int.natAbs_mul] at this; exact this
    have e2 : (a * d + b * c).natAbs ≤ a.natAbs * d.natAbs + b.natAbs * c.natAbs := by
      have := Int.natAbs_add_le (a * d) (b * c)
      rw [Int.natAbs_mul, Int.natAbs_mul] at this; exact this
    have e3 : (a.natAbs + b.natAbs) * (c.natAbs + d.natAbs) ≤ n * m := Nat.mul_le_mul k k'
    have e4 : (a.natAbs + b.natAbs) * (c.natAbs + d.natAbs) = a.natAbs * c.natAbs + b.natAbs * d.natAbs + (a.natAbs * d.natAbs + b.natAbs * c.natAbs) := by
      rw [Nat.add_mul, Nat.mul_add, Nat.mul_add]; omega
    omega
/-- a number with its denominator -/
def Hn (h d : Nat) (x : G) : Prop := ∃ g : G, g ≠ 0 ∧ Gb (2 ^ d) g ∧ Gb (2 ^ h) (g * x)
/-- many numbers over one denominator -/
def Hs (h d : Nat) (f : Nat → G) : Prop := ∃ g : G, g ≠ 0 ∧ Gb (2 ^ d) g ∧ ∀ k, Gb (2 ^ h) (g * f k)
theorem pow_mono {n m : Nat} (h : n ≤ m) : 2 ^ n ≤ 2 ^ m := Nat.pow_le_pow_right (by decide) h
theorem Hn.mono {h d h' d' : Nat} {x : G} (H : Hn h d x) (a : h ≤ h') (b : d ≤ d') : Hn h' d' x := by
  obtain ⟨g, q1, q2, q3⟩ := H
  exact ⟨g, q1, q2.mono (pow_mono b), q3.mono (pow_mono a)⟩
theorem Hs.mono {h d h' d' : Nat} {f : Nat → G} (H : Hs h d f) (a : h ≤ h') (b : d ≤ d') : Hs h' d' f := by
  obtain ⟨g, q1, q2, q3⟩ := H
  exact ⟨g, q1, q2.mono (pow_mono b), fun k => (q3 k).mono (pow_mono a)⟩
theorem Hs.at {h d : Nat} {f : Nat → G} (H : Hs h d f) (k : Nat) : Hn h d (f k) := by
  obtain ⟨g, q1, q2, q3⟩ := H
  exact ⟨g, q1, q2, q3 k⟩
theorem hs_zero (h d : Nat) : Hs h d fun _ => 0 := ⟨1, by intro e; grind, gb_one.mono (by rw [← Nat.pow_zero 2]; exact pow_mono (Nat.zero_le _)), fun k => by rw [show (1 : G) * 0 = 0 by grind]; exact gb_zero _⟩
theorem hn_zero (h d : Nat) : Hn h d 0 := (hs_zero h d).at 0
theorem hn_one (h d : Nat) : Hn h d 1 := ⟨1, by intro e; grind, gb_one.mono (by rw [← Nat.pow_zero 2]; exact pow_mono (Nat.zero_le _)), by rw [show (1 : G) * 1 = 1 by grind]; exact gb_one.mono (by rw [← Nat.pow_zero 2]; exact pow_mono (Nat.zero_le _))⟩
theorem ne_mul {a b : G} (ha : a ≠ 0) (hb : b ≠ 0) : a * b ≠ 0 := fun e => by
  rcases G.mul_eq_zero e with q | q
  · exact ha q
  · exact hb q
theorem Gb.mulP {n m : Nat} {p q : G} (h : Gb (2 ^ n) p) (h' : Gb (2 ^ m) q) : Gb (2 ^ (n + m)) (p * q) := by
  rw [Nat.pow_add]; exact h.mul h'
theorem Gb.addP {n : Nat} {p q : G} (h : Gb (2 ^ n) p) (h' : Gb (2 ^ n) q) : Gb (2 ^ (n + 1)) (p + q) := by
  rw [Nat.pow_succ, Nat.mul_two]; exact h.add h'
theorem Gb.subP {n : Nat} {p q : G} (h : Gb (2 ^ n) p) (h' : Gb (2 ^ n) q) : Gb (2 ^ (n + 1)) (p - q) := by
  rw [Nat.pow_succ, Nat.mul_two]; exact h.sub h'
theorem Hn.mul {h d h' d' : Nat} {x y : G} (H : Hn h d x) (H' : Hn h' d' y) : Hn (h + h') (d + d') (x * y) := by
  obtain ⟨g, q1, q2, q3⟩ := H
  obtain ⟨g', r1, r2, r3⟩ := H'
  refine ⟨g * g', ne_mul q1 r1, q2.mulP r2, ?_⟩
  rw [show g * g' * (x * y) = (g * x) * (g' * y) by grind]
  exact q3.mulP r3
theorem Hn.inv {h d : Nat} {x : G} (H : Hn h d x) (h0 : x ≠ 0) : Hn d h (1 / x) := by
  obtain ⟨g, q1, q2, q3⟩ := H
  refine ⟨g * x, ne_mul q1 h0, q3, ?_⟩
  rw [show g * x * (1 / x) = g by grind]
  exact q2
theorem Hn.div {h d h' d' : Nat} {x y : G} (H : Hn h d x) (H' : Hn h' d' y) (h0 : y ≠ 0) : Hn (h + d') (d + h') (x / y) := by
  have := H.mul (H'.inv h0)
  rw [show x / y = x * (1 / y) by grind]; exact this
theorem Hn.neg {h d : Nat} {x : G} (H : Hn h d x) : Hn h d (-x) := by
  obtain ⟨g, q1, q2, q3⟩ := H
  exact ⟨g, q1, q2, by rw [show g * -x = -(g * x) by grind]; exact q3.neg⟩
theorem Hn.add {h d h' d' : Nat} {x y : G} (H : Hn h d x) (H' : Hn h' d' y) : Hn (max (h + d') (h' + d) + 1) (d + d') (x + y) := by
  obtain ⟨g, q1, q2, q3⟩ := H
  obtain ⟨g', r1, r2, r3⟩ := H'
  refine ⟨g * g', ne_mul q1 r1, q2.mulP r2, ?_⟩
  rw [show g * g' * (x + y) = (g * x) * g' + (g' * y) * g by grind]
  exact Gb.addP ((q3.mulP r2).mono (pow_mono (Nat.le_max_left ..))) ((r3.mulP q2).mono (pow_mono (Nat.le_max_right ..)))
theorem Hn.sub {h d h' d' : Nat} {x y : G} (H : Hn h d x) (H' : Hn h' d' y) : Hn (max (h + d') (h' + d) + 1) (d + d') (x - y) := by
  rw [show x - y = x + -y by grind]
  exact H.add H'.neg
/-- both over one denominator -/
theorem Hs.add1 {h d h' d' : Nat} {f g : Nat → G} (H : Hs h d f) (H' : Hs h' d' g) : Hs (max (h + d') (h' + d) + 1) (d + d') fun k => f k + g k := by
  obtain ⟨a, q1, q2, q3⟩ := H
  obtain ⟨b, r1, r2, r3⟩ := H'
  refine ⟨a * b, ne_mul q1 r1, q2.mulP r2, fun k => ?_⟩
  rw [show a * b * (f k + g k) = (a * f k) * b + (b * g k) * a by grind]
  exact Gb.addP (((q3 k).mulP r2).mono (pow_mono (Nat.le_max_left ..))) (((r3 k).mulP q2).mono (pow_mono (Nat.le_max_right ..)))
theorem Hs.neg {h d : Nat} {f : Nat → G} (H : Hs h d f) : Hs h d fun k => -f k := by
  obtain ⟨a, q1, q2, q3⟩ := H
  refine ⟨a, q1, q2, fun k => ?_⟩
  rw [show a * -f k = -(a * f k) by grind]
  exact (q3 k).neg
theorem Hs.sub1 {h d h' d' : Nat} {f g : Nat → G} (H : Hs h d f) (H' : Hs h' d' g) : Hs (max (h + d') (h' + d) + 1) (d + d') fun k => f k - g k := by
  have := H.add1 H'.neg
  rw [show (fun k => f k - g k) = fun k => f k + -g k by funext k; grind]
  exact this
theorem Hs.scale {h d h' d' : Nat} {x : G} {f : Nat → G} (H : Hn h d x) (H' : Hs h' d' f) : Hs (h + h') (d + d') fun k => x * f k := by
  obtain ⟨a, q1, q2, q3⟩ := H
  obtain ⟨b, r1, r2, r3⟩ := H'
  refine ⟨a * b, ne_mul q1 r1, q2.mulP r2, fun k => ?_⟩
  rw [show a * b * (x * f k) = (a * x) * (b * f k) by grind]
  exact q3.mulP (r3 k)
/-- divided by one of them: the denominator goes -/
theorem Hs.monic {h d : Nat} {f : Nat → G} (H : Hs h d f) {n : Nat} (h0 : f n ≠ 0) : Hs h h fun k => f k * (1 / f n) := by
  obtain ⟨a, q1, q2, q3⟩ := H
  refine ⟨a * f n, ne_mul q1 h0, q3 n, fun k => ?_⟩
  rw [show a * f n * (f k * (1 / f n)) = a * f k by grind]
  exact q3 k
theorem gb_mulC : ∀ (j n N M : Nat) (f g : Nat → G), (∀ k, Gb N (f k)) → (∀ k, Gb M (g k)) → (∀ k, n ≤ k → f k = 0) → Gb (n * (N * M)) (mulC j f g)
  | j, 0, N, M, f, g, hf, hg, h0 => by
    rw [zero_mulC j f g (fun k => h0 k (Nat.zero_le _))]; exact gb_zero _
  | 0, n + 1, N, M, f, g, hf, hg, h0 => by
    rw [mulC]
    exact ((hf 0).mul (hg 0)).mono (Nat.le_mul_of_pos_left _ (by omega))
  | j + 1, n + 1, N, M, f, g, hf, hg, h0 => by
    rw [mulC]
    have := ((hf 0).mul (hg (j + 1))).add (gb_mulC j n N M (fun k => f (k + 1)) g (fun k => hf _) hg fun k hk => h0 _ (by omega))
    exact this.mono (by rw [Nat.succ_mul]; omega)
theorem Hs.mulS {h d h' d' n c : Nat} {f g : Ser} (H : Hs h d f.c) (H' : Hs h' d' g.c) (hn : Dl n f) (hc : n ≤ 2 ^ c) : Hs (h + h' + c) (d + d') (f * g).c := by
  obtain ⟨a, q1, q2, q3⟩ := H
  obtain ⟨b, r1, r2, r3⟩ := H'
  refine ⟨a * b, ne_mul q1 r1, q2.mulP r2, fun k => ?_⟩
  have e : a * b * (f * g).c k = mulC k (fun j => a * f.c j) (fun j => b * g.c j) := by
    rw [mul_c, smul_mulC, mulC_comm k f.c (fun j => b * g.c j), smul_mulC, mulC_comm k g.c f.c]; grind
  rw [e]
  refine (gb_mulC k n (2 ^ h) (2 ^ h') _ _ q3 r3 fun j hj => by rw [hn j hj]; grind).mono ?_
  rw [Nat.pow_add, Nat.pow_add, Nat.mul_comm]
  exact Nat.mul_le_mul_left _ hc
/-- one step of a division -/
theorem Hs.elim {h d h' d' : Nat} {f m μ f' : Nat → G} {n e : Nat} (H : Hs h d f) (H' : Hs h' d' m) (h0 : m e ≠ 0) (hμ : ∀ k, μ k = 0 ∨ ∃ j, μ k = m j) (hf : ∀ k, f' k = 0 ∨ f' k = f k ∨ f' k = f k - f n / m e * μ k) : Hs (h + h' + 1) (d + h') f' := by
  obtain ⟨a, q1, q2, q3⟩ := H
  obtain ⟨b, r1, r2, r3⟩ := H'
  refine ⟨a * (b * m e), ne_mul q1 (ne_mul r1 h0), q2.mulP (r3 e), fun k => ?_⟩
  rcases hf k with q | q | q
  · rw [q, show a * (b * m e) * 0 = 0 by grind]; exact gb_zero _
  · rw [q, show a * (b * m e) * f k = (a * f k) * (b * m e) by grind]
    exact ((q3 k).mulP (r3 e)).mono (pow_mono (by omega))
  · rw [q, show a * (b * m e) * (f k - f n / m e * μ k) = (a * f k) * (b * m e) - (a * f n) * (b * μ k) by grind]
    refine Gb.subP ((q3 k).mulP (r3 e)) ((q3 n).mulP ?_)
    rcases hμ k with w | ⟨j, w⟩
    · rw [w, show b * 0 = 0 by grind]; exact gb_zero _
    · rw [w]; exact r3 j
/-! ### sizes -/
theorem gb_sizes {h d : Nat} {x : G} (H : Hn h d x) : ∃ (p q m : Int), m > 0 ∧ x.re = (p : Rat) / (m : Rat) ∧ x.im = (q : Rat) / (m : Rat) ∧ p.natAbs ≤ 2 ^ (h + d) ∧ q.natAbs ≤ 2 ^ (h + d) ∧ m.natAbs ≤ 2 ^ (d + d) := by
  obtain ⟨g, q1, q2, q3⟩ := H
  obtain ⟨c, e, rfl, k1⟩ := q2
  obtain ⟨a, b, eq, k2⟩ := q3
  have hn := G.nm_ne q1
  have hm : (c * c + e * e : Int) ≠ 0 := fun z => hn (by
    unfold G.nm
    show (c : Rat) * c + (e : Rat) * e = 0
    have : ((c * c + e * e : Int) : Rat) = ((0 : Int) : Rat) := by rw [z]
    push_cast at this; exact this)
  have hp : (c * c + e * e : Int) > 0 := by
    have h1 : 0 ≤ c * c := by
      rcases Int.le_total 0 c with q | q
      · exact Int.mul_nonneg q q
      · exact Int.mul_nonneg_of_nonpos_of_nonpos q q
    have h2 : 0 ≤ e * e := by
      rcases Int.le_total 0 e with q | q
      · exact Int.mul_nonneg q q
      · exact Int.mul_nonneg_of_nonpos_of_nonpos q q
    omega
  have hc := cast_ne hm
  have e1 : (c : Rat) * x.re - e * x.im = a := congrArg G.re eq
  have e2 : (c : Rat) * x.im + e * x.re = b := congrArg G.im eq
  refine ⟨a * c + b * e, b * c - a * e, c * c + e * e, hp, ?_, ?_, ?_, ?_, ?_⟩
  · push_cast at hc ⊢
    rw [← e1, ← e2]
    grind
  · push_cast at hc ⊢
    rw [← e1, ← e2]
    grind
  · have e3 : (a.natAbs + b.natAbs) * (c.natAbs + e.natAbs) ≤ 2 ^ h * 2 ^ d := Nat.mul_le_mul k2 k1
    rw [← Nat.pow_add] at e3
    have e4 : (a.natAbs + b.natAbs) * (c.natAbs + e.natAbs) = a.natAbs * c.natAbs + b.natAbs * e.natAbs + (a.natAbs * e.natAbs + b.natAbs * c.natAbs) := by
      rw [Nat.add_mul, Nat.mul_add, Nat.mul_add]; omega
    have := Int.natAbs_add_le (a * c) (b * e)
    rw [Int.natAbs_mul, Int.natAbs_mul] at this
    omega
  · have e3 : (a.natAbs + b.natAbs) * (c.natAbs + e.natAbs) ≤ 2 ^ h * 2 ^ d := Nat.mul_le_mul k2 k1
    rw [← Nat.pow_add] at e3
    have e4 : (a.natAbs + b.natAbs) * (c.natAbs + e.natAbs) = a.natAbs * c.natAbs + b.natAbs * e.natAbs + (a.natAbs * e.natAbs + b.natAbs * c.natAbs) := by
      rw [Nat.add_mul, Nat.mul_add, Nat.mul_add]; omega
    have := Int.natAbs_sub_le (b * c) (a * e)
    rw [Int.natAbs_mul, Int.natAbs_mul] at this
    omega
  · have e3 : (c.natAbs + e.natAbs) * (c.natAbs + e.natAbs) ≤ 2 ^ d * 2 ^ d := Nat.mul_le_mul k1 k1
    rw [← Nat.pow_add] at e3
    have e4 : (c.natAbs + e.natAbs) * (c.natAbs + e.natAbs) = c.natAbs * c.natAbs + e.natAbs * e.natAbs + (c.natAbs * e.natAbs + e.natAbs * c.natAbs) := by
      rw [Nat.add_mul, Nat.mul_add, Nat.mul_add]; omega
    have := Int.natAbs_add_le (c * c) (e * e)
    rw [Int.natAbs_mul, Int.natAbs_mul] at this
    omega
theorem Hn.bd {h d n : Nat} {x : G} (H : Hn h d x) (h1 : h + d < n) (h2 : d + d < n) : Bd n x := by
  obtain ⟨p, q, m, hm, e1, e2, k1, k2, k3⟩ := gb_sizes H
  have l : ∀ {i : Int} {k : Nat}, i.natAbs ≤ 2 ^ k → k < n → Lt2 n i := fun {i k} a b => by
    unfold Lt2
    exact Nat.lt_of_le_of_lt a (Nat.pow_lt_pow_right (by decide) b)
  exact ⟨e1 ▸ bq_div (by omega) (l k1 h1) (l k3 h2), e2 ▸ bq_div (by omega) (l k2 h1) (l k3 h2)⟩
def BA (l : List G) : Prop := ∀ k, Bd 2200 ((sr l).c k)
theorem bd_one : Bd 2200 1 := (hn_one 0 0).bd (by decide) (by decide)
end K12
/-! Products and rests by places. -/
namespace K12
open Ser PySem PySem.Spec PyProof.Rows L2 DL
def mono (n : Nat) (x : G) : Ser := ⟨fun k => if k = n then x else 0⟩
theorem mulC_mono : ∀ (j n : Nat) (x : G) (g : Nat → G), mulC j (fun k => if k = n then x else 0) g = if n ≤ j then x * g (j - n) else 0
  | 0, 0, x, g => by simp only [mulC]; simp
  | 0, n + 1, x, g => by
    simp only [mulC]
    rw [if_neg (by omega), if_neg (by omega)]; grind
  | j + 1, 0, x, g => by
    rw [mulC, zero_mulC j _ _ (fun k => by rw [if_neg (by omega)]), if_pos (by omega)]
    simp
    grind
  | j + 1, n + 1, x, g => by
    rw [mulC]
    have e : (fun k => if k + 1 = n + 1 then x else (0 : G)) = fun k => if k = n then x else 0 := by
      funext k
      by_cases q : k = n
      · rw [if_pos q, if_pos (by omega)]
      · rw [if_neg q, if_neg (by omega)]
    rw [e, mulC_mono j n x g]
    by_cases q : n ≤ j
    · rw [if_neg (show ¬ (0 = n + 1) by omega), if_pos q, if_pos (show n + 1 ≤ j + 1 by omega), show j + 1 - (n + 1) = j - n by omega]; grind
    · rw [if_neg (show ¬ (0 = n + 1) by omega), if_neg q, if_neg (show ¬ (n + 1 ≤ j + 1) by omega)]; grind
theorem mono_mul (n : Nat) (x : G) (g : Ser) (j : Nat) : (mono n x * g).c j = if n ≤ j then x * g.c (j - n) else 0 := mulC_mono j n x g.c
theorem sr_take {l : List G} {n : Nat} : sr (l.take (n + 1)) = sr (l.take n) + mono n ((sr l).c n) := Ser.ext' fun k => by
  have t : ∀ m, (sr (l.take m)).c k = if k < m then (sr l).c k else 0 := fun m => by
    rw [sr_c, List.getD_eq_getElem?_getD, List.getElem?_take]
    by_cases q : k < m
    · rw [if_pos q, if_pos q]; rfl
    · rw [if_neg q, if_neg q]; rfl
  rw [add_c, t, t]
  show _ = _ + if k = n then (sr l).c n else 0
  by_cases q : k < n
  · rw [if_pos (by omega), if_pos q, if_neg (by omega)]; grind
  · by_cases q2 : k = n
    · subst q2
      rw [if_pos (by omega), if_neg q, if_pos rfl]; grind
    · rw [if_neg (by omega), if_neg q, if_neg q2]; grind
theorem sr_take_all {l : List G} : sr (l.take l.length) = sr l := by rw [List.take_length]
theorem sr_take_0 {l : List G} : sr (l.take 0) = 0 := by rw [List.take_zero, sr_nil]
theorem enD_eq : ∀ (l : List G) (s : Nat), enD s (l.map encN) = (List.range l.length).map fun (k : Nat) => PyData.tuple [.int ((s + k : Nat) : Int), encN ((sr l).c k)]
  | [], s => rfl
  | x :: l, s => by
    rw [List.map_cons, enD, enD_eq l (s + 1), List.length_cons, List.range_succ_eq_map, List.map_cons, List.map_map]
    congr 1
    refine List.map_congr_left fun k _ => ?_
    show _ = PyData.tuple [.int ((s + (k + 1) : Nat) : Int), encN ((sr l).c k)]
    rw [show s + 1 + k = s + (k + 1) by omega]
theorem enD_0 (l : List G) : enD 0 (l.map encN) = (List.range l.length).map fun (k : Nat) => PyData.tuple [.int (k : Int), encN ((sr l).c k)] := by
  rw [enD_eq]
  refine List.map_congr_left fun k _ => ?_
  rw [Nat.zero_add]
theorem range_get {n j a : Nat} (h : (List.range n)[j]? = some a) : a = j ∧ j < n := by
  obtain ⟨h1, h2⟩ := List.getElem?_eq_some_iff.mp h
  rw [List.getElem_range] at h2
  rw [List.length_range] at h1
  exact ⟨h2.symm, h1⟩
theorem ixN_nat {n j : Nat} (h : j < n) : ixN n (j : Int) = some j := by
  unfold ixN
  rw [if_pos (by omega), if_pos (by omega), Int.toNat_natCast]
theorem atI_toL {n j : Nat} {f : Nat → G} (h : j < n) : atI ((toL n f).map encN) (j : Int) = some (encN (f j)) := atI_map (toL_get h)
theorem setL {n j : Nat} {f : Nat → G} {v : G} : ((toL n f).map encN).set j (encN v) = (toL n fun k => if k = j then v else f k).map encN := by
  rw [← List.map_set, toL_set]
/-- how far a part of a product can grow -/
theorem part_bd {h d h' d' c n : Nat} {l m : List G} (Hl : Hs h d (sr l).c) (Hm : Hs h' d' (sr m).c) (hc : l.length ≤ 2 ^ c) (h1 : h + h' + c + (d + d') < n) (h2 : d + d' + (d + d') < n) {j k : Nat} (hj : j < l.length) (b : Prop) [Decidable b] :
    Bd n ((sr (l.take j) * sr m).c k + if b then (sr l).c j * (sr m).c (k - j) else 0) := by
  obtain ⟨a, q1, q2, q3⟩ := Hl
  obtain ⟨b', r1, r2, r3⟩ := Hm
  refine Hn.bd (h := h + h' + c) (d := d + d') ⟨a * b', ne_mul q1 r1, q2.mulP r2, ?_⟩ h1 h2
  have e : a * b' * (sr (l.take j) * sr m).c k = mulC k (fun i => a * (sr (l.take j)).c i) (fun i => b' * (sr m).c i) := by
    rw [mul_c, smul_mulC, mulC_comm k (sr (l.take j)).c (fun i => b' * (sr m).c i), smul_mulC, mulC_comm k (sr m).c (sr (l.take j)).c]; grind
  have k1 : Gb (j * (2 ^ h * 2 ^ h')) (a * b' * (sr (l.take j) * sr m).c k) := by
    rw [e]
    refine gb_mulC k j (2 ^ h) (2 ^ h') _ _ (fun i => ?_) r3 fun i hi => ?_
    · by_cases hij : i < j
      · have : (sr (l.take j)).c i = (sr l).c i := by
          rw [sr_c, sr_c, List.getD_eq_getElem?_getD, List.getD_eq_getElem?_getD, List.getElem?_take, if_pos hij]
        rw [this]; exact q3 i
      · rw [sr_ge (by rw [List.length_take]; omega), show a * 0 = 0 by grind]; exact gb_zero _
    · rw [sr_ge (by rw [List.length_take]; omega)]; grind
  have k2 : Gb (2 ^ h * 2 ^ h') (a * b' * (if b then (sr l).c j * (sr m).c (k - j) else 0)) := by
    by_cases hb : b
    · rw [if_pos hb, show a * b' * ((sr l).c j * (sr m).c (k - j)) = (a * (sr l).c j) * (b' * (sr m).c (k - j)) by grind]
      exact (q3 _).mul (r3 _)
    · rw [if_neg hb, show a * b' * 0 = 0 by grind]; exact gb_zero _
  rw [show ∀ u v : G, a * b' * (u + v) = a * b' * u + a * b' * v by intro u v; grind]
  refine (k1.add k2).mono ?_
  rw [Nat.pow_add, Nat.pow_add, Nat.mul_comm (2 ^ h * 2 ^ h') (2 ^ c)]
  have : (j + 1) * (2 ^ h * 2 ^ h') ≤ 2 ^ c * (2 ^ h * 2 ^ h') := Nat.mul_le_mul_right _ (by omega)
  rw [Nat.succ_mul] at this
  exact this
end K12
/-! Division with rest, step by step. -/
namespace K12
open Ser
/-- the number at step t, from the rest so far -/
def qAt (n e : Nat) (m r : Ser) (t : Nat) : G := r.c (n - 1 - t) / m.c e
def rst (n e : Nat) (f m : Ser) : Nat → Ser
  | 0 => f
  | t + 1 => rst n e f m t - mono (n - 1 - t - e) (qAt n e m (rst n e f m t) t) * m
def qot (n e : Nat) (f m : Ser) : Nat → Ser
  | 0 => 0
  | t + 1 => qot n e f m t + mono (n - 1 - t - e) (qAt n e m (rst n e f m t) t)
theorem rst_eq (n e : Nat) (f m : Ser) : ∀ t, f = qot n e f m t * m + rst n e f m t
  | 0 => by simp only [qot, rst]; grind
  | t + 1 => by
    have := rst_eq n e f m t
    simp only [qot, rst]; grind
theorem rst_c (n e : Nat) (f m : Ser) (t k : Nat) : (rst n e f m (t + 1)).c k = (rst n e f m t).c k - (rst n e f m t).c (n - 1 - t) / m.c e * (if n - 1 - t - e ≤ k then m.c (k - (n - 1 - t - e)) else 0) := by
  rw [rst, sub_c, mono_mul]
  by_cases h : n - 1 - t - e ≤ k
  · rw [if_pos h, if_pos h]; rfl
  · rw [if_neg h, if_neg h]; grind
theorem isP_mono (n : Nat) (x : G) : IsP (mono n x) := ⟨n + 1, fun k hk => by show (if k = n then x else 0) = 0; rw [if_neg (by omega)]⟩
theorem isP_qot (n e : Nat) (f m : Ser) : ∀ t, IsP (qot n e f m t)
  | 0 => isP_zero
  | t + 1 => isP_add (isP_qot n e f m t) (isP_mono _ _)
theorem rst_dl {n e : Nat} {f m : Ser} (hf : Dl n f) (hm : Dg e m) : ∀ t, t + e ≤ n → Dl (n - t) (rst n e f m t)
  | 0, _ => hf
  | t + 1, h => by
    intro k hk
    rw [rst_c]
    have ih := rst_dl hf hm t (by omega)
    by_cases q : k = n - 1 - t
    · have a : n - 1 - t - e ≤ k := by omega
      rw [if_pos a, q, show n - 1 - t - (n - 1 - t - e) = e by omega]
      have := hm.1
      grind
    · rw [ih k (by omega)]
      by_cases a : n - 1 - t - e ≤ k
      · rw [if_pos a, hm.2 (k - (n - 1 - t - e)) (by omega)]; grind
      · rw [if_neg a]; grind
theorem hs_rst {n e h d h' d' : Nat} {f m : Ser} (Hf : Hs h d f.c) (Hm : Hs h' d' m.c) (h0 : m.c e ≠ 0) : ∀ t, Hs (h + t * (h' + 1)) (d + t * h') (rst n e f m t).c
  | 0 => Hf.mono (by omega) (by omega)
  | t + 1 => by
    have ih := hs_rst (n := n) Hf Hm h0 t
    refine (Hs.elim (n := n - 1 - t) (e := e) (μ := fun k => if n - 1 - t - e ≤ k then m.c (k - (n - 1 - t - e)) else 0) ih Hm h0 (fun k => ?_) fun k => .inr (.inr (rst_c n e f m t k))).mono (by rw [Nat.succ_mul]; omega) (by rw [Nat.succ_mul]; omega)
    show (if n - 1 - t - e ≤ k then m.c (k - (n - 1 - t - e)) else 0) = 0 ∨ _
    by_cases a : n - 1 - t - e ≤ k
    · rw [if_pos a]; exact .inr ⟨_, rfl⟩
    · rw [if_neg a]; exact .inl rfl
/-- a number as divisor leaves the others as they are -/
theorem rst_con {n : Nat} {f m : Ser} (hm : Dg 0 m) : ∀ t k, (rst n 0 f m t).c k = 0 ∨ (rst n 0 f m t).c k = f.c k
  | 0, k => .inr rfl
  | t + 1, k => by
    rw [rst_c]
    rcases rst_con hm t k with q | q
    · by_cases a : n - 1 - t - 0 ≤ k
      · rw [if_pos a]
        by_cases b : k = n - 1 - t
        · subst b
          rw [show n - 1 - t - (n - 1 - t - 0) = 0 by omega]
          have := hm.1
          left; grind
        · rw [hm.2 (k - (n - 1 - t - 0)) (by omega), q]; left; grind
      · rw [if_neg a, q]; left; grind
    · by_cases a : n - 1 - t - 0 ≤ k
      · rw [if_pos a]
        by_cases b : k = n - 1 - t
        · subst b
          rw [show n - 1 - t - (n - 1 - t - 0) = 0 by omega]
          have := hm.1
          left; grind
        · rw [hm.2 (k - (n - 1 - t - 0)) (by omega), q]; right; grind
      · rw [if_neg a, q]; right; grind
theorem hs_rst0 {n h d : Nat} {f m : Ser} (Hf : Hs h d f.c) (hm : Dg 0 m) (t : Nat) : Hs h d (rst n 0 f m t).c := by
  obtain ⟨a, q1, q2, q3⟩ := Hf
  refine ⟨a, q1, q2, fun k => ?_⟩
  rcases rst_con (n := n) (f := f) hm t k with q | q
  · rw [q, show a * 0 = 0 by grind]; exact gb_zero _
  · rw [q]; exact q3 k
theorem qot_c {n e : Nat} {f m : Ser} : ∀ t, t + e ≤ n → ∀ j, (qot n e f m t).c j = if n - e - t ≤ j ∧ j < n - e then qAt n e m (rst n e f m (n - e - 1 - j)) (n - e - 1 - j) else 0
  | 0, h, j => by
    rw [qot, zero_c, if_neg (by omega)]
  | t + 1, h, j => by
    rw [qot, add_c, qot_c t (by omega) j]
    show _ + (if j = n - 1 - t - e then _ else 0) = _
    by_cases q : j = n - 1 - t - e
    · rw [if_pos q, if_neg (by omega), if_pos (by omega), show n - e - 1 - j = t by omega]; grind
    · rw [if_neg q]
      by_cases q2 : n - e - t ≤ j ∧ j < n - e
      · rw [if_pos q2, if_pos (by omega)]; grind
      · rw [if_neg q2, if_neg (by omega)]; grind
/-- scaled to a last one -/
theorem last_one {l : List G} {h d : Nat} (t : Tr l) (H : Hs h d (sr l).c) (h1 : h + d < 2200) (h2 : 2 * h < 2200) (h3 : 2 * d < 2200) : BA l ∧ (∀ x, l.getLast? = some x → x ≠ 0 ∧ Bd 2200 (1 / x)) ∧
    ∀ x r, l.getLast? = some x → Tr r → sr r = con (1 / x) * sr l → x ≠ 0 ∧ r.length = l.length ∧ Mo r ∧ Hs h h (sr r).c := by
  refine ⟨fun k => (H.at k).bd (by omega) (by omega), fun x hx => ?_, fun x r hx tr e => ?_⟩
  · have x0 : x ≠ 0 := fun z => t (by rw [hx, z])
    obtain ⟨_, k⟩ := getLast_get hx
    have := (H.at (l.length - 1)).inv (by rw [k]; exact x0)
    rw [k] at this
    exact ⟨x0, this.bd (by omega) (by omega)⟩
  · have x0 : x ≠ 0 := fun z => t (by rw [hx, z])
    have x1 : 1 / x ≠ 0 := by grind
    obtain ⟨lp, k⟩ := getLast_get hx
    have l0 : l ≠ [] := List.length_pos_iff.mp lp
    have dg := t.dg l0
    have dr : Dg (l.length - 1) (sr r) := by
      rw [e]
      refine ⟨?_, dg.2.con _⟩
      rw [con_mul, k]
      grind
    have hl : r.length = l.length := by have := tr.len_of dr; omega
    refine ⟨x0, hl, fun _ => ?_, ?_⟩
    · rw [hl, e, con_mul, k]; grind
    · have := H.monic (n := l.length - 1) (by rw [k]; exact x0)
      rw [k] at this
      have e2 : (sr r).c = fun j => (sr l).c j * (1 / x) := by
        funext j
        rw [e, con_mul]; grind
      rw [e2]; exact this

end K12
/-! Quotients of a division: heights; reduced pairs. -/
namespace K12
open Ser
theorem gb_pow {h : Nat} {c : G} (hc : Gb (2 ^ h) c) : ∀ n : Nat, Gb (2 ^ (n * h)) (c ^ n)
  | 0 => by rw [Nat.zero_mul]; exact gb_one
  | n + 1 => by
    rw [Nat.succ_mul, show c ^ (n + 1) = c ^ n * c from Lean.Grind.Semiring.pow_succ c n]
    exact (gb_pow hc n).mulP hc
theorem pow_ne {c : G} (h : c ≠ 0) : ∀ n : Nat, c ^ n ≠ 0
  | 0 => by
    rw [show c ^ 0 = 1 from Lean.Grind.Semiring.pow_zero c]
    intro e; grind
  | n + 1 => by
    rw [show c ^ (n + 1) = c ^ n * c from Lean.Grind.Semiring.pow_succ c n]
    exact ne_mul (pow_ne h n) h
theorem pow_add' (c : G) (n m : Nat) : c ^ (n + m) = c ^ n * c ^ m := by
  induction m with
  | zero => rw [Nat.add_zero, show c ^ 0 = 1 from Lean.Grind.Semiring.pow_zero c]; grind
  | succ m ih =>
    rw [← Nat.add_assoc, show c ^ (n + m + 1) = c ^ (n + m) * c from Lean.Grind.Semiring.pow_succ c _, ih, show c ^ (m + 1) = c ^ m * c from Lean.Grind.Semiring.pow_succ c m]; grind
/-- the rests over told denominators -/
theorem gb_rst {n e h h' : Nat} {f m : Ser} {g c b : G} (hf : ∀ k, Gb (2 ^ h) (g * f.c k)) (hb : c = b * m.c e) (hm : ∀ k, Gb (2 ^ h') (b * m.c k)) (h0 : m.c e ≠ 0) : ∀ t k, Gb (2 ^ (h + t * (h' + 1))) (g * c ^ t * (rst n e f m t).c k)
  | 0, k => by
    rw [Nat.zero_mul, show c ^ 0 = 1 from Lean.Grind.Semiring.pow_zero c, show g * 1 * (rst n e f m 0).c k = g * (rst n e f m 0).c k by grind]
    exact hf k
  | t + 1, k => by
    have ih := gb_rst (n := n) hf hb hm h0 t
    rw [rst_c, show c ^ (t + 1) = c ^ t * c from Lean.Grind.Semiring.pow_succ c t]
    have hc : Gb (2 ^ h') c := by rw [hb]; exact hm e
    have e1 : h + (t + 1) * (h' + 1) = h + t * (h' + 1) + h' + 1 := by rw [Nat.succ_mul]; omega
    rw [e1]
    have key : ∀ μ : G, Gb (2 ^ h') (b * μ) → Gb (2 ^ (h + t * (h' + 1) + h' + 1)) (g * (c ^ t * c) * ((rst n e f m t).c k - (rst n e f m t).c (n - 1 - t) / m.c e * μ)) := fun μ hμ => by
      rw [show g * (c ^ t * c) * ((rst n e f m t).c k - (rst n e f m t).c (n - 1 - t) / m.c e * μ) = (g * c ^ t * (rst n e f m t).c k) * c - (g * c ^ t * (rst n e f m t).c (n - 1 - t)) * (b * μ) by rw [hb]; grind]
      exact Gb.subP ((ih k).mulP hc) ((ih _).mulP hμ)
    refine key _ ?_
    by_cases a : n - 1 - t - e ≤ k
    · rw [if_pos a]; exact hm _
    · rw [if_neg a, show b * 0 = 0 by grind]; exact gb_zero _
/-- the numbers of a quotient over one denominator; the divisor's last is one -/
theorem gb_qot {n e h h' : Nat} {f m : Ser} {g c : G} (hf : ∀ k, Gb (2 ^ h) (g * f.c k)) (hm : ∀ k, Gb (2 ^ h') (c * m.c k)) (h1 : m.c e = 1) (S s : Nat) (hs : s ≤ S + 1) (hn : s + e ≤ n ∨ s = 0) (k : Nat) :
    Gb (2 ^ (h + S * (h' + 1))) (g * c ^ S * (qot n e f m s).c k) := by
  have hc : Gb (2 ^ h') c := by
    have := hm e
    rw [h1, show c * 1 = c by grind] at this; exact this
  rcases hn with hn | hn
  · rw [qot_c s hn]
    by_cases q : n - e - s ≤ k ∧ k < n - e
    · rw [if_pos q]
      generalize hj : n - e - 1 - k = j
      have hjS : j ≤ S := by omega
      have r := gb_rst (n := n) (e := e) (c := c) (b := c) hf (by rw [h1]; grind) hm (by rw [h1]; intro z; grind) j (n - 1 - j)
      have e2 : qAt n e m (rst n e f m j) j = (rst n e f m j).c (n - 1 - j) := by
        unfold qAt; rw [h1]; grind
      rw [e2]
      have e3 : c ^ S = c ^ j * c ^ (S - j) := by rw [← pow_add', show j + (S - j) = S by omega]
      rw [e3, show g * (c ^ j * c ^ (S - j)) * (rst n e f m j).c (n - 1 - j) = (g * c ^ j * (rst n e f m j).c (n - 1 - j)) * c ^ (S - j) by grind]
      refine (r.mulP (gb_pow hc (S - j))).mono (pow_mono ?_)
      have : S * (h' + 1) = j * (h' + 1) + (S - j) * (h' + 1) := by rw [← Nat.add_mul, show j + (S - j) = S by omega]
      rw [this, Nat.mul_succ (S - j) h']
      omega
    · rw [if_neg q, show g * c ^ S * 0 = 0 by grind]; exact gb_zero _
  · subst hn
    rw [qot, zero_c, show g * c ^ S * 0 = 0 by grind]; exact gb_zero _
/-! ### reduced pairs -/
structure Red (l m : Ser) (t u : List G) : Prop where
  tt : Tr t
  tu : Tr u
  one : (sr u).c 0 = 1
  cop : Cop (sr t) (sr u)
  eq : sr t * m = sr u * l
structure NoRed (l m : Ser) : Prop where
  ex : ∃ t u, IsP t ∧ IsP u ∧ u ≠ 0 ∧ Cop t u ∧ u.c 0 = 0 ∧ t * m = u * l
theorem Red.une {l m : Ser} {t u : List G} (r : Red l m t u) : sr u ≠ 0 := fun e => by
  have := r.one
  rw [e, zero_c] at this
  grind
theorem Red.uniq {l m : Ser} {t u t' u' : List G} (hl : IsP l) (hm : IsP m) (m0 : m ≠ 0) (r : Red l m t u) (r' : Red l m t' u') : t = t' ∧ u = u' := by
  obtain ⟨x, hx, e1, e2⟩ := red_uniq hl hm (isP_sr t) (isP_sr u) (isP_sr t') (isP_sr u') m0 r.une r.eq r'.eq r.cop r'.cop
  have h1 := r.one
  have h2 := r'.one
  rw [e1, con_mul, h1] at h2
  have hx1 : x = 1 := by grind
  subst hx1
  rw [con_one] at e1 e2
  exact ⟨tr_ext r.tt r'.tt (by rw [e2]; grind), tr_ext r.tu r'.tu (by rw [e1]; grind)⟩
theorem Red.no {l m : Ser} {t u : List G} (hl : IsP l) (hm : IsP m) (m0 : m ≠ 0) (r : Red l m t u) (n : NoRed l m) : False := by
  obtain ⟨t', u', ht, hu, u0, c, z, e⟩ := n
  obtain ⟨x, hx, e1, e2⟩ := red_uniq hl hm (isP_sr t) (isP_sr u) ht hu m0 r.une r.eq e r.cop c
  have h1 := r.one
  rw [e1, con_mul, h1] at z
  grind
end K12
/-! The law's numbers: triples in lowest terms. -/
namespace K12
open PySem PySem.Spec PyProof.Rows L2 DL
def gi (a b : Int) : G := ⟨(a : Rat), (b : Rat)⟩
/-- a triple in lowest terms -/
structure Tri (a b d : Int) (x : G) : Prop where
  pos : 0 < d
  low : Nat.gcd (Nat.gcd a.natAbs b.natAbs) d.natAbs = 1
  re : x.re * (d : Rat) = (a : Rat)
  im : x.im * (d : Rat) = (b : Rat)
theorem cast_inj' {a b : Int} (h : (a : Rat) = (b : Rat)) : a = b := by exact_mod_cast h
theorem dvd_of_low {a b d n : Int} (low : Nat.gcd (Nat.gcd a.natAbs b.natAbs) d.natAbs = 1) (h1 : d ∣ a * n) (h2 : d ∣ b * n) : d ∣ n := by
  have e1 : d.natAbs ∣ a.natAbs * n.natAbs := by rw [← Int.natAbs_mul]; exact Int.natAbs_dvd_natAbs.mpr h1
  have e2 : d.natAbs ∣ b.natAbs * n.natAbs := by rw [← Int.natAbs_mul]; exact Int.natAbs_dvd_natAbs.mpr h2
  have e3 : d.natAbs ∣ Nat.gcd a.natAbs b.natAbs * n.natAbs := by
    rw [← Nat.gcd_mul_right]
    exact Nat.dvd_gcd e1 e2
  have e4 : d.natAbs ∣ Nat.gcd (Nat.gcd a.natAbs b.natAbs) d.natAbs * n.natAbs := by
    rw [← Nat.gcd_mul_right]
    exact Nat.dvd_gcd e3 (Nat.dvd_mul_right ..)
  rw [low, Nat.one_mul] at e4
  exact Int.natAbs_dvd_natAbs.mp e4
theorem Tri.uniq {a b d a' b' d' : Int} {x : G} (h : Tri a b d x) (h' : Tri a' b' d' x) : a = a' ∧ b = b' ∧ d = d' := by
  have k1 : a * d' = a' * d := cast_inj' (by push_cast; rw [← h.re, ← h'.re]; grind)
  have k2 : b * d' = b' * d := cast_inj' (by push_cast; rw [← h.im, ← h'.im]; grind)
  have d1 : d ∣ d' := dvd_of_low h.low ⟨a', by rw [k1]; grind⟩ ⟨b', by rw [k2]; grind⟩
  have d2 : d' ∣ d := dvd_of_low h'.low ⟨a, by rw [← k1]; grind⟩ ⟨b, by rw [← k2]; grind⟩
  have e : d = d' := Int.dvd_antisymm (by have := h.pos; omega) (by have := h'.pos; omega) d1 d2
  subst e
  have hd : d ≠ 0 := by have := h.pos; omega
  exact ⟨Int.eq_of_mul_eq_mul_right hd k1, Int.eq_of_mul_eq_mul_right hd k2, rfl⟩
/-- the common divisor with the sign of d -/
def cg (a b d : Int) : Int := if d < 0 then 0 - ((Nat.gcd (Nat.gcd a.natAbs b.natAbs) d.natAbs : Nat) : Int) else ((Nat.gcd (Nat.gcd a.natAbs b.natAbs) d.natAbs : Nat) : Int)
theorem cg_abs (a b d : Int) : (cg a b d).natAbs = Nat.gcd (Nat.gcd a.natAbs b.natAbs) d.natAbs := by
  unfold cg
  split <;> omega
theorem cut_tri {a b d : Int} {x : G} (hd : d ≠ 0) (e1 : x.re * (d : Rat) = (a : Rat)) (e2 : x.im * (d : Rat) = (b : Rat)) : cg a b d ≠ 0 ∧ Tri (a.fdiv (cg a b d)) (b.fdiv (cg a b d)) (d.fdiv (cg a b d)) x := by
  have hg := cg_abs a b d
  have hs : (cg a b d < 0 ↔ d < 0) := by
    unfold cg
    have : 0 < Nat.gcd (Nat.gcd a.natAbs b.natAbs) d.natAbs := Nat.gcd_pos_of_pos_right _ (by omega)
    split <;> omega
  have hp : 0 < Nat.gcd (Nat.gcd a.natAbs b.natAbs) d.natAbs := Nat.gcd_pos_of_pos_right _ (by omega)
  generalize cg a b d = g at *
  have g0 : g ≠ 0 := by omega
  have da : g ∣ a := Int.natAbs_dvd_natAbs.mp (by rw [hg]; exact Nat.dvd_trans (Nat.gcd_dvd_left ..) (Nat.gcd_dvd_left ..))
  have db : g ∣ b := Int.natAbs_dvd_natAbs.mp (by rw [hg]; exact Nat.dvd_trans (Nat.gcd_dvd_left ..) (Nat.gcd_dvd_right ..))
  have dd : g ∣ d := Int.natAbs_dvd_natAbs.mp (by rw [hg]; exact Nat.gcd_dvd_right ..)
  obtain ⟨a', rfl⟩ := da
  obtain ⟨b', rfl⟩ := db
  obtain ⟨d', rfl⟩ := dd
  rw [Int.mul_fdiv_cancel_left _ g0, Int.mul_fdiv_cancel_left _ g0, Int.mul_fdiv_cancel_left _ g0]
  have gc := cast_ne g0
  refine ⟨g0, ?_, ?_, ?_, ?_⟩
  · have d0 : d' ≠ 0 := fun z => hd (by rw [z]; simp)
    rcases Int.lt_or_gt_of_ne g0 with q | q
    · have := hs.mp q
      rcases Int.lt_or_gt_of_ne d0 with r | r
      · have := Int.mul_pos_of_neg_of_neg q r; omega
      · exact r
    · rcases Int.lt_or_gt_of_ne d0 with r | r
      · have : g * d' < 0 := Int.mul_neg_of_pos_of_neg q r
        have := hs.mpr this
        omega
      · exact r
  · rw [Int.natAbs_mul, Int.natAbs_mul, Int.natAbs_mul, Nat.gcd_mul_left, Nat.gcd_mul_left] at hg
    have hgp : 0 < g.natAbs := by omega
    have := Nat.eq_of_mul_eq_mul_left hgp (show g.natAbs * Nat.gcd (Nat.gcd a'.natAbs b'.natAbs) d'.natAbs = g.natAbs * 1 by omega)
    exact this
  · push_cast at e1 ⊢
    grind
  · push_cast at e2 ⊢
    grind
def tg (x : G) : Int := cg (x.re.num * x.im.den) (x.im.num * x.re.den) (x.re.den * x.im.den)
def tA (x : G) : Int := (x.re.num * x.im.den).fdiv (tg x)
def tB (x : G) : Int := (x.im.num * x.re.den).fdiv (tg x)
def tD (x : G) : Int := ((x.re.den : Int) * x.im.den).fdiv (tg x)
theorem tri (x : G) : Tri (tA x) (tB x) (tD x) x := by
  have h1 := q_mul x.re
  have h2 := q_mul x.im
  refine (cut_tri (a := x.re.num * x.im.den) (b := x.im.num * x.re.den) (d := x.re.den * x.im.den) (Int.mul_ne_zero (den_ne _) (den_ne _)) ?_ ?_).2
  · push_cast at *
    generalize x.re = p at *
    generalize x.im = q at *
    rw [h1]; grind
  · push_cast at *
    generalize x.re = p at *
    generalize x.im = q at *
    rw [h2]; grind
def encT (x : G) : PyData := .tuple [.int (tA x), .int (tB x), .int (tD x)]
theorem tri_enc {a b d : Int} {x : G} (h : Tri a b d x) : PyData.tuple [.int a, .int b, .int d] = encT x := by
  obtain ⟨e1, e2, e3⟩ := h.uniq (tri x)
  unfold encT
  rw [e1, e2, e3]
theorem tD_pos (x : G) : 0 < tD x := (tri x).pos
theorem tri_0 : Tri 0 0 1 0 := ⟨by decide, by decide, by show (0 : Rat) * _ = _; grind, by show (0 : Rat) * _ = _; grind⟩
theorem enc_0 : encT 0 = .tuple [.int 0, .int 0, .int 1] := (tri_enc tri_0).symm
theorem enc_int (n : Int) : encT (gi n 0) = .tuple [.int n, .int 0, .int 1] := (tri_enc ⟨by decide, by simp, by show (n : Rat) * _ = _; push_cast; grind, by show ((0 : Int) : Rat) * _ = _; push_cast; grind⟩).symm
/-- nought shows in the first two -/
theorem tri_zero {x : G} : (tA x = 0 ∧ tB x = 0) ↔ x = 0 := by
  have t := tri x
  have hd := cast_ne (show tD x ≠ 0 by have := tD_pos x; omega)
  refine ⟨fun ⟨h1, h2⟩ => ?_, fun h => ?_⟩
  · have e1 := t.re
    have e2 := t.im
    rw [h1] at e1
    rw [h2] at e2
    push_cast at e1 e2
    exact G.ext' (by show x.re = 0; grind) (by show x.im = 0; grind)
  · subst h
    obtain ⟨a, b, _⟩ := (tri 0).uniq tri_0
    exact ⟨a, b⟩
end K12
/-! Triples: sizes, rows of triples, what the law's number work tells. -/
namespace K12
open PySem PySem.Spec PyProof.Rows L2 DL Ser
/-- sizes of a triple -/
def TB (n : Nat) (x : G) : Prop := Lt2 n (tA x) ∧ Lt2 n (tB x) ∧ Lt2 n (tD x)
theorem TB.mono {n m : Nat} {x : G} (h : TB n x) (hm : n ≤ m) : TB m x := ⟨h.1.mono hm, h.2.1.mono hm, h.2.2.mono hm⟩
theorem tri_div {x : G} {p q m : Int} (hm : m > 0) (e1 : x.re = (p : Rat) / (m : Rat)) (e2 : x.im = (q : Rat) / (m : Rat)) : (tA x).natAbs ≤ p.natAbs ∧ (tB x).natAbs ≤ q.natAbs ∧ (tD x).natAbs ≤ m.natAbs := by
  have t := tri x
  have hc := cast_ne (show m ≠ 0 by omega)
  have k1 : tA x * m = p * tD x := cast_inj' (by
    push_cast
    rw [← t.re, e1]; grind)
  have k2 : tB x * m = q * tD x := cast_inj' (by
    push_cast
    rw [← t.im, e2]; grind)
  have dv : tD x ∣ m := dvd_of_low t.low ⟨p, by rw [k1]; grind⟩ ⟨q, by rw [k2]; grind⟩
  obtain ⟨c, rfl⟩ := dv
  have hd := t.pos
  have c0 : c ≠ 0 := fun z => by rw [z] at hm; simp at hm
  have hca : 1 ≤ c.natAbs := by omega
  have j1 : p = tA x * c := Int.eq_of_mul_eq_mul_right (show tD x ≠ 0 by omega) (by rw [← k1]; grind)
  have j2 : q = tB x * c := Int.eq_of_mul_eq_mul_right (show tD x ≠ 0 by omega) (by rw [← k2]; grind)
  refine ⟨?_, ?_, ?_⟩
  · rw [j1, Int.natAbs_mul]; exact Nat.le_mul_of_pos_right _ hca
  · rw [j2, Int.natAbs_mul]; exact Nat.le_mul_of_pos_right _ hca
  · rw [Int.natAbs_mul]; exact Nat.le_mul_of_pos_right _ hca
theorem Hn.tb {h d n : Nat} {x : G} (H : Hn h d x) (h1 : h + d < n) (h2 : d + d < n) : TB n x := by
  obtain ⟨p, q, m, hm, e1, e2, k1, k2, k3⟩ := gb_sizes H
  obtain ⟨j1, j2, j3⟩ := tri_div hm e1 e2
  have l : ∀ {i : Int} {k : Nat}, i.natAbs ≤ 2 ^ k → k < n → Lt2 n i := fun {i k} a b => by
    unfold Lt2
    exact Nat.lt_of_le_of_lt a (Nat.pow_lt_pow_right (by decide) b)
  exact ⟨l (Nat.le_trans j1 k1) h1, l (Nat.le_trans j2 k2) h1, l (Nat.le_trans j3 k3) h2⟩
/-- a row of the law -/
def encL (l : List G) : PyData := .list (l.map encT)
theorem sh_T (x : G) : Sh 1 (encT x) := sh_tup fun d hd => by
  simp only [List.mem_cons, List.not_mem_nil, or_false] at hd
  rcases hd with rfl | rfl | rfl <;> exact sh_int _
theorem sh_L (l : List G) : Sh 2 (encL l) := sh_lst fun d hd => by
  obtain ⟨x, _, rfl⟩ := List.mem_map.mp hd
  exact sh_T x
theorem enc_inj {x y : G} (h : tA x = tA y ∧ tB x = tB y ∧ tD x = tD y) : x = y := by
  have t := tri x
  have t' := tri y
  have hc := cast_ne (show tD y ≠ 0 by have := tD_pos y; omega)
  obtain ⟨a, b, c⟩ := h
  have e1 := t.re
  have e2 := t.im
  rw [a, c, ← t'.re] at e1
  rw [b, c, ← t'.im] at e2
  exact G.ext' (by grind) (by grind)
theorem eqv_T (x y : G) : PyData.eqv (encT x) (encT y) = decide (x = y) := by
  unfold encT
  rw [eqv_tup, eqvAll_cons, eqvAll_cons, eqvAll_cons, eqvAll_nil, eqv_int, eqv_int, eqv_int, Bool.and_true, ← Bool.decide_and, ← Bool.decide_and]
  congr 1
  apply propext
  exact ⟨fun h => enc_inj h, fun h => by subst h; exact ⟨rfl, rfl, rfl⟩⟩
theorem eqv_L (l m : List G) : PyData.eqv (encL l) (encL m) = decide (l = m) := by
  unfold encL
  rw [eqv_lst]; exact eqvAll_map eqv_T l m
theorem eqv_L0 (l : List G) : PyData.eqv (encL l) (.list []) = decide (l = []) := eqv_L l []
/-- the first two against two noughts -/
theorem eqv_2 (x : G) : PyData.eqv (.tuple [.int (tA x), .int (tB x)]) (.tuple [.int 0, .int 0]) = decide (x = 0) := by
  rw [eqv_tup, eqvAll_cons, eqvAll_cons, eqvAll_nil, eqv_int, eqv_int, Bool.and_true, ← Bool.decide_and]
  congr 1
  apply propext
  exact tri_zero
theorem sh_2 (a b : Int) : Sh 1 (.tuple [.int a, .int b]) := sh_tup fun d hd => by
  simp only [List.mem_cons, List.not_mem_nil, or_false] at hd
  rcases hd with rfl | rfl <;> exact sh_int _
/-! ### what the number work tells -/
theorem t_re (x : G) : x.re = (tA x : Rat) / (tD x : Rat) := by
  have t := (tri x).re
  have hd := cast_ne (show tD x ≠ 0 by have := tD_pos x; omega)
  grind
theorem t_im (x : G) : x.im = (tB x : Rat) / (tD x : Rat) := by
  have t := (tri x).im
  have hd := cast_ne (show tD x ≠ 0 by have := tD_pos x; omega)
  grind
theorem td_ne (x : G) : tD x ≠ 0 := by have := tD_pos x; omega
theorem tv_times (x y : G) : (x * y).re * ((tD x * tD y : Int) : Rat) = ((tA x * tA y - tB x * tB y : Int) : Rat) ∧ (x * y).im * ((tD x * tD y : Int) : Rat) = ((tA x * tB y + tB x * tA y : Int) : Rat) := by
  refine ⟨?_, ?_⟩
  · show (x.re * y.re - x.im * y.im) * _ = _
    push_cast
    rw [← (tri x).re, ← (tri y).re, ← (tri x).im, ← (tri y).im]; grind
  · show (x.re * y.im + x.im * y.re) * _ = _
    push_cast
    rw [← (tri x).re, ← (tri y).re, ← (tri x).im, ← (tri y).im]; grind
theorem tv_less (x y : G) : (x - y).re * ((tD x * tD y : Int) : Rat) = ((tA x * tD y - tA y * tD x : Int) : Rat) ∧ (x - y).im * ((tD x * tD y : Int) : Rat) = ((tB x * tD y - tB y * tD x : Int) : Rat) := by
  refine ⟨?_, ?_⟩
  · show (x.re - y.re) * _ = _
    push_cast
    rw [← (tri x).re, ← (tri y).re]; grind
  · show (x.im - y.im) * _ = _
    push_cast
    rw [← (tri x).im, ← (tri y).im]; grind
theorem tv_add (x y : G) : (x + y).re * ((tD x * tD y : Int) : Rat) = ((tA x * tD y + tA y * tD x : Int) : Rat) ∧ (x + y).im * ((tD x * tD y : Int) : Rat) = ((tB x * tD y + tB y * tD x : Int) : Rat) := by
  refine ⟨?_, ?_⟩
  · show (x.re + y.re) * _ = _
    push_cast
    rw [← (tri x).re, ← (tri y).re]; grind
  · show (x.im + y.im) * _ = _
    push_cast
    rw [← (tri x).im, ← (tri y).im]; grind
theorem tn_ne {y : G} (h : y ≠ 0) : tA y * tA y + tB y * tB y ≠ 0 := fun z => by
  have sq : ∀ a : Int, 0 ≤ a * a := fun a => by
    rcases Int.le_total 0 a with q | q
    · exact Int.mul_nonneg q q
    · exact Int.mul_nonneg_of_nonpos_of_nonpos q q
  have h1 := sq (tA y)
  have h2 := sq (tB y)
  have z1 : tA y = 0 := by
    rcases Int.mul_eq_zero.mp (show tA y * tA y = 0 by omega) with q | q <;> exact q
  have z2 : tB y = 0 := by
    rcases Int.mul_eq_zero.mp (show tB y * tB y = 0 by omega) with q | q <;> exact q
  exact h (tri_zero.mp ⟨z1, z2⟩)
theorem tv_over {x y : G} (h : y ≠ 0) : (x / y).re * ((tD x * (tA y * tA y + tB y * tB y) : Int) : Rat) = (((tA x * tA y + tB x * tB y) * tD y : Int) : Rat) ∧ (x / y).im * ((tD x * (tA y * tA y + tB y * tB y) : Int) : Rat) = (((tB x * tA y - tA x * tB y) * tD y : Int) : Rat) := by
  have hz : x = x / y * y := by grind
  generalize x / y = z at *
  subst hz
  have e1 : (z * y).re = z.re * y.re - z.im * y.im := rfl
  have e2 : (z * y).im = z.re * y.im + z.im * y.re := rfl
  refine ⟨?_, ?_⟩
  · push_cast
    rw [← (tri (z * y)).re, ← (tri (z * y)).im, ← (tri y).re, ← (tri y).im, e1, e2]; grind
  · push_cast
    rw [← (tri (z * y)).re, ← (tri (z * y)).im, ← (tri y).re, ← (tri y).im, e1, e2]; grind
theorem encN_t (x : G) : encN x = .tuple [encF ((tA x : Rat) / (tD x : Rat)), encF ((tB x : Rat) / (tD x : Rat))] := by
  rw [← t_re, ← t_im]; rfl
end K12
namespace K12
open PySem PySem.Spec PyProof.Rows L2 DL

def sp_frac_reduced : FS := fun rs P => ∃ n m : Int, rs = [.dat (.int n), .dat (.int m)] ∧ m ≠ 0 ∧ NoPy n m ∧ P (.dat (encF ((n : Rat) / (m : Rat))))
def sp_frac_sum : FS := fun rs P => ∃ x y : Rat, rs = [.dat (encF x), .dat (encF y)] ∧ Bq 2200 x ∧ Bq 2200 y ∧ P (.dat (encF (x + y)))
def sp_frac_less : FS := fun rs P => ∃ x y : Rat, rs = [.dat (encF x), .dat (encF y)] ∧ Bq 2200 x ∧ Bq 2200 y ∧ P (.dat (encF (x - y)))
def sp_frac_product : FS := fun rs P => ∃ x y : Rat, rs = [.dat (encF x), .dat (encF y)] ∧ Bq 20000 x ∧ Bq 20000 y ∧ NoPy (x.num * y.num) (x.den * y.den) ∧ P (.dat (encF (x * y)))
def sp_frac_over : FS := fun rs P => ∃ x y : Rat, rs = [.dat (encF x), .dat (encF y)] ∧ Bq 20000 x ∧ Bq 20000 y ∧ y ≠ 0 ∧ NoPy (x.num * y.den) (x.den * y.num) ∧ P (.dat (encF (x / y)))
def sp_num_sum : FS := fun rs P => ∃ x y : G, rs = [.dat (encN x), .dat (encN y)] ∧ Bd 2200 x ∧ Bd 2200 y ∧ P (.dat (encN (x + y)))
def sp_num_less : FS := fun rs P => ∃ x y : G, rs = [.dat (encN x), .dat (encN y)] ∧ Bd 2200 x ∧ Bd 2200 y ∧ P (.dat (encN (x - y)))
def sp_num_product : FS := fun rs P => ∃ x y : G, rs = [.dat (encN x), .dat (encN y)] ∧ Bd 2200 x ∧ Bd 2200 y ∧ P (.dat (encN (x * y)))
def sp_num_scaled : FS := fun rs P => ∃ (x : G) (f : Rat), rs = [.dat (encN x), .dat (encF f)] ∧ Bd 20000 x ∧ Bq 20000 f ∧ NoPy (x.re.num * f.num) (x.re.den * f.den) ∧ NoPy (x.im.num * f.num) (x.im.den * f.den) ∧ P (.dat (encN ⟨x.re * f, x.im * f⟩))
def sp_num_mirrored : FS := fun rs P => ∃ x : G, rs = [.dat (encN x)] ∧ P (.dat (encN (conj x)))
def sp_num_size : FS := fun rs P => ∃ x : G, rs = [.dat (encN x)] ∧ Bd 2200 x ∧ P (.dat (encF x.nm))
def sp_num_over : FS := fun rs P => ∃ x y : G, rs = [.dat (encN x), .dat (encN y)] ∧ Bd 2200 x ∧ Bd 2200 y ∧ y ≠ 0 ∧ Bd 2200 (x / y) ∧ P (.dat (encN (x / y)))
local macro_rules | `(tactic| walk_at "st") => `(tactic| dsimp -failIfUnchanged only [List.length_cons, List.length_nil, Nat.reduceAdd, Nat.reduceSub, rep0, repS, List.cons_append, List.nil_append, List.set_cons_zero, List.set_cons_succ, gSlot, fNext])
local macro_rules | `(tactic| walk_at "lt2") => `(tactic| first | with_reducible assumption | (with_reducible apply Lt2.mul; walk_at "lt2"; walk_at "lt2") | (with_reducible apply Lt2.neg; walk_at "lt2"))
local macro_rules | `(tactic| walk_at "cm") => `(tactic| (with_reducible apply cm; walk_at "lt2"; walk_at "lt2"; omega))
section
variable {P : Program} {w : World} {K : PySem.W.Frag} {mg : Str → Option Value} {base : Heap} (T : Txt K mg)
include T
theorem g_frac_reduced : Good P w K mg base 1 "frac_reduced" ["n", "m"] sp_frac_reduced := by
  refine good_mk (T.defs ("frac_reduced", 15) (by decide)) sc_frac_reduced (fun _ _ _ _ _ _ us hl => match us, hl with | [_, _], _ => rfl) ?_ (fun cdv A outer s H E B f hK hr => ⟨_, (s_cons (s_set 2 sc_frac_reduced.nd (d_if (d_cmpT op_gt opd_B0 (d_var 1) d_int (nomark _)) (d_callBfun cr_gcd cd_gcd (by rfl) T.gcd (da_cons (d_var 0) (da_cons (d_var 1) da_nil))) (d_un un_neg (d_callBfun cr_gcd cd_gcd (by rfl) T.gcd (da_cons (d_var 0) (da_cons (d_var 1) da_nil))))))
    (s_one (s_ret (d_tup (da_cons (d_bin op_fd opd_I (d_var 0) (d_var 2)) (da_cons (d_bin op_fd opd_I (d_var 1) (d_var 2)) da_nil)))))), fun rs P h => ?_⟩)
  · rintro rs P ⟨n, m, rfl, _⟩; rfl
  · obtain ⟨n, m, rfl, hm, hp, hP⟩ := h
    have fv := fr_val (n := n) hm
    have key : ∀ g : Int, g = (if m > 0 then gGcd n m else -gGcd n m) → CFd n g ∧ CFd m g ∧ P (Sl.dat (PyData.tuple [PyData.int (n.fdiv g), PyData.int (m.fdiv g)])) := fun g hg => by
      obtain ⟨h1, h2, h3⟩ := fv g hg
      have hga : g.natAbs = Nat.gcd n.natAbs m.natAbs := by
        rw [hg]
        split
        · rfl
        · show (-gGcd n m).natAbs = _
          rw [Int.natAbs_neg]; rfl
      obtain ⟨p1, p2⟩ := hp g hga
      refine ⟨⟨h1, p1⟩, ⟨h1, p2⟩, ?_⟩
      rw [h2, h3]
      exact hP
    refine ⟨fun h0 => ?_, fun h0 => ?_⟩
    · obtain ⟨k1, k2, k3⟩ := key _ (by rw [if_pos (of_decide_eq_true h0)])
      exact ⟨k1, k2, lb rfl, k3⟩
    · obtain ⟨k1, k2, k3⟩ := key _ (by rw [if_neg (of_decide_eq_false h0)])
      exact ⟨k1, k2, lb rfl, k3⟩

theorem g_frac_sum : Good P w K mg base 2 "frac_sum" ["x", "y"] sp_frac_sum := by
  refine good_mk (T.defs ("frac_sum", 16) (by decide)) sc_frac_sum (fun _ _ _ _ _ _ us hl => match us, hl with | [_, _], _ => rfl) ?_ (fun cdv A outer s H E B f hK hr => ⟨_, (s_one (s_ret (c_call (g_frac_reduced T) hK (hr.mono (by decide)) (da_cons (d_bin op_add opd_I0 (d_bin op_mulW opd_I (d_ix hK (d_var 0) d_int) (d_ix hK (d_var 1) d_int)) (d_bin op_mulW opd_I (d_ix hK (d_var 1) d_int) (d_ix hK (d_var 0) d_int))) (da_cons (d_bin op_mulW opd_I (d_ix hK (d_var 0) d_int) (d_ix hK (d_var 1) d_int)) da_nil))))), fun rs P h => ?_⟩)
  · rintro rs P ⟨x, y, rfl, _⟩; rfl
  · obtain ⟨x, y, rfl, hx, hy, hP⟩ := h
    have hx := hx; have hy := hy
    obtain ⟨x1, x2⟩ := hx
    obtain ⟨y1, y2⟩ := hy
    refine ⟨(by walk_at "cm"), (by walk_at "cm"), (by walk_at "cm"), _, _, rfl, Int.mul_ne_zero (den_ne x) (den_ne y), nopy1 (Int.mul_ne_zero (den_ne x) (den_ne y)) (by decide) (x2.mul y2), ?_⟩
    show P (.dat (encF _))
    rw [sum_val]; exact hP

theorem g_frac_less : Good P w K mg base 2 "frac_less" ["x", "y"] sp_frac_less := by
  refine good_mk (T.defs ("frac_less", 17) (by decide)) sc_frac_less (fun _ _ _ _ _ _ us hl => match us, hl with | [_, _], _ => rfl) ?_ (fun cdv A outer s H E B f hK hr => ⟨_, (s_one (s_ret (c_call (g_frac_reduced T) hK (hr.mono (by decide)) (da_cons (d_bin op_sub opd_I0 (d_bin op_mulW opd_I (d_ix hK (d_var 0) d_int) (d_ix hK (d_var 1) d_int)) (d_bin op_mulW opd_I (d_ix hK (d_var 1) d_int) (d_ix hK (d_var 0) d_int))) (da_cons (d_bin op_mulW opd_I (d_ix hK (d_var 0) d_int) (d_ix hK (d_var 1) d_int)) da_nil))))), fun rs P h => ?_⟩)
  · rintro rs P ⟨x, y, rfl, _⟩; rfl
  · obtain ⟨x, y, rfl, hx, hy, hP⟩ := h
    have hx := hx; have hy := hy
    obtain ⟨x1, x2⟩ := hx
    obtain ⟨y1, y2⟩ := hy
    refine ⟨(by walk_at "cm"), (by walk_at "cm"), (by walk_at "cm"), _, _, rfl, Int.mul_ne_zero (den_ne x) (den_ne y), nopy1 (Int.mul_ne_zero (den_ne x) (den_ne y)) (by decide) (x2.mul y2), ?_⟩
    show P (.dat (encF _))
    rw [less_val]; exact hP

theorem g_frac_product : Good P w K mg base 2 "frac_product" ["x", "y"] sp_frac_product := by
  refine good_mk (T.defs ("frac_product", 18) (by decide)) sc_frac_product (fun _ _ _ _ _ _ us hl => match us, hl with | [_, _], _ => rfl) ?_ (fun cdv A outer s H E B f hK hr => ⟨_, (s_one (s_ret (c_call (g_frac_reduced T) hK (hr.mono (by decide)) (da_cons (d_bin op_mulW opd_I (d_ix hK (d_var 0) d_int) (d_ix hK (d_var 1) d_int)) (da_cons (d_bin op_mulW opd_I (d_ix hK (d_var 0) d_int) (d_ix hK (d_var 1) d_int)) da_nil))))), fun rs P h => ?_⟩)
  · rintro rs P ⟨x, y, rfl, _⟩; rfl
  · obtain ⟨x, y, rfl, hx, hy, hn, hP⟩ := h
    have hx := hx; have hy := hy
    obtain ⟨x1, x2⟩ := hx
    obtain ⟨y1, y2⟩ := hy
    refine ⟨(by walk_at "cm"), (by walk_at "cm"), _, _, rfl, Int.mul_ne_zero (den_ne x) (den_ne y), hn, ?_⟩
    show P (.dat (encF _))
    rw [prod_val]; exact hP

theorem g_frac_over : Good P w K mg base 2 "frac_over" ["x", "y"] sp_frac_over := by
  refine good_mk (T.defs ("frac_over", 19) (by decide)) sc_frac_over (fun _ _ _ _ _ _ us hl => match us, hl with | [_, _], _ => rfl) ?_ (fun cdv A outer s H E B f hK hr => ⟨_, (s_one (s_ret (c_call (g_frac_reduced T) hK (hr.mono (by decide)) (da_cons (d_bin op_mulW opd_I (d_ix hK (d_var 0) d_int) (d_ix hK (d_var 1) d_int)) (da_cons (d_bin op_mulW opd_I (d_ix hK (d_var 0) d_int) (d_ix hK (d_var 1) d_int)) da_nil))))), fun rs P h => ?_⟩)
  · rintro rs P ⟨x, y, rfl, _⟩; rfl
  · obtain ⟨x, y, rfl, hx, hy, h0, hn, hP⟩ := h
    have hx := hx; have hy := hy
    obtain ⟨x1, x2⟩ := hx
    obtain ⟨y1, y2⟩ := hy
    have hy0 : y.num ≠ 0 := fun e => h0 (Rat.num_eq_zero.mp e)
    refine ⟨(by walk_at "cm"), (by walk_at "cm"), _, _, rfl, Int.mul_ne_zero (den_ne x) hy0, hn, ?_⟩
    show P (.dat (encF _))
    rw [over_val x y h0]; exact hP

theorem g_num_sum : Good P w K mg base 3 "num_sum" ["x", "y"] sp_num_sum := by
  refine good_mk (T.defs ("num_sum", 20) (by decide)) sc_num_sum (fun _ _ _ _ _ _ us hl => match us, hl with | [_, _], _ => rfl) ?_ (fun cdv A outer s H E B f hK hr => ⟨_, (s_one (s_ret (d_tup (da_cons (c_call (g_frac_sum T) hK (hr.mono (by decide)) (da_cons (d_ix hK (d_var 0) d_int) (da_cons (d_ix hK (d_var 1) d_int) da_nil))) (da_cons (c_call (g_frac_sum T) hK (hr.mono (by decide)) (da_cons (d_ix hK (d_var 0) d_int) (da_cons (d_ix hK (d_var 1) d_int) da_nil))) da_nil))))), fun rs P h => ?_⟩)
  · rintro rs P ⟨x, y, rfl, _⟩; rfl
  · obtain ⟨x, y, rfl, hx, hy, hP⟩ := h
    exact ⟨_, _, rfl, hx.1, hy.1, _, _, rfl, hx.2, hy.2, lb rfl, hP⟩

theorem g_num_less : Good P w K mg base 3 "num_less" ["x", "y"] sp_num_less := by
  refine good_mk (T.defs ("num_less", 21) (by decide)) sc_num_less (fun _ _ _ _ _ _ us hl => match us, hl with | [_, _], _ => rfl) ?_ (fun cdv A outer s H E B f hK hr => ⟨_, (s_one (s_ret (d_tup (da_cons (c_call (g_frac_less T) hK (hr.mono (by decide)) (da_cons (d_ix hK (d_var 0) d_int) (da_cons (d_ix hK (d_var 1) d_int) da_nil))) (da_cons (c_call (g_frac_less T) hK (hr.mono (by decide)) (da_cons (d_ix hK (d_var 0) d_int) (da_cons (d_ix hK (d_var 1) d_int) da_nil))) da_nil))))), fun rs P h => ?_⟩)
  · rintro rs P ⟨x, y, rfl, _⟩; rfl
  · obtain ⟨x, y, rfl, hx, hy, hP⟩ := h
    exact ⟨_, _, rfl, hx.1, hy.1, _, _, rfl, hx.2, hy.2, lb rfl, hP⟩

theorem g_num_product : Good P w K mg base 3 "num_product" ["x", "y"] sp_num_product := by
  refine good_mk (T.defs ("num_product", 22) (by decide)) sc_num_product (fun _ _ _ _ _ _ us hl => match us, hl with | [_, _], _ => rfl) ?_ (fun cdv A outer s H E B f hK hr => ⟨_, (s_cons (s_asg (d_var 0) (g_tup (n := 2) hK rfl (gs_cons (g_tup (n := 2) hK rfl (gs_cons (g_name 3 sc_num_product.nd) (gs_cons (g_name 4 sc_num_product.nd) gs_nil ae_name) ae_name) (ae_len _) (ae_find _ rfl)) (gs_cons (g_tup (n := 2) hK rfl (gs_cons (g_name 5 sc_num_product.nd) (gs_cons (g_name 6 sc_num_product.nd) gs_nil ae_name) ae_name) (ae_len _) (ae_find _ rfl)) gs_nil ae_tup) ae_tup) (ae_len _) (ae_find _ rfl)) so_name ss_name ae_one)
    (s_cons (s_asg (d_var 1) (g_tup (n := 2) hK rfl (gs_cons (g_tup (n := 2) hK rfl (gs_cons (g_name 7 sc_num_product.nd) (gs_cons (g_name 8 sc_num_product.nd) gs_nil ae_name) ae_name) (ae_len _) (ae_find _ rfl)) (gs_cons (g_tup (n := 2) hK rfl (gs_cons (g_name 9 sc_num_product.nd) (gs_cons (g_name 10 sc_num_product.nd) gs_nil ae_name) ae_name) (ae_len _) (ae_find _ rfl)) gs_nil ae_tup) ae_tup) (ae_len _) (ae_find _ rfl)) so_name ss_name ae_one)
    (s_cons (s_set 2 sc_num_product.nd (d_bin op_mulW opd_I (d_bin op_mulW opd_I (d_bin op_mulW opd_I (d_var 4) (d_var 6)) (d_var 8)) (d_var 10)))
    (s_one (s_ret (d_tup (da_cons (c_call (g_frac_reduced T) hK (hr.mono (by decide)) (da_cons (d_bin op_sub opd_I0 (d_bin op_mulW opd_I (d_bin op_mulW opd_I (d_bin op_mulW opd_I (d_var 3) (d_var 7)) (d_var 6)) (d_var 10)) (d_bin op_mulW opd_I (d_bin op_mulW opd_I (d_bin op_mulW opd_I (d_var 5) (d_var 9)) (d_var 4)) (d_var 8))) (da_cons (d_var 2) da_nil))) (da_cons (c_call (g_frac_reduced T) hK (hr.mono (by decide)) (da_cons (d_bin op_add opd_I0 (d_bin op_mulW opd_I (d_bin op_mulW opd_I (d_bin op_mulW opd_I (d_var 3) (d_var 9)) (d_var 6)) (d_var 8)) (d_bin op_mulW opd_I (d_bin op_mulW opd_I (d_bin op_mulW opd_I (d_var 5) (d_var 7)) (d_var 4)) (d_var 10))) (da_cons (d_var 2) da_nil))) da_nil)))))))), fun rs P h => ?_⟩)
  · rintro rs P ⟨x, y, rfl, _⟩; rfl
  · obtain ⟨x, y, rfl, hx, hy, hP⟩ := h
    have hx0 := hx; have hy0 := hy
    obtain ⟨⟨a1, a2⟩, b1, b2⟩ := hx0
    obtain ⟨⟨c1, c2⟩, d1, d2⟩ := hy0
    have hn := nopy1 (n := x.re.num * y.re.num * (x.im.den : Int) * (y.im.den : Int) - x.im.num * y.im.num * (x.re.den : Int) * (y.re.den : Int)) (den4 x y) (by decide) (((a2.mul b2).mul c2).mul d2)
    have hn2 := nopy1 (n := x.re.num * y.im.num * (x.im.den : Int) * (y.re.den : Int) + x.im.num * y.re.num * (x.re.den : Int) * (y.im.den : Int)) (den4 x y) (by decide) (((a2.mul b2).mul c2).mul d2)
    walk_at "st"
    refine ⟨rfl, rfl, rfl, rfl, rfl, rfl, (by walk_at "cm"), (by walk_at "cm"), (by walk_at "cm"), ?_⟩
    walk_at "st"
    refine ⟨(by walk_at "cm"), (by walk_at "cm"), (by walk_at "cm"), (by walk_at "cm"), (by walk_at "cm"), (by walk_at "cm"), _, _, rfl, den4 x y, hn, ?_⟩
    refine ⟨(by walk_at "cm"), (by walk_at "cm"), (by walk_at "cm"), (by walk_at "cm"), (by walk_at "cm"), (by walk_at "cm"), _, _, rfl, den4 x y, hn2, lb rfl, ?_⟩
    show P (.dat (.tuple [encF _, encF _]))
    rw [prodN_re, prodN_im]
    exact hP

theorem g_num_scaled : Good P w K mg base 3 "num_scaled" ["x", "fraction"] sp_num_scaled := by
  refine good_mk (T.defs ("num_scaled", 23) (by decide)) sc_num_scaled (fun _ _ _ _ _ _ us hl => match us, hl with | [_, _], _ => rfl) ?_ (fun cdv A outer s H E B f hK hr => ⟨_, (s_one (s_ret (d_tup (da_cons (c_call (g_frac_product T) hK (hr.mono (by decide)) (da_cons (d_ix hK (d_var 0) d_int) (da_cons (d_var 1) da_nil))) (da_cons (c_call (g_frac_product T) hK (hr.mono (by decide)) (da_cons (d_ix hK (d_var 0) d_int) (da_cons (d_var 1) da_nil))) da_nil))))), fun rs P h => ?_⟩)
  · rintro rs P ⟨x, y, rfl, _⟩; rfl
  · obtain ⟨x, f, rfl, hx, hf, h1, h2, hP⟩ := h
    exact ⟨_, _, rfl, hx.1, hf, h1, _, _, rfl, hx.2, hf, h2, lb rfl, hP⟩

theorem g_num_mirrored : Good P w K mg base 1 "num_mirrored" ["x"] sp_num_mirrored := by
  refine good_mk (T.defs ("num_mirrored", 24) (by decide)) sc_num_mirrored (fun _ _ _ _ _ _ us hl => match us, hl with | [_], _ => rfl) ?_ (fun cdv A outer s H E B f hK hr => ⟨_, (s_one (s_ret (d_tup (da_cons (d_ix hK (d_var 0) d_int) (da_cons (d_tup (da_cons (d_un un_neg (d_ix hK (d_ix hK (d_var 0) d_int) d_int)) (da_cons (d_ix hK (d_ix hK (d_var 0) d_int) d_int) da_nil))) da_nil))))), fun rs P h => ?_⟩)
  · rintro rs P ⟨x, rfl, _⟩; rfl
  · obtain ⟨x, rfl, hP⟩ := h
    have e : encN (conj x) = .tuple [encF x.re, .tuple [.int (-x.im.num), .int x.im.den]] := by
      unfold encN encF conj
      rw [Rat.neg_num, Rat.neg_den]
    rw [e] at hP
    exact ⟨lb rfl, lb rfl, hP⟩

theorem g_num_size : Good P w K mg base 2 "num_size" ["x"] sp_num_size := by
  refine good_mk (T.defs ("num_size", 25) (by decide)) sc_num_size (fun _ _ _ _ _ _ us hl => match us, hl with | [_], _ => rfl) ?_ (fun cdv A outer s H E B f hK hr => ⟨_, (s_cons (s_asg (d_var 0) (g_tup (n := 2) hK rfl (gs_cons (g_tup (n := 2) hK rfl (gs_cons (g_name 1 sc_num_size.nd) (gs_cons (g_name 2 sc_num_size.nd) gs_nil ae_name) ae_name) (ae_len _) (ae_find _ rfl)) (gs_cons (g_tup (n := 2) hK rfl (gs_cons (g_name 3 sc_num_size.nd) (gs_cons (g_name 4 sc_num_size.nd) gs_nil ae_name) ae_name) (ae_len _) (ae_find _ rfl)) gs_nil ae_tup) ae_tup) (ae_len _) (ae_find _ rfl)) so_name ss_name ae_one)
    (s_one (s_ret (c_call (g_frac_reduced T) hK (hr.mono (by decide)) (da_cons (d_bin op_add opd_I0 (d_bin op_mulW opd_I (d_bin op_mulW opd_I (d_bin op_mulW opd_I (d_var 1) (d_var 1)) (d_var 4)) (d_var 4)) (d_bin op_mulW opd_I (d_bin op_mulW opd_I (d_bin op_mulW opd_I (d_var 3) (d_var 3)) (d_var 2)) (d_var 2))) (da_cons (d_bin op_mulW opd_I (d_bin op_mulW opd_I (d_bin op_mulW opd_I (d_var 2) (d_var 2)) (d_var 4)) (d_var 4)) da_nil)))))), fun rs P h => ?_⟩)
  · rintro rs P ⟨x, rfl, _⟩; rfl
  · obtain ⟨x, rfl, hx, hP⟩ := h
    have hx0 := hx
    obtain ⟨⟨a1, a2⟩, b1, b2⟩ := hx0
    walk_at "st"
    refine ⟨rfl, rfl, rfl, (by walk_at "cm"), (by walk_at "cm"), (by walk_at "cm"), (by walk_at "cm"), (by walk_at "cm"), (by walk_at "cm"), ?_⟩
    walk_at "st"
    refine ⟨(by walk_at "cm"), (by walk_at "cm"), (by walk_at "cm"), _, _, rfl, den4s x, nopy1 (den4s x) (by decide) (((a2.mul a2).mul b2).mul b2), ?_⟩
    show P (.dat (encF _))
    rw [size_val]
    exact hP

theorem g_num_over : Good P w K mg base 4 "num_over" ["x", "y"] sp_num_over := by
  refine good_mk (T.defs ("num_over", 26) (by decide)) sc_num_over (fun _ _ _ _ _ _ us hl => match us, hl with | [_, _], _ => rfl) ?_ (fun cdv A outer s H E B f hK hr => ⟨_, (s_one (s_ret (c_call (g_num_scaled T) hK (hr.mono (by decide)) (da_cons (c_call (g_num_product T) hK (hr.mono (by decide)) (da_cons (d_var 0) (da_cons (c_call (g_num_mirrored T) hK (hr.mono (by decide)) (da_cons (d_var 1) da_nil)) da_nil))) (da_cons (c_call (g_frac_over T) hK (hr.mono (by decide)) (da_cons (c_glob hK T.FRAC_ONE) (da_cons (c_call (g_num_size T) hK (hr.mono (by decide)) (da_cons (d_var 1) da_nil)) da_nil))) da_nil))))), fun rs P h => ?_⟩)
  · rintro rs P ⟨x, y, rfl, _⟩; rfl
  · obtain ⟨x, y, rfl, hx, hy, h0, hz, hP⟩ := h
    have hn0 := G.nm_ne h0
    have hs := bq_size hy
    have hp := bd_prod hx (bd_conj hy)
    have hi := bq_inv hn0 hs
    have hnz : y.nm.num ≠ 0 := fun e => hn0 (Rat.num_eq_zero.mp e)
    refine ⟨_, rfl, _, _, rfl, hx, bd_conj hy, _, rfl, hy, 1, _, rfl, ⟨by unfold Lt2; decide, by unfold Lt2; decide⟩, hs.mono (by decide), hn0, nopy1 (Int.mul_ne_zero (by decide) hnz) (k := 8801) (by decide) ?_, _, _, rfl, hp.mono (by decide), hi.mono (by decide), ?_, ?_, ?_⟩
    · show Lt2 8801 (1 * _)
      rw [Int.one_mul]; exact hs.1
    · refine nopy2 (Int.mul_ne_zero (den_ne _) (den_ne _)) (k := 2200) (by decide) ?_
      rw [prod_val, over_re]; exact hz.1
    · refine nopy2 (Int.mul_ne_zero (den_ne _) (den_ne _)) (k := 2200) (by decide) ?_
      rw [prod_val, over_im]; exact hz.2
    · show P (.dat (encN ⟨_, _⟩))
      rw [over_re, over_im]; exact hP
end
end K12
namespace K12
open PySem PySem.Spec PyProof.Rows L2 DL



def sp_is_whole : FS := fun rs P => ∃ i : Int, rs = [.dat (.int i)] ∧ P (.dat (.bool true))
def sp_is_frac : FS := fun rs P => ∃ q : Rat, rs = [.dat (encF q)] ∧ P (.dat (.bool true))
def sp_is_num : FS := fun rs P => ∃ x : G, rs = [.dat (encN x)] ∧ P (.dat (.bool true))
def sp_is_a_row : FS := fun rs P => ∃ l : List G, rs = [.dat (encR l)] ∧ Tr l ∧ P (.dat (.bool true))
local macro_rules | `(tactic| walk_at "st") => `(tactic| dsimp -failIfUnchanged only [List.length_cons, List.length_nil, Nat.reduceAdd, Nat.reduceSub, rep0, repS, List.cons_append, List.nil_append, List.set_cons_zero, List.set_cons_succ, gSlot, fNext])
local macro_rules | `(tactic| walk_at "lt2") => `(tactic| first | with_reducible assumption | (with_reducible apply Lt2.mul; walk_at "lt2"; walk_at "lt2") | (with_reducible apply Lt2.neg; walk_at "lt2"))
local macro_rules | `(tactic| walk_at "cm") => `(tactic| (with_reducible apply cm; walk_at "lt2"; walk_at "lt2"; omega))
section
variable {P : Program} {w : World} {K : PySem.W.Frag} {mg : Str → Option Value} {base : Heap} (T : Txt K mg)
include T
theorem g_is_whole : Good P w K mg base 1 "is_whole" ["value"] sp_is_whole := by
  refine good_mk (T.defs ("is_whole", 12) (by decide)) sc_is_whole (fun _ _ _ _ _ _ us hl => match us, hl with | [_], _ => rfl) ?_ (fun cdv A outer s H E B f hK hr => ⟨_, (s_one (s_ret (d_andV (d_isi hK kit_int (d_var 0) T.isinstance_ T.int_ (by decide +kernel)) (d_oneV (d_notV (d_isi hK kit_bool (d_var 0) T.isinstance_ T.bool_ (by decide +kernel))))))), fun rs P h => ?_⟩)
  · rintro rs P ⟨i, rfl, _⟩; rfl
  · obtain ⟨i, rfl, hP⟩ := h
    exact ⟨fun _ => hP, fun z => nomatch z⟩

theorem g_is_frac : Good P w K mg base 2 "is_frac" ["value"] sp_is_frac := by
  refine good_mk (T.defs ("is_frac", 13) (by decide)) sc_is_frac (fun _ _ _ _ _ _ us hl => match us, hl with | [_], _ => rfl) ?_ (fun cdv A outer s H E B f hK hr => ⟨_, (s_cons (s_if (PW.pt (d_or (d_not (d_valT (d_isi hK kit_tup (d_var 0) T.isinstance_ T.tuple_ (by decide +kernel)))) (d_or (d_cmpT op_ne opd_neI (d_callB call_len_seq (cd_len hK) (by rfl) T.len_ (by decide +kernel) (da_cons (d_var 0) da_nil)) d_int (nomark _)) (d_or (d_not (d_valT (c_call (g_is_whole T) hK (hr.mono (by decide)) (da_cons (d_ix hK (d_var 0) d_int) da_nil)))) (d_or1 (d_not (d_valT (c_call (g_is_whole T) hK (hr.mono (by decide)) (da_cons (d_ix hK (d_var 0) d_int) da_nil)))))))))
    (s_one (s_ret d_bl))
    s_nil)
    (s_one (s_ret (d_andV (d_cmp op_gt opd_B0 (d_ix hK (d_var 0) d_int) d_int (nomark _)) (d_oneV (d_cmp op_eq opd_eqI (d_callBfun cr_gcd cd_gcd (by rfl) T.gcd (da_cons (d_ix hK (d_var 0) d_int) (da_cons (d_ix hK (d_var 0) d_int) da_nil))) d_int (nomark _))))))), fun rs P h => ?_⟩)
  · rintro rs P ⟨i, rfl, _⟩; rfl
  · obtain ⟨q, rfl, hP⟩ := h
    walk_at "st"
    refine ⟨fun z => (nomatch z), fun _ => ⟨fun z => (nomatch z), fun _ => ?_⟩⟩
    refine ⟨_, rfl, fun z => (nomatch z), fun _ => ?_⟩
    refine ⟨_, rfl, fun z => (nomatch z), fun _ => ?_⟩
    have h0 : decide ((q.den : Int) > 0) = true := decide_eq_true (by have := q.den_pos; omega)
    refine ⟨fun _ => ?_, fun z => ?_⟩
    · have e : decide (gGcd q.num q.den = 1) = true := decide_eq_true (gcd_F q)
      show P (.dat (.bool (decide (gGcd q.num q.den = 1))))
      rw [e]; exact hP
    · exact nomatch h0.symm.trans z

theorem g_is_num : Good P w K mg base 3 "is_num" ["value"] sp_is_num := by
  refine good_mk (T.defs ("is_num", 14) (by decide)) sc_is_num (fun _ _ _ _ _ _ us hl => match us, hl with | [_], _ => rfl) ?_ (fun cdv A outer s H E B f hK hr => ⟨_, (s_one (s_ret (d_andV (d_isi hK kit_tup (d_var 0) T.isinstance_ T.tuple_ (by decide +kernel)) (d_andV (d_cmp op_eq opd_eqI (d_callB call_len_seq (cd_len hK) (by rfl) T.len_ (by decide +kernel) (da_cons (d_var 0) da_nil)) d_int (nomark _)) (d_andV (c_call (g_is_frac T) hK (hr.mono (by decide)) (da_cons (d_ix hK (d_var 0) d_int) da_nil)) (d_oneV (c_call (g_is_frac T) hK (hr.mono (by decide)) (da_cons (d_ix hK (d_var 0) d_int) da_nil)))))))), fun rs P h => ?_⟩)
  · rintro rs P ⟨i, rfl, _⟩; rfl
  · obtain ⟨x, rfl, hP⟩ := h
    walk_at "st"
    refine ⟨fun _ => ⟨fun _ => ?_, fun z => (nomatch z)⟩, fun z => (nomatch z)⟩
    exact ⟨_, rfl, fun _ => ⟨_, rfl, hP⟩, fun z => (nomatch z)⟩

theorem g_is_a_row : Good P w K mg base 4 "is_a_row" ["value"] sp_is_a_row := by
  refine good_mk (T.defs ("is_a_row", 28) (by decide)) sc_is_a_row (fun _ _ _ _ _ _ us hl => match us, hl with | [_], _ => rfl) ?_ (fun cdv A outer s H E B f hK hr => ⟨_, (s_cons (s_if (PW.pt (d_or (d_not (d_valT (d_isi hK kit_tup (d_var 0) T.isinstance_ T.tuple_ (by decide +kernel)))) (d_or1 (d_cmpT (op_neD (hu64 hr)) (opd_neD hK) (d_frz (d_lcIf 1 sc_is_a_row.nd (i_tup hK (d_var 0)) (blkOk_by (by rfl)) (fun _ _ _ _ _ => pg_name (i := 1) sc_is_a_row.nd rfl (Or.inl rfl)) (fun _ _ _ _ _ => (d_not (d_valT (c_call (g_is_num T) hK (hr.mono (by decide)) (da_cons (d_var 1) da_nil))))) (fun _ _ _ _ _ => (d_var 1)))) (d_frz (d_lst da_nil)) (nomark _)))))
    (s_one (s_ret d_bl))
    s_nil)
    (s_one (s_ret (d_orV (d_cmp (op_eqD (hu64 hr)) (opd_eqD hK) (d_var 0) (d_tup da_nil) (nomark _)) (d_oneV (d_cmp (op_neD (hu64 hr)) (opd_neD hK) (d_ixS hK (d_var 0) (d_un un_neg d_int)) (c_glob hK T.NOUGHT) (nomark _))))))), fun rs P h => ?_⟩)
  · rintro rs P ⟨i, rfl, _⟩; rfl
  · obtain ⟨l, rfl, ht, hP⟩ := h
    walk_at "st"
    refine ⟨fun z => (nomatch z), fun _ => ⟨rfl, ?_⟩⟩
    refine lc_none (fun x _ PB hB => ⟨x, rfl, hB⟩) ?_
    refine ⟨lb rfl, ?_⟩
    refine ne_go (b := true) rfl rfl rfl ?_
    refine ⟨fun z => (nomatch z), fun _ => ?_⟩
    refine ⟨lb rfl, ?_⟩
    refine eq_go ((sh_R l).shaped rfl) rfl (eqv_R0 l) ?_
    refine ⟨fun _ => hP, fun h0 => ?_⟩
    have hl : l ≠ [] := of_decide_eq_false h0
    obtain ⟨x, hx⟩ : ∃ x, l.getLast? = some x := ⟨_, List.getLast?_eq_getLast hl⟩
    have hx0 : x ≠ 0 := fun e => ht (by rw [hx, e])
    refine at_go (atI_last hx) ?_
    refine ne_go ((sh_N x).shaped rfl) rfl (eqv_N x 0) ?_
    rw [decide_eq_false hx0]
    exact hP
end
end K12
namespace K12
open PySem PySem.Spec PyProof.Rows L2 DL
open Ser
theorem cutA_nat {α : Type} {l : List α} {k : Nat} (h : k ≤ l.length) : cutA l none (some (k : Int)) = l.take k := by
  unfold cutA
  rw [HT.sIx_nat, HT.sIx_none, Nat.min_eq_left h, Nat.sub_zero, List.drop_zero]
def sp_row_trimmed : FS := fun rs P => ∃ l : List G, rs = [.dat (.list (l.map encN))] ∧ ∀ r, Tr r → sr r = sr l → P (.dat (encR r))
def sp_row_number : FS := fun rs P => ∃ (l : List G) (n : Nat), rs = [.dat (encR l), .dat (.int n)] ∧ P (.dat (encN ((sr l).c n)))
def sp_row_plus : FS := fun rs P => ∃ l m : List G, rs = [.dat (encR l), .dat (encR m)] ∧ l.length ≤ 400 ∧ m.length ≤ 400 ∧ BA l ∧ BA m ∧ ∀ r, Tr r → sr r = sr l + sr m → P (.dat (encR r))
def sp_row_minus : FS := fun rs P => ∃ l m : List G, rs = [.dat (encR l), .dat (encR m)] ∧ l.length ≤ 400 ∧ m.length ≤ 400 ∧ BA l ∧ BA m ∧ ∀ r, Tr r → sr r = sr l - sr m → P (.dat (encR r))
def sp_row_scaled : FS := fun rs P => ∃ (l : List G) (x : G), rs = [.dat (encR l), .dat (encN x)] ∧ l.length ≤ 400 ∧ BA l ∧ Bd 2200 x ∧ ∀ r, Tr r → sr r = con x * sr l → P (.dat (encR r))
theorem BA.mem {l : List G} (h : BA l) {x : G} (hx : x ∈ l) : Bd 2200 x := by
  obtain ⟨k, hk⟩ := List.getElem?_of_mem hx
  have := h k
  rw [sr_get hk] at this; exact this
theorem map_toL {n : Nat} {f : Nat → G} : (List.range n).map (fun k => encN (f k)) = (toL n f).map encN := by
  unfold toL
  rw [List.map_map]; rfl
local macro_rules | `(tactic| walk_at "st") => `(tactic| dsimp -failIfUnchanged only [List.length_cons, List.length_nil, Nat.reduceAdd, Nat.reduceSub, rep0, repS, List.cons_append, List.nil_append, List.set_cons_zero, List.set_cons_succ, gSlot, fNext])
local macro_rules | `(tactic| walk_at "lt2") => `(tactic| first | with_reducible assumption | (with_reducible apply Lt2.mul; walk_at "lt2"; walk_at "lt2") | (with_reducible apply Lt2.neg; walk_at "lt2"))
local macro_rules | `(tactic| walk_at "cm") => `(tactic| (with_reducible apply cm; walk_at "lt2"; walk_at "lt2"; omega))
section
variable {P : Program} {w : World} {K : PySem.W.Frag} {mg : Str → Option Value} {base : Heap} (T : Txt K mg)
include T
theorem g_row_trimmed : Good P w K mg base 1 "row_trimmed" ["numbers"] sp_row_trimmed := by
  refine good_mk (T.defs ("row_trimmed", 29) (by decide)) sc_row_trimmed (fun _ _ _ _ _ _ us hl => match us, hl with | [_], _ => rfl) ?_ (fun cdv A outer s H E B f hK hr => ⟨_, (s_cons (s_set 1 sc_row_trimmed.nd (d_callB call_len_seq (cd_len hK) (by rfl) T.len_ (by decide +kernel) (da_cons (d_var 0) da_nil)))
    (s_cons (s_while (PW.pt (d_and (d_cmpT op_gt opd_B0 (d_var 1) d_int (nomark _)) (d_and1 (d_cmpT (op_eqD (hu64 hr)) (opd_eqD hK) (d_ixS hK (d_var 0) (d_bin op_sub opd_I0 (d_var 1) d_int)) (c_glob hK T.NOUGHT) (nomark _)))))
    (s_one (s_aug 1 sc_row_trimmed.nd d_int ip_sub)))
    (s_one (s_ret (d_callTy call_tuple_of (cd_tuple hK) (by rfl) T.tuple_ (by decide +kernel) (da_cons (d_frz (d_cutL (d_var 0) (d_var 1))) da_nil)))))), fun rs P h => ?_⟩)
  · rintro rs P ⟨l, rfl, _⟩; rfl
  · obtain ⟨l, rfl, hP⟩ := h
    walk_at "st"
    refine ⟨fun m ρ => ∃ k : Nat, m = k ∧ k ≤ l.length ∧ ρ = [.dat (.list (l.map encN)), .dat (.int k)] ∧ ∀ j, k ≤ j → (sr l).c j = 0, ⟨_, _, rfl, Nat.le_refl _, ?_, fun j hj => sr_ge hj⟩, ?_⟩
    · show [_, Sl.dat (.int ((l.map encN).length : Nat))] = _
      rw [List.length_map]
    rintro m ρ ⟨k, rfl, hk, rfl, h0⟩
    have fin : (m ≠ 0 → (sr l).c (m - 1) ≠ 0) → P (.dat (.tuple (cutA (l.map encN) none (some (m : Int))))) := fun h1 => by
      rw [cutA_nat (by rw [List.length_map]; exact hk), ← List.map_take]
      obtain ⟨q1, q2⟩ := tr_take hk h0 h1
      exact hP _ q1 q2
    refine ⟨fun hm => ?_, fun hm => ?_⟩
    · have hm1 : 0 < m := by have := of_decide_eq_true hm; omega
      have hl : m - 1 < l.length := by omega
      refine at_go (d := encN ((sr l).c (m - 1))) ?_ ?_
      · rw [show ((m : Int) - 1) = ((m - 1 : Nat) : Int) by omega]
        exact atI_map (by rw [List.getElem?_eq_getElem hl, sr_get (List.getElem?_eq_getElem hl)])
      refine eq_go ((sh_N _).shaped rfl) rfl (eqv_N _ 0) ?_
      refine ⟨fun he => ?_, fun he => ?_⟩
      · refine ⟨m - 1, by omega, m - 1, rfl, by omega, ?_, fun j hj => ?_⟩
        · show [_, Sl.dat (.int ((m : Int) - 1))] = _
          rw [show ((m : Int) - 1) = ((m - 1 : Nat) : Int) by omega]
        · by_cases q : j = m - 1
          · subst q; exact of_decide_eq_true he
          · exact h0 j (by omega)
      · exact fin fun _ => of_decide_eq_false he
    · have hm2 : decide ((m : Int) > 0) = false := hm
      have hm3 := of_decide_eq_false hm2
      exact ⟨fun z => (nomatch z), fun _ => fin fun q => by omega⟩

theorem g_row_number : Good P w K mg base 1 "row_number" ["row", "at"] sp_row_number := by
  refine good_mk (T.defs ("row_number", 30) (by decide)) sc_row_number (fun _ _ _ _ _ _ us hl => match us, hl with | [_, _], _ => rfl) ?_ (fun cdv A outer s H E B f hK hr => ⟨_, (s_one (s_ret (d_if (d_cmpT op_lt opd_B0 (d_var 1) (d_callB call_len_seq (cd_len hK) (by rfl) T.len_ (by decide +kernel) (da_cons (d_var 0) da_nil)) (nomark _)) (d_ixS hK (d_var 0) (d_var 1)) (c_glob hK T.NOUGHT)))), fun rs P h => ?_⟩)
  · rintro rs P ⟨l, n, rfl, _⟩; rfl
  · obtain ⟨l, n, rfl, hP⟩ := h
    walk_at "st"
    refine ⟨fun hn => ?_, fun hn => ?_⟩
    · have hn1 : n < l.length := by
        have := of_decide_eq_true hn
        rw [List.length_map] at this
        omega
      refine at_go (atI_map (a := (sr l).c n) ?_) hP
      rw [List.getElem?_eq_getElem hn1, sr_get (List.getElem?_eq_getElem hn1)]
    · have hn1 : l.length ≤ n := by
        have := of_decide_eq_false hn
        rw [List.length_map] at this
        omega
      rw [sr_ge hn1] at hP
      exact hP

theorem g_row_plus : Good P w K mg base 4 "row_plus" ["row", "other"] sp_row_plus := by
  refine good_mk (T.defs ("row_plus", 31) (by decide)) sc_row_plus (fun _ _ _ _ _ _ us hl => match us, hl with | [_, _], _ => rfl) ?_ (fun cdv A outer s H E B f hK hr => ⟨_, (s_cons (s_set 2 sc_row_plus.nd (d_callB (call_max2 rfl) cd_max (by rfl) T.max_ (by decide +kernel) (da_cons (d_callB call_len_seq (cd_len hK) (by rfl) T.len_ (by decide +kernel) (da_cons (d_var 0) da_nil)) (da_cons (d_callB call_len_seq (cd_len hK) (by rfl) T.len_ (by decide +kernel) (da_cons (d_var 1) da_nil)) da_nil))))
    (s_one (s_ret (c_call (g_row_trimmed T) hK (hr.mono (by decide)) (da_cons (d_frz (d_lc 3 sc_row_plus.nd (i_range1 (by rfl) T.range_ (da_cons (d_var 2) da_nil)) (blkOk_by (by rfl)) (fun _ _ _ _ _ => pg_name (i := 3) sc_row_plus.nd rfl (Or.inl rfl)) (fun _ _ _ _ _ => (c_call (g_num_sum T) hK (hr.mono (by decide)) (da_cons (c_call (g_row_number T) hK (hr.mono (by decide)) (da_cons (d_var 0) (da_cons (d_var 3) da_nil))) (da_cons (c_call (g_row_number T) hK (hr.mono (by decide)) (da_cons (d_var 1) (da_cons (d_var 3) da_nil))) da_nil)))))) da_nil))))), fun rs P h => ?_⟩)
  · rintro rs P ⟨l, m, rfl, _⟩; rfl
  · obtain ⟨l, m, rfl, hl, hm, bl, bm, hP⟩ := h
    walk_at "st"
    have e1 : gMax ((l.map encN).length : Int) ((m.map encN).length : Int) = ((max l.length m.length : Nat) : Int) := by
      unfold gMax
      rw [List.length_map, List.length_map]
      split <;> omega
    have hx : max l.length m.length ≤ 400 := Nat.max_le.mpr ⟨hl, hm⟩
    refine ⟨rfl, ?_, ?_, ?_⟩
    · show -1000 ≤ gMax ((l.map encN).length : Int) ((m.map encN).length : Int)
      rw [e1]; omega
    · show gMax ((l.map encN).length : Int) ((m.map encN).length : Int) ≤ 1000
      rw [e1]; omega
    show lcRun 3 fYes _ _ _ (rgD (gMax ((l.map encN).length : Int) ((m.map encN).length : Int)).toNat) []
    rw [e1, Int.toNat_natCast]
    refine lc_map (f := fun k => encN ((sr l).c k + (sr m).c k)) (fun k hk PP hp => ?_) (by rw [List.length_range]; omega) ?_
    · exact ⟨l, k, rfl, m, k, rfl, _, _, rfl, bl k, bm k, hp⟩
    · rw [map_toL]
      refine ⟨_, rfl, fun r hr e => hP r hr ?_⟩
      rw [e]
      exact sr_toL (f := sr l + sr m) (((dl_sr l).mono (Nat.le_max_left ..)).add ((dl_sr m).mono (Nat.le_max_right ..)))

theorem g_row_minus : Good P w K mg base 4 "row_minus" ["row", "other"] sp_row_minus := by
  refine good_mk (T.defs ("row_minus", 32) (by decide)) sc_row_minus (fun _ _ _ _ _ _ us hl => match us, hl with | [_, _], _ => rfl) ?_ (fun cdv A outer s H E B f hK hr => ⟨_, (s_cons (s_set 2 sc_row_minus.nd (d_callB (call_max2 rfl) cd_max (by rfl) T.max_ (by decide +kernel) (da_cons (d_callB call_len_seq (cd_len hK) (by rfl) T.len_ (by decide +kernel) (da_cons (d_var 0) da_nil)) (da_cons (d_callB call_len_seq (cd_len hK) (by rfl) T.len_ (by decide +kernel) (da_cons (d_var 1) da_nil)) da_nil))))
    (s_one (s_ret (c_call (g_row_trimmed T) hK (hr.mono (by decide)) (da_cons (d_frz (d_lc 3 sc_row_minus.nd (i_range1 (by rfl) T.range_ (da_cons (d_var 2) da_nil)) (blkOk_by (by rfl)) (fun _ _ _ _ _ => pg_name (i := 3) sc_row_minus.nd rfl (Or.inl rfl)) (fun _ _ _ _ _ => (c_call (g_num_less T) hK (hr.mono (by decide)) (da_cons (c_call (g_row_number T) hK (hr.mono (by decide)) (da_cons (d_var 0) (da_cons (d_var 3) da_nil))) (da_cons (c_call (g_row_number T) hK (hr.mono (by decide)) (da_cons (d_var 1) (da_cons (d_var 3) da_nil))) da_nil)))))) da_nil))))), fun rs P h => ?_⟩)
  · rintro rs P ⟨l, m, rfl, _⟩; rfl
  · obtain ⟨l, m, rfl, hl, hm, bl, bm, hP⟩ := h
    walk_at "st"
    have e1 : gMax ((l.map encN).length : Int) ((m.map encN).length : Int) = ((max l.length m.length : Nat) : Int) := by
      unfold gMax
      rw [List.length_map, List.length_map]
      split <;> omega
    have hx : max l.length m.length ≤ 400 := Nat.max_le.mpr ⟨hl, hm⟩
    refine ⟨rfl, ?_, ?_, ?_⟩
    · show -1000 ≤ gMax ((l.map encN).length : Int) ((m.map encN).length : Int)
      rw [e1]; omega
    · show gMax ((l.map encN).length : Int) ((m.map encN).length : Int) ≤ 1000
      rw [e1]; omega
    show lcRun 3 fYes _ _ _ (rgD (gMax ((l.map encN).length : Int) ((m.map encN).length : Int)).toNat) []
    rw [e1, Int.toNat_natCast]
    refine lc_map (f := fun k => encN ((sr l).c k - (sr m).c k)) (fun k hk PP hp => ?_) (by rw [List.length_range]; omega) ?_
    · exact ⟨l, k, rfl, m, k, rfl, _, _, rfl, bl k, bm k, hp⟩
    · rw [map_toL]
      refine ⟨_, rfl, fun r hr e => hP r hr ?_⟩
      rw [e]
      exact sr_toL (f := sr l - sr m) (((dl_sr l).mono (Nat.le_max_left ..)).sub ((dl_sr m).mono (Nat.le_max_right ..)))

theorem g_row_scaled : Good P w K mg base 4 "row_scaled" ["row", "number"] sp_row_scaled := by
  refine good_mk (T.defs ("row_scaled", 34) (by decide)) sc_row_scaled (fun _ _ _ _ _ _ us hl => match us, hl with | [_, _], _ => rfl) ?_ (fun cdv A outer s H E B f hK hr => ⟨_, (s_one (s_ret (c_call (g_row_trimmed T) hK (hr.mono (by decide)) (da_cons (d_frz (d_lc 2 sc_row_scaled.nd (i_tup hK (d_var 0)) (blkOk_by (by rfl)) (fun _ _ _ _ _ => pg_name (i := 2) sc_row_scaled.nd rfl (Or.inl rfl)) (fun _ _ _ _ _ => (c_call (g_num_product T) hK (hr.mono (by decide)) (da_cons (d_var 2) (da_cons (d_var 1) da_nil)))))) da_nil)))), fun rs P h => ?_⟩)
  · rintro rs P ⟨l, m, rfl, _⟩; rfl
  · obtain ⟨l, x, rfl, hl, bl, bx, hP⟩ := h
    walk_at "st"
    refine ⟨rfl, ?_⟩
    refine lc_map (f := fun y => encN (y * x)) (fun y hy PP hp => ⟨_, _, rfl, bl.mem hy, bx, hp⟩) (by omega) ?_
    refine ⟨l.map fun y => y * x, by rw [List.map_map]; rfl, fun r hr e => hP r hr ?_⟩
    rw [e]
    refine Ser.ext' fun k => ?_
    rw [con_mul, sr_c, sr_c, List.getD_eq_getElem?_getD, List.getD_eq_getElem?_getD, List.getElem?_map]
    cases q : l[k]? with
    | none => show (0 : G) = x * 0; grind
    | some y => show y * x = x * y; grind
end
end K12
namespace K12
open PySem PySem.Spec PyProof.Rows L2 DL
open Ser
/-- sizes under which a product is told -/
structure TimesOk (l m : List G) : Prop where
  l1 : l.length ≤ 400
  l2 : m.length ≤ 400
  b1 : BA l
  b2 : BA m
  b3 : ∀ j k : Nat, Bd 2200 ((sr l).c j * (sr m).c k)
  b : ∀ (j k : Nat) (b : Prop) [Decidable b], j < l.length → Bd 2200 ((sr (l.take j) * sr m).c k + if b then (sr l).c j * (sr m).c (k - j) else 0)
def sp_row_times : FS := fun rs P => ∃ l m : List G, rs = [.dat (encR l), .dat (encR m)] ∧ Tr l ∧ Tr m ∧ TimesOk l m ∧ ∀ r, Tr r → sr r = sr l * sr m → P (.dat (encR r))
local macro_rules | `(tactic| walk_at "st") => `(tactic| dsimp -failIfUnchanged only [List.length_cons, List.length_nil, Nat.reduceAdd, Nat.reduceSub, rep0, repS, List.cons_append, List.nil_append, List.set_cons_zero, List.set_cons_succ, gSlot, fNext])
local macro_rules | `(tactic| walk_at "lt2") => `(tactic| first | with_reducible assumption | (with_reducible apply Lt2.mul; walk_at "lt2"; walk_at "lt2") | (with_reducible apply Lt2.neg; walk_at "lt2"))
local macro_rules | `(tactic| walk_at "cm") => `(tactic| (with_reducible apply cm; walk_at "lt2"; walk_at "lt2"; omega))
section
variable {P : Program} {w : World} {K : PySem.W.Frag} {mg : Str → Option Value} {base : Heap} (T : Txt K mg)
include T
theorem g_row_times : Good P w K mg base 4 "row_times" ["row", "other"] sp_row_times := by
  refine good_mk (T.defs ("row_times", 33) (by decide)) sc_row_times (fun _ _ _ _ _ _ us hl => match us, hl with | [_, _], _ => rfl) ?_ (fun cdv A outer s H E B f hK hr => ⟨_, (s_cons (s_if (PW.pt (d_or (d_cmpT (op_eqD (hu64 hr)) (opd_eqD hK) (d_var 0) (d_tup da_nil) (nomark _)) (d_or1 (d_cmpT (op_eqD (hu64 hr)) (opd_eqD hK) (d_var 1) (d_tup da_nil) (nomark _)))))
    (s_one (s_ret (d_tup da_nil)))
    s_nil)
    (s_cons (s_setLc 2 5 sc_row_times.nd (i_range1 (by rfl) T.range_ (da_cons (d_bin op_sub opd_I0 (d_bin op_add opd_I0 (d_callB call_len_seq (cd_len hK) (by rfl) T.len_ (by decide +kernel) (da_cons (d_var 0) da_nil)) (d_callB call_len_seq (cd_len hK) (by rfl) T.len_ (by decide +kernel) (da_cons (d_var 1) da_nil))) d_int) da_nil)) (blkOk_by (by rfl)) (fun _ _ _ _ _ => pg_name (i := 5) sc_row_times.nd rfl (Or.inl rfl)) (fun _ _ _ _ _ => (c_glob hK T.NOUGHT)) (sw_true rfl rfl rfl (by decide +kernel)))
    (s_cons (s_for (i_enumT hK (by rfl) T.enumerate_ (da_cons (d_var 0) da_nil)) (g_tup (n := 2) hK rfl (gs_cons (g_name 3 sc_row_times.nd) (gs_cons (g_name 4 sc_row_times.nd) gs_nil ae_name) ae_name) (ae_len _) (ae_find _ rfl))
    (s_one (s_for (i_enumT hK (by rfl) T.enumerate_ (da_cons (d_var 1) da_nil)) (g_tup (n := 2) hK rfl (gs_cons (g_name 6 sc_row_times.nd) (gs_cons (g_name 7 sc_row_times.nd) gs_nil ae_name) ae_name) (ae_len _) (ae_find _ rfl))
    (s_one (s_setO 2 (c_call (g_num_sum T) hK (hr.mono (by decide)) (da_cons (d_ixO hK 2 (d_bin op_add opd_I0 (d_var 3) (d_var 6))) (da_cons (c_call (g_num_product T) hK (hr.mono (by decide)) (da_cons (d_var 4) (da_cons (d_var 7) da_nil))) da_nil))) (d_bin op_add opd_I0 (d_var 3) (d_var 6)))))))
    (s_one (s_frz 2 (s_ret (c_call (g_row_trimmed T) hK (hr.mono (by decide)) (da_cons (d_var 2) da_nil)))))))), fun rs P h => ?_⟩)
  · rintro rs P ⟨l, m, rfl, _⟩; rfl
  · obtain ⟨l, m, rfl, tl, tm, ok, hP⟩ := h
    walk_at "st"
    refine ⟨lb rfl, ?_⟩
    refine eq_go ((sh_R l).shaped rfl) rfl (eqv_R0 l) ?_
    have nil : sr l = 0 ∨ sr m = 0 → P (.dat (.tuple [])) := fun e => hP [] tr_nil (by
      rw [sr_nil]
      rcases e with e | e <;> (rw [e]; grind))
    refine ⟨fun hl => ⟨fun _ => ⟨lb rfl, ?_⟩, fun z => (nomatch z)⟩, fun hl => ?_⟩
    · have : l = [] := of_decide_eq_true hl
      exact nil (.inl (by rw [this, sr_nil]))
    have hl0 : l ≠ [] := of_decide_eq_false hl
    refine ⟨lb rfl, ?_⟩
    refine eq_go ((sh_R m).shaped rfl) rfl (eqv_R0 m) ?_
    refine ⟨fun hm => ⟨lb rfl, ?_⟩, fun hm => ?_⟩
    · have : m = [] := of_decide_eq_true hm
      exact nil (.inr (by rw [this, sr_nil]))
    have hm0 : m ≠ [] := of_decide_eq_false hm
    have lp := List.length_pos_iff.mpr hl0
    have mp := List.length_pos_iff.mpr hm0
    have k1 := ok.l1
    have k2 := ok.l2
    obtain ⟨n, hn⟩ : ∃ n, n + 1 = l.length + m.length := ⟨l.length + m.length - 1, by omega⟩
    have e1 : (((l.map encN).length : Int) + ((m.map encN).length : Int)) - 1 = (n : Int) := by rw [List.length_map, List.length_map]; omega
    walk_at "st"
    refine ⟨rfl, ?_, ?_, ?_⟩
    · show -1000 ≤ (((l.map encN).length : Int) + ((m.map encN).length : Int)) - 1
      rw [e1]; omega
    · show (((l.map encN).length : Int) + ((m.map encN).length : Int)) - 1 ≤ 1000
      rw [e1]; omega
    show lcRun 5 fYes _ _ _ (rgD ((((l.map encN).length : Int) + ((m.map encN).length : Int)) - 1).toNat) []
    rw [e1, Int.toNat_natCast]
    refine lc_map (f := fun _ => encN 0) (fun k hk PP hp => hp) (by rw [List.length_range]; omega) ?_
    rw [map_toL (f := fun _ => 0)]
    walk_at "st"
    show forRun _ _ _ (enD 0 (l.map encN)) _
    rw [enD_0]
    refine for_inv (fun j ρ => ∃ (f : Nat → G) (a b c d e : Sl), ρ = [.dat (encR l), .dat (encR m), .own ((toL n f).map encN), a, b, c, d, e] ∧ ∀ k, k < n → f k = (sr (l.take j) * sr m).c k) ⟨_, _, _, _, _, _, rfl, fun k hk => ?_⟩ (fun j a ρ' ha hI D hrt hnx hct => ?_) fun ρ' hI => ?_
    · rw [sr_take_0, show (0 : Ser) * sr m = 0 by grind, zero_c]
    · obtain ⟨f, s1, s2, s3, s4, s5, rfl, hf⟩ := hI
      obtain ⟨rfl, hj⟩ := range_get ha
      refine ⟨rfl, ?_⟩
      walk_at "st"
      show forRun _ _ _ (enD 0 (m.map encN)) _
      rw [enD_0]
      refine for_inv (fun t ρ => ∃ (f : Nat → G) (c d e : Sl), ρ = [.dat (encR l), .dat (encR m), .own ((toL n f).map encN), .dat (.int (a : Int)), .dat (encN ((sr l).c a)), c, d, e] ∧ ∀ k, k < n → f k = (sr (l.take a) * sr m).c k + if a ≤ k ∧ k < a + t then (sr l).c a * (sr m).c (k - a) else 0) ⟨f, _, _, _, rfl, fun k hk => ?_⟩ (fun t b ρ' hb hI D' hrt' hnx' hct' => ?_) fun ρ' hI => ?_
      · rw [hf k hk, if_neg (by omega)]; grind
      · obtain ⟨f', u1, u2, u3, rfl, hf'⟩ := hI
        obtain ⟨rfl, hb2⟩ := range_get hb
        refine ⟨rfl, ?_⟩
        walk_at "st"
        have hat : a + b < n := by omega
        have ei : ((a : Int) + (b : Int)) = ((a + b : Nat) : Int) := by omega
        refine at_go (d := encN (f' (a + b))) (by rw [ei]; exact atI_toL hat) ?_
        refine ⟨_, _, rfl, ?_, ok.b2 b, ?_⟩
        · exact ok.b1 a
        refine ⟨_, _, rfl, ?_, ?_, ?_⟩
        · rw [hf' _ hat]
          exact ok.b a (a + b) _ hj
        · exact ok.b3 a b
        refine j_go (j := a + b) (by rw [ei, List.length_map, toL_len]; exact ixN_nat hat) ?_
        walk_at "st"
        rw [setL]
        refine hnx' _ ⟨_, _, _, _, rfl, fun k hk => ?_⟩
        show (if k = a + b then f' (a + b) + (sr l).c a * (sr m).c b else f' k) = _
        by_cases q : k = a + b
        · subst q
          rw [if_pos rfl, hf' _ hk, if_neg (by omega), if_pos (by omega), show a + b - a = b by omega]; grind
        · rw [if_neg q, hf' _ hk]
          by_cases q2 : a ≤ k ∧ k < a + b
          · rw [if_pos q2, if_pos (by omega)]
          · rw [if_neg q2, if_neg (by omega)]
      · obtain ⟨f', u1, u2, u3, rfl, hf'⟩ := hI
        refine hnx _ ⟨_, _, _, _, _, _, rfl, fun k hk => ?_⟩
        rw [hf' k hk, sr_take, show (sr (l.take a) + mono a ((sr l).c a)) * sr m = sr (l.take a) * sr m + mono a ((sr l).c a) * sr m by grind, add_c, mono_mul]
        rw [List.length_range]
        by_cases q : a ≤ k
        · rw [if_pos q]
          by_cases q2 : k < a + m.length
          · rw [if_pos ⟨q, q2⟩]
          · rw [if_neg (by omega), sr_ge (l := m) (by omega)]; grind
        · rw [if_neg q, if_neg (by omega)]
    · obtain ⟨f, s1, s2, s3, s4, s5, rfl, hf⟩ := hI
      rw [List.length_range] at hf
      walk_at "st"
      refine ⟨_, rfl, fun r hr e => hP r hr ?_⟩
      rw [e, toL_congr (g := (sr l * sr m).c) (fun k hk => by rw [hf k hk, sr_take_all])]
      have := (mul_top (f := sr l) (g := sr m) (n := l.length - 1) (m := m.length - 1) ((dl_sr l).mono (by omega)) ((dl_sr m).mono (by omega))).2
      exact sr_toL (this.mono (by omega))
end
end K12
namespace K12
open PySem PySem.Spec PyProof.Rows L2 DL
open Ser
def sp_row_last_one : FS := fun rs P => ∃ (l : List G) (h d : Nat), rs = [.dat (encR l)] ∧ Tr l ∧ l.length ≤ 400 ∧ Hs h d (sr l).c ∧ h + d < 2200 ∧ 2 * h < 2200 ∧ 2 * d < 2200 ∧ ∀ r, Mo r → r.length = l.length → (∃ y, y ≠ 0 ∧ sr r = con y * sr l) → Hs h h (sr r).c → P (.dat (encR r))
/-- the steps of a division -/
def stp (l m : List G) : Nat := l.length + 1 - m.length
def Rst (l m : List G) (t : Nat) : Ser := rst l.length (m.length - 1) (sr l) (sr m) t
def Qot (l m : List G) (t : Nat) : Ser := qot l.length (m.length - 1) (sr l) (sr m) t
def Qat (l m : List G) (t : Nat) : G := qAt l.length (m.length - 1) (sr m) (Rst l m t) t
/-- sizes under which a division is told -/
structure RestOk (l m : List G) : Prop where
  l1 : l.length ≤ 400
  l2 : m.length ≤ 400
  tm : Tr m
  m0 : m ≠ []
  b1 : Bd 2200 (1 / (sr m).c (m.length - 1))
  bm : BA m
  br : ∀ t k, t ≤ stp l m → Bd 2200 ((Rst l m t).c k)
  bq : ∀ t, t < stp l m → Bd 2200 (Qat l m t)
  bp : ∀ t k, t < stp l m → Bd 2200 (Qat l m t * (sr m).c k)
def sp_row_rest : FS := fun rs P => ∃ l m : List G, rs = [.dat (encR l), .dat (encR m)] ∧ RestOk l m ∧ ∀ q r, Tr q → Tr r → sr q = Qot l m (stp l m) → sr r = Rst l m (stp l m) → P (.dat (.tuple [encR q, encR r]))
theorem ixN_last {n : Nat} (h : 0 < n) : ixN n (-1) = some (n - 1) := by
  unfold ixN
  rw [if_neg (by omega), if_pos (by omega)]
  congr 1
  omega
theorem atI_lastL {n : Nat} {f : Nat → G} : atI ((toL (n + 1) f).map encN) (-1) = some (encN (f n)) := atI_last toL_last
theorem dn_eq {k : Int} {n : Nat} (h : (k + 1).toNat = n) : dnD k = (List.range n).map fun (i : Nat) => PyData.int (k - i) := by
  unfold dnD; rw [h]
theorem datAll_star {d : PyData} {ds : List PyData} : datAll (.dat d :: (ds.map Sl.dat ++ [])) = some (d :: ds) := by
  have : ∀ ds : List PyData, datAll (ds.map Sl.dat ++ []) = some ds := fun ds => by
    induction ds with
    | nil => rfl
    | cons d ds ih => rw [List.map_cons, List.cons_append, datAll, ih]; rfl
  rw [datAll, this]; rfl
theorem lst_go {qs : List Sl} {ds : List PyData} {P : Sl → Prop} (h : datAll qs = some ds) (hl : ds.length ≤ 1000) (hP : P (.own ds)) : fLstKS qs P := by
  unfold fLstKS fLstK; rw [h]; exact ⟨hl, hP⟩
theorem consL {n : Nat} {f : Nat → G} {x : G} : encN x :: (toL n f).map encN = (toL (n + 1) fun k => if k = 0 then x else f (k - 1)).map encN := by
  rw [← List.map_cons]
  congr 1
  refine List.ext_getElem? fun k => ?_
  by_cases h : k < n + 1
  · rw [toL_get (f := fun k => if k = 0 then x else f (k - 1)) h]
    cases k with
    | zero => rfl
    | succ k =>
      rw [if_neg (by omega)]
      show (toL n f)[k]? = _
      rw [toL_get (by omega)]; rfl
  · rw [List.getElem?_eq_none (by rw [List.length_cons, toL_len]; omega), List.getElem?_eq_none (by rw [toL_len]; omega)]
local macro_rules | `(tactic| walk_at "st") => `(tactic| dsimp -failIfUnchanged only [List.length_cons, List.length_nil, Nat.reduceAdd, Nat.reduceSub, rep0, repS, List.cons_append, List.nil_append, List.set_cons_zero, List.set_cons_succ, gSlot, fNext])
local macro_rules | `(tactic| walk_at "lt2") => `(tactic| first | with_reducible assumption | (with_reducible apply Lt2.mul; walk_at "lt2"; walk_at "lt2") | (with_reducible apply Lt2.neg; walk_at "lt2"))
local macro_rules | `(tactic| walk_at "cm") => `(tactic| (with_reducible apply cm; walk_at "lt2"; walk_at "lt2"; omega))
section
variable {P : Program} {w : World} {K : PySem.W.Frag} {mg : Str → Option Value} {base : Heap} (T : Txt K mg)
include T
theorem g_row_last_one : Good P w K mg base 5 "row_last_one" ["row"] sp_row_last_one := by
  refine good_mk (T.defs ("row_last_one", 37) (by decide)) sc_row_last_one (fun _ _ _ _ _ _ us hl => match us, hl with | [_], _ => rfl) ?_ (fun cdv A outer s H E B f hK hr => ⟨_, (s_one (s_ret (d_if (d_cmpT (op_eqD (hu64 hr)) (opd_eqD hK) (d_var 0) (d_tup da_nil) (nomark _)) (d_tup da_nil) (c_call (g_row_scaled T) hK (hr.mono (by decide)) (da_cons (d_var 0) (da_cons (c_call (g_num_over T) hK (hr.mono (by decide)) (da_cons (c_glob hK T.ONE) (da_cons (d_ixS hK (d_var 0) (d_un un_neg d_int)) da_nil))) da_nil)))))), fun rs P h => ?_⟩)
  · rintro rs P ⟨l, h, d, rfl, _⟩; rfl
  · obtain ⟨l, h, d, rfl, tl, k1, H, a1, a2, a3, hP⟩ := h
    obtain ⟨bl, hx, ho⟩ := last_one tl H a1 a2 a3
    walk_at "st"
    refine ⟨lb rfl, ?_⟩
    refine eq_go ((sh_R l).shaped rfl) rfl (eqv_R0 l) ?_
    refine ⟨fun hl => ⟨lb rfl, ?_⟩, fun hl => ?_⟩
    · have e : l = [] := of_decide_eq_true hl
      subst e
      refine hP [] (fun z => absurd rfl z) rfl ⟨1, fun z => absurd z (by grind), by rw [con_one]; grind⟩ ?_
      rw [sr_nil, show (0 : Ser).c = fun _ => 0 from funext zero_c]
      exact hs_zero _ _
    have hl0 : l ≠ [] := of_decide_eq_false hl
    have e := tr_last hl0
    obtain ⟨x0, x1⟩ := hx _ e
    refine at_go (atI_last e) ?_
    refine ⟨1, _, rfl, bd_one, bl _, x0, x1, ?_⟩
    refine ⟨l, _, rfl, k1, bl, x1, fun r hr e' => ?_⟩
    obtain ⟨q1, q2, q3, q4⟩ := ho _ r e hr e'
    exact hP r q3 q2 ⟨_, by grind, e'⟩ q4

theorem g_row_rest : Good P w K mg base 5 "row_rest" ["row", "other"] sp_row_rest := by
  refine good_mk (T.defs ("row_rest", 36) (by decide)) sc_row_rest (fun _ _ _ _ _ _ us hl => match us, hl with | [_, _], _ => rfl) ?_ (fun cdv A outer s H E B f hK hr => ⟨_, (s_cons (s_set 2 sc_row_rest.nd (d_callTy call_list_of (cd_list hK) (by rfl) T.list_ (by decide +kernel) (da_cons (d_var 0) da_nil)))
    (s_cons (s_set 3 sc_row_rest.nd (d_frz (d_lst da_nil)))
    (s_cons (s_set 4 sc_row_rest.nd (c_call (g_num_over T) hK (hr.mono (by decide)) (da_cons (c_glob hK T.ONE) (da_cons (d_ixS hK (d_var 1) (d_un un_neg d_int)) da_nil))))
    (s_cons (s_for (i_rangeDn (by rfl) T.range_ (da_cons (d_bin op_sub opd_I0 (d_callB call_len_seq (cd_len hK) (by rfl) T.len_ (by decide +kernel) (da_cons (d_var 0) da_nil)) (d_callB call_len_seq (cd_len hK) (by rfl) T.len_ (by decide +kernel) (da_cons (d_var 1) da_nil))) (da_cons (d_un un_neg d_int) (da_cons (d_un un_neg d_int) da_nil)))) (g_name 5 sc_row_rest.nd)
    (s_cons (s_set 6 sc_row_rest.nd (c_call (g_num_product T) hK (hr.mono (by decide)) (da_cons (d_ixO hK 2 (d_un un_neg d_int)) (da_cons (d_var 4) da_nil))))
    (s_cons (s_set 3 sc_row_rest.nd (d_frz (d_lstS (da_cons (d_var 6) (da_star hK (d_var 3) da_nil)))))
    (s_cons (s_for (i_enumT hK (by rfl) T.enumerate_ (da_cons (d_var 1) da_nil)) (g_tup (n := 2) hK rfl (gs_cons (g_name 7 sc_row_rest.nd) (gs_cons (g_name 8 sc_row_rest.nd) gs_nil ae_name) ae_name) (ae_len _) (ae_find _ rfl))
    (s_one (s_setO 2 (c_call (g_num_less T) hK (hr.mono (by decide)) (da_cons (d_ixO hK 2 (d_bin op_add opd_I0 (d_var 5) (d_var 7))) (da_cons (c_call (g_num_product T) hK (hr.mono (by decide)) (da_cons (d_var 6) (da_cons (d_var 8) da_nil))) da_nil))) (d_bin op_add opd_I0 (d_var 5) (d_var 7)))))
    (s_one (s_popO 2 hK))))))
    (s_one (s_frz 2 (s_ret (d_tup (da_cons (c_call (g_row_trimmed T) hK (hr.mono (by decide)) (da_cons (d_var 3) da_nil)) (da_cons (c_call (g_row_trimmed T) hK (hr.mono (by decide)) (da_cons (d_var 2) da_nil)) da_nil)))))))))), fun rs P h => ?_⟩)
  · rintro rs P ⟨l, m, rfl, _⟩; rfl
  · obtain ⟨l, m, rfl, ok, hP⟩ := h
    walk_at "st"
    refine ⟨lb rfl, ?_⟩
    have mp := List.length_pos_iff.mpr ok.m0
    have k1 := ok.l1
    have k2 := ok.l2
    have hx := ok.tm.dg ok.m0
    refine at_go (atI_last (tr_last ok.m0)) ?_
    refine ⟨1, _, rfl, bd_one, ok.bm _, hx.1, ok.b1, ?_⟩
    walk_at "st"
    have e0 : ((l.map encN).length : Int) - ((m.map encN).length : Int) = (l.length : Int) - m.length := by rw [List.length_map, List.length_map]
    have e1 : ((l.length : Int) - m.length + 1).toNat = stp l m := by unfold stp; omega
    refine ⟨rfl, rfl, ?_, ?_, ?_⟩
    · show -1000 ≤ ((l.map encN).length : Int) - ((m.map encN).length : Int)
      rw [e0]; omega
    · show ((l.map encN).length : Int) - ((m.map encN).length : Int) ≤ 1000
      rw [e0]; omega
    show forRun _ _ _ (dnD (((l.map encN).length : Int) - ((m.map encN).length : Int))) _
    rw [e0, dn_eq e1]
    refine for_inv (fun t ρ => ∃ (f : Nat → G) (a b c d : Sl), ρ = [.dat (encR l), .dat (encR m), .own ((toL (l.length - t) f).map encN), .dat (.list ((toL t fun j => Qat l m (t - 1 - j)).map encN)), .dat (encN (1 / (sr m).c (m.length - 1))), a, b, c, d] ∧ ∀ k, k < l.length - t → f k = (Rst l m t).c k) ⟨(sr l).c, .un, .un, .un, .un, ?_, fun k hk => rfl⟩ (fun t a ρ' ha hI D hrt hnx hct => ?_) fun ρ' hI => ?_
    · rw [Nat.sub_zero, toL_self]; rfl
    · obtain ⟨f, s1, s2, s3, s4, rfl, hf⟩ := hI
      obtain ⟨rfl, ha2⟩ := range_get ha
      have hst : stp l m = l.length + 1 - m.length := rfl
      obtain ⟨n1, hn1⟩ : ∃ n1, l.length - a = n1 + 1 := ⟨l.length - a - 1, by omega⟩
      obtain ⟨st, hs⟩ : ∃ st, st + m.length + a = l.length := ⟨l.length - m.length - a, by omega⟩
      have es : ((l.length : Int) - m.length - a) = (st : Int) := by omega
      rw [hn1] at hf ⊢
      have en : n1 = l.length - 1 - a := by omega
      have hfn : f n1 = (Rst l m a).c n1 := hf n1 (by omega)
      have hq : f n1 * (1 / (sr m).c (m.length - 1)) = Qat l m a := by
        unfold Qat qAt
        rw [hfn, en]; grind
      walk_at "st"
      refine at_go (d := encN (f n1)) atI_lastL ?_
      refine ⟨_, _, rfl, ?_, ok.b1, ?_⟩
      · rw [hfn]; exact ok.br a n1 (by omega)
      rw [hq]
      walk_at "st"
      refine lst_go datAll_star ?_ ?_
      · rw [List.length_cons, List.length_map, toL_len]; omega
      rw [consL]
      walk_at "st"
      show forRun _ _ _ (enD 0 (m.map encN)) _
      rw [enD_0]
      have ef : (toL (a + 1) fun k => if k = 0 then Qat l m a else Qat l m (a - 1 - (k - 1))) = toL (a + 1) fun j => Qat l m (a + 1 - 1 - j) := toL_congr fun k hk => by
        by_cases q : k = 0
        · subst q; rw [if_pos rfl]; rfl
        · rw [if_neg q, show a - 1 - (k - 1) = a + 1 - 1 - k by omega]
      have hrc : ∀ k, (Rst l m (a + 1)).c k = (Rst l m a).c k - Qat l m a * (if st ≤ k then (sr m).c (k - st) else 0) := fun k => by
        have := rst_c l.length (m.length - 1) (sr l) (sr m) a k
        rw [show l.length - 1 - a - (m.length - 1) = st by omega] at this
        exact this
      refine for_inv (fun t ρ => ∃ (g : Nat → G) (c d : Sl), ρ = [.dat (encR l), .dat (encR m), .own ((toL (n1 + 1) g).map encN), .dat (.list ((toL (a + 1) fun j => Qat l m (a + 1 - 1 - j)).map encN)), .dat (encN (1 / (sr m).c (m.length - 1))), .dat (.int (st : Int)), .dat (encN (Qat l m a)), c, d] ∧ ∀ k, k < n1 + 1 → g k = (Rst l m a).c k - Qat l m a * (if st ≤ k ∧ k < st + t then (sr m).c (k - st) else 0)) ⟨f, s3, s4, ?_, fun k hk => ?_⟩ (fun t b ρ' hb hI D' hrt' hnx' hct' => ?_) fun ρ' hI => ?_
      · rw [ef, es]; rfl
      · rw [hf k hk, if_neg (by omega)]; grind
      · obtain ⟨g, u1, u2, rfl, hg⟩ := hI
        obtain ⟨rfl, hb2⟩ := range_get hb
        refine ⟨rfl, ?_⟩
        walk_at "st"
        have hat : st + b < n1 + 1 := by omega
        have ei : ((st : Int) + (b : Int)) = ((st + b : Nat) : Int) := by omega
        refine at_go (d := encN (g (st + b))) (by rw [ei]; exact atI_toL hat) ?_
        refine ⟨_, _, rfl, ok.bq a (by omega), ok.bm b, ?_⟩
        refine ⟨_, _, rfl, ?_, ok.bp a b (by omega), ?_⟩
        · rw [hg _ hat, if_neg (by omega), show ∀ x y : G, x - y * 0 = x by intro x y; grind]
          exact ok.br a _ (by omega)
        refine j_go (j := st + b) (by rw [ei, List.length_map, toL_len]; exact ixN_nat hat) ?_
        walk_at "st"
        rw [setL]
        refine hnx' _ ⟨_, _, _, rfl, fun k hk => ?_⟩
        show (if k = st + b then g (st + b) - Qat l m a * (sr m).c b else g k) = _
        by_cases q : k = st + b
        · subst q
          rw [if_pos rfl, hg _ hk, if_neg (by omega), if_pos (by omega), show st + b - st = b by omega]; grind
        · rw [if_neg q, hg _ hk]
          by_cases q2 : st ≤ k ∧ k < st + b
          · rw [if_pos q2, if_pos (by omega)]
          · rw [if_neg q2, if_neg (by omega)]
      · obtain ⟨g, u1, u2, rfl, hg⟩ := hI
        rw [List.length_range] at hg
        walk_at "st"
        refine ⟨by rw [toL, List.map_map, List.range_succ]; simp, ?_⟩
        rw [← List.map_dropLast, toL_dropLast]
        refine hnx _ ⟨g, .dat (.int (st : Int)), .dat (encN (Qat l m a)), u1, u2, ?_, fun k hk => ?_⟩
        · rw [show l.length - (a + 1) = n1 by omega]; rfl
        · rw [hg k (by omega), hrc k]
          by_cases q : st ≤ k
          · rw [if_pos q, if_pos ⟨q, by omega⟩]
          · rw [if_neg q, if_neg (by omega)]
    · obtain ⟨f, s1, s2, s3, s4, rfl, hf⟩ := hI
      rw [List.length_range] at hf ⊢
      walk_at "st"
      refine ⟨_, rfl, fun q hq e => ⟨_, rfl, fun r hr e' => ⟨lb rfl, ?_⟩⟩⟩
      refine hP q r hq hr ?_ ?_
      · rw [e]
        have hst : stp l m = l.length + 1 - m.length := rfl
        by_cases h0 : stp l m = 0
        · rw [h0]
          exact sr_nil
        · have hle : stp l m + (m.length - 1) ≤ l.length := by omega
          refine Ser.ext' fun k => ?_
          show _ = (qot l.length (m.length - 1) (sr l) (sr m) (stp l m)).c k
          rw [qot_c _ hle]
          by_cases hk : k < stp l m
          · rw [toL_c hk, if_pos (by omega), show l.length - (m.length - 1) - 1 - k = stp l m - 1 - k by omega]; rfl
          · rw [toL_ge (by omega), if_neg (by omega)]
      · rw [e', toL_congr (g := (Rst l m (stp l m)).c) (fun k hk => hf k hk)]
        refine sr_toL ?_
        have hst : stp l m = l.length + 1 - m.length := rfl
        by_cases h0 : stp l m = 0
        · rw [h0]; exact dl_sr l
        · exact rst_dl (dl_sr l) hx _ (by omega)
end
end K12
namespace K12
open PySem PySem.Spec PyProof.Rows L2 DL
open Ser
def szP (la ha da lb hb : Nat) : Bool := decide (la ≤ 400) && decide (lb ≤ 400) && decide (2 * hb < 2200) && (if lb = 1 then decide (ha + hb + (da + hb) < 2200) && decide (2 * (da + hb) < 2200) else decide (ha + (la + 1 - lb) * (hb + 1) + (da + (la + 1 - lb) * hb) < 2200) && decide (2 * (da + (la + 1 - lb) * hb) < 2200))
def nxH (la ha lb hb : Nat) : Nat := if lb = 1 then 0 else ha + (la + 1 - lb) * (hb + 1)
def nxD (la da lb hb : Nat) : Nat := if lb = 1 then 0 else da + (la + 1 - lb) * hb
theorem le_mul_of {a b c : Nat} (h : a ≤ b) : a * c ≤ b * c := Nat.mul_le_mul_right _ h
theorem rest_ok {l m : List G} {ha da hb : Nat} (Hl : Hs ha da (sr l).c) (Hm : Hs hb hb (sr m).c) (mo : Mo m) (m0 : m ≠ []) (hz : szP l.length ha da m.length hb = true) : RestOk l m := by
  have mp := List.length_pos_iff.mpr m0
  unfold szP at hz
  simp only [Bool.and_eq_true, decide_eq_true_eq] at hz
  obtain ⟨⟨⟨z1, z2⟩, z3⟩, z4⟩ := hz
  have tm := mo.tr
  have hx := tm.dg m0
  have lead := mo m0
  have e1 : (1 : G) / 1 = 1 := by grind
  have bm : BA m := fun k => (Hm.at k).bd (by omega) (by omega)
  have hq : ∀ t, Qat l m t = (Rst l m t).c (l.length - 1 - t) := fun t => by
    unfold Qat qAt
    rw [lead]; grind
  by_cases h1 : m.length = 1
  · rw [if_pos h1] at z4
    simp only [Bool.and_eq_true, decide_eq_true_eq] at z4
    obtain ⟨z4, z5⟩ := z4
    have e0 : m.length - 1 = 0 := by omega
    have hr : ∀ t, Hs ha da (Rst l m t).c := fun t => by
      unfold Rst
      rw [e0] at hx ⊢
      exact hs_rst0 Hl hx t
    refine ⟨z1, z2, tm, m0, by rw [lead, e1]; exact bd_one, bm, fun t k ht => ((hr t).at k).bd (by omega) (by omega), fun t ht => ?_, fun t k ht => ?_⟩
    · rw [hq]; exact ((hr t).at _).bd (by omega) (by omega)
    · rw [hq]
      exact (((hr t).at _).mul (Hm.at k)).bd (by omega) (by omega)
  · rw [if_neg h1] at z4
    simp only [Bool.and_eq_true, decide_eq_true_eq] at z4
    obtain ⟨z4, z5⟩ := z4
    have hr : ∀ t, Hs (ha + t * (hb + 1)) (da + t * hb) (Rst l m t).c := fun t => hs_rst Hl Hm hx.1 t
    have hst : stp l m = l.length + 1 - m.length := rfl
    rw [← hst] at z4 z5
    have mul1 : ∀ t, t ≤ stp l m → t * (hb + 1) ≤ stp l m * (hb + 1) ∧ t * hb ≤ stp l m * hb := fun t ht => ⟨le_mul_of ht, le_mul_of ht⟩
    refine ⟨z1, z2, tm, m0, by rw [lead, e1]; exact bd_one, bm, fun t k ht => ?_, fun t ht => ?_, fun t k ht => ?_⟩
    · obtain ⟨a1, a2⟩ := mul1 t ht
      exact ((hr t).at k).bd (by omega) (by omega)
    · obtain ⟨a1, a2⟩ := mul1 t (by omega)
      rw [hq]; exact ((hr t).at _).bd (by omega) (by omega)
    · obtain ⟨a1, a2⟩ := mul1 (t + 1) (by omega)
      rw [Nat.succ_mul] at a1
      rw [Nat.succ_mul] at a2
      rw [hq]
      exact (((hr t).at _).mul (Hm.at k)).bd (by omega) (by omega)
/-- the rest's height -/
theorem rest_hs {l m r : List G} {ha da hb : Nat} (Hl : Hs ha da (sr l).c) (Hm : Hs hb hb (sr m).c) (tm : Tr m) (m0 : m ≠ []) (tr : Tr r) (e : sr r = Rst l m (stp l m)) : r.length < m.length ∧ Hs (nxH l.length ha m.length hb) (nxD l.length da m.length hb) (sr r).c := by
  have mp := List.length_pos_iff.mpr m0
  have hx := tm.dg m0
  have hst : stp l m = l.length + 1 - m.length := rfl
  have hl : r.length < m.length := by
    have : r.length ≤ m.length - 1 := by
      refine tr.len_le ?_
      rw [e]
      by_cases h0 : stp l m = 0
      · rw [h0]; exact (dl_sr l).mono (by omega)
      · exact (rst_dl (dl_sr l) hx (stp l m) (by omega)).mono (by omega)
    omega
  refine ⟨hl, ?_⟩
  unfold nxH nxD
  by_cases h1 : m.length = 1
  · have : r = [] := List.length_eq_zero_iff.mp (by omega)
    subst this
    rw [sr_nil, show (0 : Ser).c = fun _ => 0 from funext zero_c]
    exact hs_zero _ _
  · rw [if_neg h1, if_neg h1, e]
    exact hs_rst Hl Hm hx.1 (stp l m)
def chkP (fin : Nat → Nat → Bool) : Nat → Nat → Nat → Nat → Nat → Bool
  | 0, _, _, _, _ => false
  | n + 1, la, ha, lb, hb => if lb = 0 then fin la ha else szP la ha ha lb hb && decide (nxH la ha lb hb + nxD la ha lb hb < 2200) && decide (2 * nxH la ha lb hb < 2200) && decide (2 * nxD la ha lb hb < 2200) && (List.range lb).all fun lc => chkP fin n lb hb lc (nxH la ha lb hb)
/-- sizes under which a divisor is told -/
structure DivOk (fin : Nat → Nat → Bool) (l m : List G) : Prop where
  ex : ∃ n h d h' d', Tr l ∧ Tr m ∧ m ≠ [] ∧ l.length ≤ 400 ∧ m.length ≤ 400 ∧ Hs h d (sr l).c ∧ Hs h' d' (sr m).c ∧ h + d < 2200 ∧ 2 * h < 2200 ∧ 2 * d < 2200 ∧ h' + d' < 2200 ∧ 2 * h' < 2200 ∧ 2 * d' < 2200 ∧ chkP fin n l.length h m.length h' = true
def sp_row_divisor : FS := fun rs P => ∃ (l m : List G) (fin : Nat → Nat → Bool), rs = [.dat (encR l), .dat (encR m)] ∧ DivOk fin l m ∧ ∀ g h, Mo g → g ≠ [] → Gcd (sr g) (sr l) (sr m) → Hs h h (sr g).c → fin g.length h = true → P (.dat (encR g))
local macro_rules | `(tactic| walk_at "st") => `(tactic| dsimp -failIfUnchanged only [List.length_cons, List.length_nil, Nat.reduceAdd, Nat.reduceSub, rep0, repS, List.cons_append, List.nil_append, List.set_cons_zero, List.set_cons_succ, gSlot, fNext])
local macro_rules | `(tactic| walk_at "lt2") => `(tactic| first | with_reducible assumption | (with_reducible apply Lt2.mul; walk_at "lt2"; walk_at "lt2") | (with_reducible apply Lt2.neg; walk_at "lt2"))
local macro_rules | `(tactic| walk_at "cm") => `(tactic| (with_reducible apply cm; walk_at "lt2"; walk_at "lt2"; omega))
section
variable {P : Program} {w : World} {K : PySem.W.Frag} {mg : Str → Option Value} {base : Heap} (T : Txt K mg)
include T
theorem g_row_divisor : Good P w K mg base 6 "row_divisor" ["row", "other"] sp_row_divisor := by
  refine good_mk (T.defs ("row_divisor", 38) (by decide)) sc_row_divisor (fun _ _ _ _ _ _ us hl => match us, hl with | [_, _], _ => rfl) ?_ (fun cdv A outer s H E B f hK hr => ⟨_, (s_cons (s_par 2 3 sc_row_divisor.nd (da_cons (c_call (g_row_last_one T) hK (hr.mono (by decide)) (da_cons (d_var 0) da_nil)) (da_cons (c_call (g_row_last_one T) hK (hr.mono (by decide)) (da_cons (d_var 1) da_nil)) da_nil)))
    (s_cons (s_while (d_cmpT (op_neD (hu64 hr)) (opd_neD hK) (d_var 3) (d_tup da_nil) (nomark _))
    (s_one (s_par 2 3 sc_row_divisor.nd (da_cons (d_var 3) (da_cons (c_call (g_row_last_one T) hK (hr.mono (by decide)) (da_cons (d_ix hK (c_call (g_row_rest T) hK (hr.mono (by decide)) (da_cons (d_var 2) (da_cons (d_var 3) da_nil))) d_int) da_nil)) da_nil)))))
    (s_one (s_ret (d_var 2))))), fun rs P h => ?_⟩)
  · rintro rs P ⟨l, m, fin, rfl, _⟩; rfl
  · obtain ⟨l, m, fin, rfl, ⟨n0, h, d, h', d', tl, tm, m0, l1, l2, Hl, Hm, a1, a2, a3, b1, b2, b3, hc⟩, hP⟩ := h
    walk_at "st"
    refine ⟨_, _, _, rfl, tl, l1, Hl, a1, a2, a3, fun a ma la ⟨ya, ya0, ea⟩ Ha => ?_⟩
    refine ⟨_, _, _, rfl, tm, l2, Hm, b1, b2, b3, fun b mb lb' ⟨yb, yb0, eb⟩ Hb => ?_⟩
    walk_at "st"
    refine ⟨fun k ρ => ∃ (a b : List G) (ha hb n : Nat), k = b.length ∧ ρ = [.dat (encR l), .dat (encR m), .dat (encR a), .dat (encR b)] ∧ Mo a ∧ Mo b ∧ Hs ha ha (sr a).c ∧ Hs hb hb (sr b).c ∧ chkP fin n a.length ha b.length hb = true ∧ (∀ g, Gcd g (sr a) (sr b) → Gcd g (sr l) (sr m)) ∧ (a ≠ [] ∨ b ≠ []), ⟨_, a, b, h, h', n0, rfl, rfl, ma, mb, Ha, Hb, ?_, fun g hg => ?_, .inr ?_⟩, ?_⟩
    · rw [la, lb']; exact hc
    · rw [ea, eb] at hg
      exact hg.scale ya0 yb0
    · intro z
      rw [z] at lb'
      exact m0 (List.length_eq_zero_iff.mp lb'.symm)
    rintro k ρ ⟨a, b, ha, hb, n, rfl, rfl, ma, mb, Ha, Hb, hc, hg, hne⟩
    refine ⟨lb rfl, ?_⟩
    refine ne_go ((sh_R b).shaped rfl) rfl (eqv_R0 b) ?_
    refine ⟨fun hb0 => ?_, fun hb0 => ?_⟩
    · have b0 : b ≠ [] := fun z => by
        rw [z] at hb0
        exact nomatch hb0
      have bp := List.length_pos_iff.mpr b0
      cases n with
      | zero => exact nomatch hc
      | succ n =>
        unfold chkP at hc
        rw [if_neg (by omega)] at hc
        simp only [Bool.and_eq_true, decide_eq_true_eq, List.all_eq_true, List.mem_range] at hc
        obtain ⟨⟨⟨⟨z1, z2⟩, z3⟩, z4⟩, z5⟩ := hc
        have ok := rest_ok Ha Hb mb b0 z1
        walk_at "st"
        refine ⟨_, _, rfl, ok, fun q r tq tr eq er => ?_⟩
        obtain ⟨rl, Hr⟩ := rest_hs Ha Hb mb.tr b0 tr er
        have k2 := ok.l2
        refine ⟨_, _, _, rfl, tr, by omega, Hr, z2, z3, z4, fun c mc lc ⟨yc, yc0, ec⟩ Hc => ?_⟩
        walk_at "st"
        refine ⟨_, by omega, b, c, hb, _, n, rfl, rfl, mb, mc, Hb, Hc, ?_, fun g hg' => hg g ?_, .inl b0⟩
        · rw [lc]; exact z5 _ rl
        · rw [ec] at hg'
          have hg2 : Gcd g (sr b) (sr r) := by
            have one : con 1 * sr b = sr b := by rw [con_one]; grind
            exact Gcd.scale (x := 1) (y := yc) (by intro z; grind) yc0 (by rw [one]; exact hg')
          refine Gcd.step (q := sr q) (by rw [eq]; exact isP_qot _ _ _ _ _) ?_ hg2
          rw [eq, er]
          exact rst_eq _ _ _ _ _
    · have b0 : b = [] := Decidable.byContradiction fun z => by
        rw [decide_eq_false z] at hb0
        exact nomatch hb0
      subst b0
      have a0 : a ≠ [] := hne.resolve_right fun z => z rfl
      cases n with
      | zero => exact nomatch hc
      | succ n =>
        unfold chkP at hc
        rw [if_pos List.length_nil] at hc
        refine hP a ha ma a0 (hg _ ?_) Ha hc
        rw [sr_nil]
        exact Gcd.base (isP_sr a)
end
end K12
namespace K12
open PySem PySem.Spec PyProof.Rows L2 DL
open Ser
def finQ (l1 h1 d1 l2 h2 d2 : Nat) (lg hg : Nat) : Bool :=
  if lg ≤ 1 then decide (h1 + d2 + (d1 + h2) < 1900) && decide (2 * (d1 + h2) < 1900) && decide (2 * h2 < 1900)
  else szP l1 h1 d1 lg hg && szP l2 h2 d2 lg hg && decide (h1 + (l1 - lg) * (hg + 1) + (d1 + (l1 - lg) * hg) < 2200) && decide (2 * (d1 + (l1 - lg) * hg) < 2200)
    && decide (h2 + (l2 - lg) * (hg + 1) + (d2 + (l2 - lg) * hg) < 2200) && decide (2 * (d2 + (l2 - lg) * hg) < 2200) && decide (2 * (h2 + (l2 - lg) * (hg + 1)) < 1900)
    && decide (h1 + (l1 - lg) * (hg + 1) + d2 + (l2 - lg - (l1 - lg)) * hg + (d1 + (l1 - lg - (l2 - lg)) * hg + (h2 + (l2 - lg) * (hg + 1))) < 1900) && decide (2 * (d1 + (l1 - lg - (l2 - lg)) * hg + (h2 + (l2 - lg) * (hg + 1))) < 1900)
def BN (l : List G) : Prop := ∀ k, Bd 1900 ((sr l).c k)
/-- sizes under which a reducing is told -/
structure QrOk (l m : List G) : Prop where
  ex : ∃ n h d h' d', Tr l ∧ Tr m ∧ m ≠ [] ∧ l.length ≤ 400 ∧ m.length ≤ 400 ∧ Hs h d (sr l).c ∧ Hs h' d' (sr m).c ∧ h + d < 2200 ∧ 2 * h < 2200 ∧ 2 * d < 2200 ∧ h' + d' < 2200 ∧ 2 * h' < 2200 ∧ 2 * d' < 2200 ∧ chkP (finQ l.length h d m.length h' d') n l.length h m.length h' = true
def sp_quote_reduced : FS := fun rs P => ∃ l m : List G, rs = [.dat (encR l), .dat (encR m)] ∧ QrOk l m ∧ (NoRed (sr l) (sr m) → P (.dat .none)) ∧ ∀ t u, Red (sr l) (sr m) t u → BN t → BN u → P (.dat (encQ (t, u)))
/-- the pair once the common part is out -/
structure Aft (l m t u : List G) : Prop where
  tt : Tr t
  tu : Tr u
  u0 : u ≠ []
  l1 : t.length ≤ 400
  l2 : u.length ≤ 400
  ga : ∃ γ, IsP γ ∧ γ ≠ 0 ∧ sr l = sr t * γ ∧ sr m = sr u * γ
  cop : Cop (sr t) (sr u)
  bt : BA t
  bu : BA u
  bi : (sr u).c 0 ≠ 0 → Bd 2200 (1 / (sr u).c 0)
  ht : (sr u).c 0 ≠ 0 → ∀ k, Bd 1900 (1 / (sr u).c 0 * (sr t).c k)
  hu : (sr u).c 0 ≠ 0 → ∀ k, Bd 1900 (1 / (sr u).c 0 * (sr u).c k)
theorem Aft.no {l m t u : List G} (a : Aft l m t u) (h : (sr u).c 0 = 0) : NoRed (sr l) (sr m) := by
  obtain ⟨γ, g1, g2, e1, e2⟩ := a.ga
  exact ⟨sr t, sr u, isP_sr t, isP_sr u, a.tu.ne a.u0, a.cop, h, by rw [e1, e2]; grind⟩
theorem Aft.red {l m t u : List G} (a : Aft l m t u) (h : (sr u).c 0 ≠ 0) {t' u' : List G} (tt : Tr t') (tu : Tr u') (e1 : sr t' = con (1 / (sr u).c 0) * sr t) (e2 : sr u' = con (1 / (sr u).c 0) * sr u) : Red (sr l) (sr m) t' u' ∧ BN t' ∧ BN u' := by
  obtain ⟨γ, g1, g2, f1, f2⟩ := a.ga
  obtain ⟨s, r, hs, hr, e⟩ := a.cop
  refine ⟨⟨tt, tu, ?_, ⟨s * con ((sr u).c 0), r * con ((sr u).c 0), isP_mul hs (isP_con _), isP_mul hr (isP_con _), ?_⟩, ?_⟩, fun k => ?_, fun k => ?_⟩
  · rw [e2, con_mul]; grind
  · rw [e1, e2]
    have := con_inv h
    grind
  · rw [e1, e2, f1, f2]; grind
  · rw [e1, con_mul]; exact a.ht h k
  · rw [e2, con_mul]; exact a.hu h k
theorem aft_one {l m g : List G} {h d h' d' : Nat} (tl : Tr l) (tm : Tr m) (m0 : m ≠ []) (l1 : l.length ≤ 400) (l2 : m.length ≤ 400) (Hl : Hs h d (sr l).c) (Hm : Hs h' d' (sr m).c) (a1 : h + d < 2200) (a3 : 2 * d < 2200) (b1 : h' + d' < 2200) (b2 : 2 * h' < 2200) (b3 : 2 * d' < 2200)
    (mg : Mo g) (g0 : g ≠ []) (hg : Gcd (sr g) (sr l) (sr m)) (lg : g.length ≤ 1) (c1 : h + d' + (d + h') < 1900) (c2 : 2 * (d + h') < 1900) (c3 : 2 * h' < 1900) : Aft l m l m := by
  have hg1 : sr g = 1 := by
    have gp := List.length_pos_iff.mpr g0
    have dg := mg.tr.dg g0
    refine Ser.ext' fun k => ?_
    cases k with
    | zero =>
      have := mg g0
      rw [show g.length - 1 = 0 by omega] at this
      rw [this]; rfl
    | succ k => rw [dg.2 (k + 1) (by omega)]; rfl
  rw [hg1] at hg
  obtain ⟨_, _, _, s, t, hs, ht, e⟩ := hg
  refine ⟨tl, tm, m0, l1, l2, ⟨1, isP_one, ?_, by grind, by grind⟩, ⟨s, t, hs, ht, e⟩, fun k => (Hl.at k).bd a1 (by omega), fun k => (Hm.at k).bd b1 (by omega), fun h0 => ((Hm.at 0).inv h0).bd (by omega) (by omega), fun h0 k => ?_, fun h0 k => ?_⟩
  · intro z
    have : (1 : Ser).c 0 = (0 : Ser).c 0 := by rw [z]
    rw [one_c0, zero_c] at this
    grind
  · exact (((Hm.at 0).inv h0).mul (Hl.at k)).bd (by omega) (by omega)
  · have := (Hm.monic h0).at k
    rw [show (sr m).c k * (1 / (sr m).c 0) = 1 / (sr m).c 0 * (sr m).c k by grind] at this
    exact this.bd (by omega) (by omega)
theorem div_exact {l g : List G} {x : Ser} (mg : Mo g) (g0 : g ≠ []) (hx : IsP x) (e : sr l = x * sr g) : Qot l g (stp l g) = x := by
  have gp := List.length_pos_iff.mpr g0
  have dg := mg.tr.dg g0
  have hst : stp l g = l.length + 1 - g.length := rfl
  have hd : Dl (g.length - 1) (Rst l g (stp l g)) := by
    by_cases h0 : stp l g = 0
    · rw [h0]; exact (dl_sr l).mono (by omega)
    · exact (rst_dl (dl_sr l) dg (stp l g) (by omega)).mono (by omega)
  have e2 : sr l = Qot l g (stp l g) * sr g + Rst l g (stp l g) := rst_eq _ _ _ _ _
  exact (div_uniq (r' := 0) dg (isP_qot _ _ _ _ _) hx hd (fun k _ => zero_c k) (e2.symm.trans (by rw [e]; grind))).1
theorem len_quot {l g t : List G} (g0 : g ≠ []) (mg : Tr g) (tt : Tr t) (e : sr l = sr t * sr g) : t.length ≤ l.length := by
  by_cases h : t = []
  · subst h; exact Nat.zero_le _
  · have a := (tt.dg h).mul (mg.dg g0)
    rw [← e] at a
    have := a.lt (dl_sr l)
    omega
theorem aft_div {l m g t u : List G} {h d h' d' hg : Nat} (m0 : m ≠ []) (tm : Tr m) (l1 : l.length ≤ 400) (l2 : m.length ≤ 400) (Hl : Hs h d (sr l).c) (Hm : Hs h' d' (sr m).c) (Hg : Hs hg hg (sr g).c)
    (mg : Mo g) (g0 : g ≠ []) (G1 : Gcd (sr g) (sr l) (sr m)) (tt : Tr t) (et : sr t = Qot l g (stp l g)) (tu : Tr u) (eu : sr u = Qot m g (stp m g))
    (y3 : h + (l.length - g.length) * (hg + 1) + (d + (l.length - g.length) * hg) < 2200) (y4 : 2 * (d + (l.length - g.length) * hg) < 2200)
    (y5 : h' + (m.length - g.length) * (hg + 1) + (d' + (m.length - g.length) * hg) < 2200) (y6 : 2 * (d' + (m.length - g.length) * hg) < 2200) (y7 : 2 * (h' + (m.length - g.length) * (hg + 1)) < 1900)
    (y8 : h + (l.length - g.length) * (hg + 1) + d' + (m.length - g.length - (l.length - g.length)) * hg + (d + (l.length - g.length - (m.length - g.length)) * hg + (h' + (m.length - g.length) * (hg + 1))) < 1900)
    (y9 : 2 * (d + (l.length - g.length - (m.length - g.length)) * hg + (h' + (m.length - g.length) * (hg + 1))) < 1900) : Aft l m t u := by
  have gp := List.length_pos_iff.mpr g0
  obtain ⟨x, hx, ex⟩ := G1.l
  obtain ⟨y, hy, ey⟩ := G1.r
  have e1 : sr l = sr t * sr g := by rw [et, div_exact mg g0 hx ex]; exact ex
  have e2 : sr m = sr u * sr g := by rw [eu, div_exact mg g0 hy ey]; exact ey
  have gne := mg.tr.ne g0
  have u0 : u ≠ [] := fun z => tm.ne m0 (by rw [e2, z, sr_nil]; grind)
  have cop := G1.cop gne (isP_sr t) (isP_sr u) e1 e2
  obtain ⟨a, q1, q2, q3⟩ := Hl
  obtain ⟨b, r1, r2, r3⟩ := Hm
  obtain ⟨c, p1, p2, p3⟩ := Hg
  have s1 : stp l g = l.length + 1 - g.length := rfl
  have s2 : stp m g = m.length + 1 - g.length := rfl
  have A1 : ∀ k, Gb (2 ^ (h + (l.length - g.length) * (hg + 1))) (a * c ^ (l.length - g.length) * (sr t).c k) := fun k => by
    rw [et]
    exact gb_qot q3 p3 (mg g0) _ (stp l g) (by omega) (by omega) k
  have A2 : ∀ k, Gb (2 ^ (h' + (m.length - g.length) * (hg + 1))) (b * c ^ (m.length - g.length) * (sr u).c k) := fun k => by
    rw [eu]
    exact gb_qot r3 p3 (mg g0) _ (stp m g) (by omega) (by omega) k
  generalize hS1 : l.length - g.length = S1 at *
  generalize hS2 : m.length - g.length = S2 at *
  have Ht : Hs (h + S1 * (hg + 1)) (d + S1 * hg) (sr t).c := ⟨a * c ^ S1, ne_mul q1 (pow_ne p1 _), q2.mulP (gb_pow p2 _), A1⟩
  have Hu : Hs (h' + S2 * (hg + 1)) (d' + S2 * hg) (sr u).c := ⟨b * c ^ S2, ne_mul r1 (pow_ne p1 _), r2.mulP (gb_pow p2 _), A2⟩
  refine ⟨tt, tu, u0, Nat.le_trans (len_quot g0 mg.tr tt e1) l1, Nat.le_trans (len_quot g0 mg.tr tu e2) l2, ⟨sr g, isP_sr g, gne, e1, e2⟩, cop, fun k => (Ht.at k).bd (by omega) (by omega), fun k => (Hu.at k).bd (by omega) (by omega), fun h0 => ((Hu.at 0).inv h0).bd (by omega) (by omega), fun h0 k => ?_, fun h0 k => ?_⟩
  · refine Hn.bd (h := h + S1 * (hg + 1) + d' + (S2 - S1) * hg) (d := d + (S1 - S2) * hg + (h' + S2 * (hg + 1))) ⟨a * c ^ (S1 - S2) * (b * c ^ S2 * (sr u).c 0), ?_, ?_, ?_⟩ (by omega) (by omega)
    · exact ne_mul (ne_mul q1 (pow_ne p1 _)) (ne_mul (ne_mul r1 (pow_ne p1 _)) h0)
    · exact (q2.mulP (gb_pow p2 _)).mulP (A2 0)
    · have ec : c ^ (S1 - S2) * c ^ S2 = c ^ (S2 - S1) * c ^ S1 := by
        rw [← pow_add', ← pow_add', show S1 - S2 + S2 = S2 - S1 + S1 by omega]
      have : a * c ^ (S1 - S2) * (b * c ^ S2 * (sr u).c 0) * (1 / (sr u).c 0 * (sr t).c k) = (a * c ^ S1 * (sr t).c k) * b * c ^ (S2 - S1) := by
        have e3 : (sr u).c 0 * (1 / (sr u).c 0) = 1 := by grind
        generalize (sr u).c 0 = v at *
        generalize 1 / v = w at *
        generalize (sr t).c k = z at *
        generalize c ^ (S1 - S2) = c1 at *
        generalize c ^ (S2 - S1) = c2 at *
        generalize c ^ S1 = c3 at *
        generalize c ^ S2 = c4 at *
        grind
      rw [this]
      exact ((A1 k).mulP r2).mulP (gb_pow p2 _)
  · have := (Hu.monic h0).at k
    rw [show (sr u).c k * (1 / (sr u).c 0) = 1 / (sr u).c 0 * (sr u).c k by grind] at this
    exact this.bd (by omega) (by omega)
local macro_rules | `(tactic| walk_at "st") => `(tactic| dsimp -failIfUnchanged only [List.length_cons, List.length_nil, Nat.reduceAdd, Nat.reduceSub, rep0, repS, List.cons_append, List.nil_append, List.set_cons_zero, List.set_cons_succ, gSlot, fNext])
local macro_rules | `(tactic| walk_at "lt2") => `(tactic| first | with_reducible assumption | (with_reducible apply Lt2.mul; walk_at "lt2"; walk_at "lt2") | (with_reducible apply Lt2.neg; walk_at "lt2"))
local macro_rules | `(tactic| walk_at "cm") => `(tactic| (with_reducible apply cm; walk_at "lt2"; walk_at "lt2"; omega))
section
variable {P : Program} {w : World} {K : PySem.W.Frag} {mg : Str → Option Value} {base : Heap} (T : Txt K mg)
include T
theorem g_quote_reduced : Good P w K mg base 7 "quote_reduced" ["top", "under"] sp_quote_reduced := by
  refine good_mk (T.defs ("quote_reduced", 40) (by decide)) sc_quote_reduced (fun _ _ _ _ _ _ us hl => match us, hl with | [_, _], _ => rfl) ?_ (fun cdv A outer s H E B f hK hr => ⟨_, (s_cons (s_set 2 sc_quote_reduced.nd (c_call (g_row_divisor T) hK (hr.mono (by decide)) (da_cons (d_var 0) (da_cons (d_var 1) da_nil))))
    (s_cons (s_if (d_cmpT op_gt opd_B0 (d_callB call_len_seq (cd_len hK) (by rfl) T.len_ (by decide +kernel) (da_cons (d_var 2) da_nil)) d_int (nomark _))
    (s_one (s_par 0 1 sc_quote_reduced.nd (da_cons (d_ix hK (c_call (g_row_rest T) hK (hr.mono (by decide)) (da_cons (d_var 0) (da_cons (d_var 2) da_nil))) d_int) (da_cons (d_ix hK (c_call (g_row_rest T) hK (hr.mono (by decide)) (da_cons (d_var 1) (da_cons (d_var 2) da_nil))) d_int) da_nil))))
    s_nil)
    (s_cons (s_if (d_cmpT (op_eqD (hu64 hr)) (opd_eqD hK) (d_ixS hK (d_var 1) d_int) (c_glob hK T.NOUGHT) (nomark _))
    (s_one (s_ret d_non))
    s_nil)
    (s_cons (s_set 3 sc_quote_reduced.nd (c_call (g_num_over T) hK (hr.mono (by decide)) (da_cons (c_glob hK T.ONE) (da_cons (d_ixS hK (d_var 1) d_int) da_nil))))
    (s_one (s_ret (d_tup (da_cons (c_call (g_row_scaled T) hK (hr.mono (by decide)) (da_cons (d_var 0) (da_cons (d_var 3) da_nil))) (da_cons (c_call (g_row_scaled T) hK (hr.mono (by decide)) (da_cons (d_var 1) (da_cons (d_var 3) da_nil))) da_nil))))))))), fun rs P h => ?_⟩)
  · rintro rs P ⟨l, m, rfl, _⟩; rfl
  · obtain ⟨l, m, rfl, ⟨n0, h, d, h', d', tl, tm, m0, l1, l2, Hl, Hm, a1, a2, a3, b1, b2, b3, hc⟩, hN, hR⟩ := h
    walk_at "st"
    refine ⟨_, _, _, rfl, ⟨n0, h, d, h', d', tl, tm, m0, l1, l2, Hl, Hm, a1, a2, a3, b1, b2, b3, hc⟩, fun g hg mg g0 G1 Hg fg => ?_⟩
    walk_at "st"
    refine seq_join (fun ρ => ∃ t u : List G, ρ = [.dat (encR t), .dat (encR u), .dat (encR g), .un] ∧ Aft l m t u) ?_ fun N hN' => ?_
    · rintro ρ ⟨t, u, rfl, af⟩
      refine at_go (i := 0) (atI_map (enc := encN) (n := 0) (a := (sr u).c 0) ?_) ?_
      · have up := List.length_pos_iff.mpr af.u0
        rw [List.getElem?_eq_getElem up, sr_get (List.getElem?_eq_getElem up)]
      refine eq_go ((sh_N _).shaped rfl) rfl (eqv_N _ 0) ?_
      refine ⟨fun hz => hN (af.no (of_decide_eq_true hz)), fun hz => ?_⟩
      have z0 : (sr u).c 0 ≠ 0 := of_decide_eq_false hz
      walk_at "st"
      refine at_go (i := 0) (atI_map (enc := encN) (n := 0) (a := (sr u).c 0) ?_) ?_
      · have up := List.length_pos_iff.mpr af.u0
        rw [List.getElem?_eq_getElem up, sr_get (List.getElem?_eq_getElem up)]
      refine ⟨1, _, rfl, bd_one, af.bu 0, z0, af.bi z0, ?_⟩
      walk_at "st"
      refine ⟨_, _, rfl, af.l1, af.bt, af.bi z0, fun t' tt e1 => ?_⟩
      refine ⟨_, _, rfl, af.l2, af.bu, af.bi z0, fun u' tu e2 => ⟨lb rfl, ?_⟩⟩
      obtain ⟨r1, r2, r3⟩ := af.red z0 tt tu e1 e2
      exact hR _ _ r1 r2 r3
    refine ⟨fun lg => ?_, fun lg => ?_⟩
    · have lg2 : decide (((g.map encN).length : Int) > 1) = true := lg
      have lg1 : ¬ g.length ≤ 1 := by
        have := of_decide_eq_true lg2
        rw [List.length_map] at this
        omega
      unfold finQ at fg
      rw [if_neg lg1] at fg
      simp only [Bool.and_eq_true, decide_eq_true_eq] at fg
      obtain ⟨⟨⟨⟨⟨⟨⟨⟨y1, y2⟩, y3⟩, y4⟩, y5⟩, y6⟩, y7⟩, y8⟩, y9⟩ := fg
      refine ⟨_, _, rfl, rest_ok Hl Hg mg g0 y1, fun t r tt tr et er => ?_⟩
      refine ⟨_, _, rfl, rest_ok Hm Hg mg g0 y2, fun u r' tu tr' eu er' => ?_⟩
      walk_at "st"
      exact hN' _ ⟨_, _, rfl, aft_div m0 tm l1 l2 Hl Hm Hg mg g0 G1 tt et tu eu y3 y4 y5 y6 y7 y8 y9⟩
    · have lg2 : decide (((g.map encN).length : Int) > 1) = false := lg
      have lg1 : g.length ≤ 1 := by
        have := of_decide_eq_false lg2
        rw [List.length_map] at this
        omega
      unfold finQ at fg
      rw [if_pos lg1] at fg
      simp only [Bool.and_eq_true, decide_eq_true_eq] at fg
      have af := aft_one tl tm m0 l1 l2 Hl Hm a1 a3 b1 b2 b3 mg g0 G1 lg1 fg.1.1 fg.1.2 fg.2
      exact hN' _ ⟨_, _, rfl, af⟩
end
end K12
namespace K12
open PySem PySem.Spec PyProof.Rows L2 DL
open Ser
def finT (_ _ : Nat) : Bool := true
/-- what is told of a thing that may be a quotient -/
inductive IQ : PyData → Bool → Prop
  | nt {d : PyData} : isTup d = false → IQ d false
  | ln {ds : List PyData} : ds.length ≠ 2 → IQ (.tuple ds) false
  | em {t : List G} : Tr t → IQ (encQ (t, [])) false
  | u0 {t u : List G} : Tr t → Tr u → u ≠ [] → (sr u).c 0 ≠ 1 → IQ (encQ (t, u)) false
  | cop {t u : List G} : (sr u).c 0 = 1 → DivOk finT t u → Cop (sr t) (sr u) → IQ (encQ (t, u)) true
  | nco {t u : List G} {x y γ : Ser} {n : Nat} : (sr u).c 0 = 1 → DivOk finT t u → IsP x → IsP y → Dg (n + 1) γ → sr t = x * γ → sr u = y * γ → IQ (encQ (t, u)) false
def sp_is_a_quote : FS := fun rs P => ∃ d b, rs = [.dat d] ∧ IQ d b ∧ P (.dat (.bool b))
theorem gcd_len1 {g t u : List G} (mg : Mo g) (g0 : g ≠ []) (G1 : Gcd (sr g) (sr t) (sr u)) (c : Cop (sr t) (sr u)) : g.length = 1 := by
  obtain ⟨x, hx, ex⟩ := G1.l
  obtain ⟨y, hy, ey⟩ := G1.r
  obtain ⟨s, r, hs, hr, e⟩ := c
  have : sr g * (s * x + r * y) = 1 := by grind
  obtain ⟨z, z0, ez⟩ := unit_con (isP_sr g) (isP_add (isP_mul hs hx) (isP_mul hr hy)) this
  have := mg.tr.len_of (n := 0) (by
    rw [ez]
    exact ⟨z0, dl_con z⟩)
  omega
theorem gcd_len2 {g t u : List G} {x y γ : Ser} {n : Nat} (mg : Mo g) (g0 : g ≠ []) (G1 : Gcd (sr g) (sr t) (sr u)) (hx : IsP x) (hy : IsP y) (hγ : Dg (n + 1) γ) (ex : sr t = x * γ) (ey : sr u = y * γ) : g.length ≠ 1 := by
  obtain ⟨s, r, hs, hr, e⟩ := G1.c
  have e2 : sr g = (s * x + r * y) * γ := by grind
  have dg := mg.tr.dg g0
  have p0 : s * x + r * y ≠ 0 := fun z => dg.ne (by rw [e2, z]; grind)
  obtain ⟨k, hk⟩ := (isP_add (isP_mul hs hx) (isP_mul hr hy)).dg p0
  have := (hk.mul hγ)
  rw [← e2] at this
  have := this.uniq dg
  omega
def sp_quote_degree : FS := fun rs P => ∃ t u : List G, rs = [.dat (encQ (t, u))] ∧ P (.dat (.int ((max t.length u.length : Nat) - 1 : Int)))
def RedK (l m : Ser) (P : Sl → Prop) : Prop := (NoRed l m → P (.dat .none)) ∧ ∀ t u, Red l m t u → BN t → BN u → P (.dat (encQ (t, u)))
local macro_rules | `(tactic| walk_at "st") => `(tactic| dsimp -failIfUnchanged only [List.length_cons, List.length_nil, Nat.reduceAdd, Nat.reduceSub, rep0, repS, List.cons_append, List.nil_append, List.set_cons_zero, List.set_cons_succ, gSlot, fNext])
local macro_rules | `(tactic| walk_at "lt2") => `(tactic| first | with_reducible assumption | (with_reducible apply Lt2.mul; walk_at "lt2"; walk_at "lt2") | (with_reducible apply Lt2.neg; walk_at "lt2"))
local macro_rules | `(tactic| walk_at "cm") => `(tactic| (with_reducible apply cm; walk_at "lt2"; walk_at "lt2"; omega))
section
variable {P : Program} {w : World} {K : PySem.W.Frag} {mg : Str → Option Value} {base : Heap} (T : Txt K mg)
include T
theorem g_is_a_quote : Good P w K mg base 7 "is_a_quote" ["value"] sp_is_a_quote := by
  refine good_mk (T.defs ("is_a_quote", 41) (by decide)) sc_is_a_quote (fun _ _ _ _ _ _ us hl => match us, hl with | [_], _ => rfl) ?_ (fun cdv A outer s H E B f hK hr => ⟨_, (s_cons (s_if (PW.pt (d_or (d_not (d_valT (d_isi hK kit_tup (d_var 0) T.isinstance_ T.tuple_ (by decide +kernel)))) (d_or (d_cmpT op_ne opd_neI (d_callB call_len_seq (cd_len hK) (by rfl) T.len_ (by decide +kernel) (da_cons (d_var 0) da_nil)) d_int (nomark _)) (d_or (d_not (d_valT (c_call (g_is_a_row T) hK (hr.mono (by decide)) (da_cons (d_ix hK (d_var 0) d_int) da_nil)))) (d_or1 (d_not (d_valT (c_call (g_is_a_row T) hK (hr.mono (by decide)) (da_cons (d_ix hK (d_var 0) d_int) da_nil)))))))))
    (s_one (s_ret d_bl))
    s_nil)
    (s_one (s_ret (d_andV (d_cmp op_gt opd_B0 (d_callB call_len_seq (cd_len hK) (by rfl) T.len_ (by decide +kernel) (da_cons (d_ix hK (d_var 0) d_int) da_nil)) d_int (nomark _)) (d_andV (d_cmp (op_eqD (hu64 hr)) (opd_eqD hK) (d_ixS hK (d_ix hK (d_var 0) d_int) d_int) (c_glob hK T.ONE) (nomark _)) (d_oneV (d_cmp op_eq opd_eqI (d_callB call_len_seq (cd_len hK) (by rfl) T.len_ (by decide +kernel) (da_cons (c_call (g_row_divisor T) hK (hr.mono (by decide)) (da_cons (d_ix hK (d_var 0) d_int) (da_cons (d_ix hK (d_var 0) d_int) da_nil))) da_nil)) d_int (nomark _)))))))), fun rs P h => ?_⟩)
  · rintro rs P ⟨d, b, rfl, _⟩; rfl
  · obtain ⟨d, b, rfl, hq, hP⟩ := h
    walk_at "st"
    cases hq with
    | nt hd =>
      refine ⟨fun _ => ⟨fun _ => hP, fun z => (nomatch z)⟩, fun z => ?_⟩
      have z2 : (!isTup d) = false := z
      rw [hd] at z2
      exact nomatch z2
    | @ln ds hn =>
      refine ⟨fun z => (nomatch z), fun _ => ⟨fun _ => ⟨fun _ => hP, fun z => (nomatch z)⟩, fun z => ?_⟩⟩
      have z2 : (!decide ((ds.length : Int) = 2)) = false := z
      rw [decide_eq_false (by omega)] at z2
      exact nomatch z2
    | @em t tt =>
      walk_at "st"
      refine ⟨fun z => (nomatch z), fun _ => ⟨fun z => (nomatch z), fun _ => ?_⟩⟩
      refine ⟨_, rfl, tt, fun z => (nomatch z), fun _ => ?_⟩
      refine ⟨_, rfl, tr_nil, fun z => (nomatch z), fun _ => ?_⟩
      exact ⟨fun z => (nomatch z), fun _ => hP⟩
    | @u0 t u tt tu hu ho =>
      walk_at "st"
      refine ⟨fun z => (nomatch z), fun _ => ⟨fun z => (nomatch z), fun _ => ?_⟩⟩
      refine ⟨_, rfl, tt, fun z => (nomatch z), fun _ => ?_⟩
      refine ⟨_, rfl, tu, fun z => (nomatch z), fun _ => ?_⟩
      have up := List.length_pos_iff.mpr hu
      have up2 : decide (((u.map encN).length : Int) > 0) = true := decide_eq_true (by rw [List.length_map]; omega)
      refine ⟨fun _ => ?_, fun z => (nomatch up2.symm.trans z)⟩
      refine at_go (i := 0) (atI_map (enc := encN) (n := 0) (a := (sr u).c 0) ?_) ?_
      · rw [List.getElem?_eq_getElem up, sr_get (List.getElem?_eq_getElem up)]
      refine eq_go ((sh_N _).shaped rfl) rfl (eqv_N _ 1) ?_
      rw [decide_eq_false ho]
      exact ⟨fun z => (nomatch z), fun _ => hP⟩
    | @cop t u ho ok hc =>
      obtain ⟨n0, h, d, h', d', tt, tu, hu, rest⟩ := ok.ex
      walk_at "st"
      refine ⟨fun z => (nomatch z), fun _ => ⟨fun z => (nomatch z), fun _ => ?_⟩⟩
      refine ⟨_, rfl, tt, fun z => (nomatch z), fun _ => ?_⟩
      refine ⟨_, rfl, tu, fun z => (nomatch z), fun _ => ?_⟩
      have up := List.length_pos_iff.mpr hu
      have up2 : decide (((u.map encN).length : Int) > 0) = true := decide_eq_true (by rw [List.length_map]; omega)
      refine ⟨fun _ => ?_, fun z => (nomatch up2.symm.trans z)⟩
      refine at_go (i := 0) (atI_map (enc := encN) (n := 0) (a := (sr u).c 0) ?_) ?_
      · rw [List.getElem?_eq_getElem up, sr_get (List.getElem?_eq_getElem up)]
      refine eq_go ((sh_N _).shaped rfl) rfl (eqv_N _ 1) ?_
      rw [decide_eq_true ho]
      refine ⟨fun _ => ?_, fun z => (nomatch z)⟩
      refine ⟨t, u, finT, rfl, ok, fun g hg mg g0 G1 Hg _ => ?_⟩
      have e : decide (((g.map encN).length : Int) = 1) = true := decide_eq_true (by rw [List.length_map, gcd_len1 mg g0 G1 hc]; rfl)
      show P (.dat (.bool (decide (((g.map encN).length : Int) = 1))))
      rw [e]
      exact hP
    | @nco t u x y γ n ho ok hx hy hγ ex ey =>
      obtain ⟨n0, h, d, h', d', tt, tu, hu, rest⟩ := ok.ex
      walk_at "st"
      refine ⟨fun z => (nomatch z), fun _ => ⟨fun z => (nomatch z), fun _ => ?_⟩⟩
      refine ⟨_, rfl, tt, fun z => (nomatch z), fun _ => ?_⟩
      refine ⟨_, rfl, tu, fun z => (nomatch z), fun _ => ?_⟩
      have up := List.length_pos_iff.mpr hu
      have up2 : decide (((u.map encN).length : Int) > 0) = true := decide_eq_true (by rw [List.length_map]; omega)
      refine ⟨fun _ => ?_, fun z => (nomatch up2.symm.trans z)⟩
      refine at_go (i := 0) (atI_map (enc := encN) (n := 0) (a := (sr u).c 0) ?_) ?_
      · rw [List.getElem?_eq_getElem up, sr_get (List.getElem?_eq_getElem up)]
      refine eq_go ((sh_N _).shaped rfl) rfl (eqv_N _ 1) ?_
      rw [decide_eq_true ho]
      refine ⟨fun _ => ?_, fun z => (nomatch z)⟩
      refine ⟨t, u, finT, rfl, ok, fun g hg mg g0 G1 Hg _ => ?_⟩
      have e : decide (((g.map encN).length : Int) = 1) = false := decide_eq_false (by
        have := gcd_len2 mg g0 G1 hx hy hγ ex ey
        rw [List.length_map]; omega)
      show P (.dat (.bool (decide (((g.map encN).length : Int) = 1))))
      rw [e]
      exact hP

theorem g_quote_degree : Good P w K mg base 1 "quote_degree" ["quote"] sp_quote_degree := by
  refine good_mk (T.defs ("quote_degree", 42) (by decide)) sc_quote_degree (fun _ _ _ _ _ _ us hl => match us, hl with | [_], _ => rfl) ?_ (fun cdv A outer s H E B f hK hr => ⟨_, (s_one (s_ret (d_bin op_sub opd_I0 (d_callB (call_max2 rfl) cd_max (by rfl) T.max_ (by decide +kernel) (da_cons (d_callB call_len_seq (cd_len hK) (by rfl) T.len_ (by decide +kernel) (da_cons (d_ix hK (d_var 0) d_int) da_nil)) (da_cons (d_callB call_len_seq (cd_len hK) (by rfl) T.len_ (by decide +kernel) (da_cons (d_ix hK (d_var 0) d_int) da_nil)) da_nil))) d_int))), fun rs P h => ?_⟩)
  · rintro rs P ⟨t, u, rfl, _⟩; rfl
  · obtain ⟨t, u, rfl, hP⟩ := h
    walk_at "st"
    have e1 : gMax ((t.map encN).length : Int) ((u.map encN).length : Int) = ((max t.length u.length : Nat) : Int) := by
      unfold gMax
      rw [List.length_map, List.length_map]
      split <;> omega
    show P (.dat (.int (gMax ((t.map encN).length : Int) ((u.map encN).length : Int) - 1)))
    rw [e1]
    exact hP
end
end K12
namespace K12
open PySem PySem.Spec PyProof.Rows L2 DL
open Ser
abbrev S4 := List G → List G → List G → List G → (Sl → Prop) → Prop
/-- sums and differences of quotes: what is asked of the four rows -/
structure SumOk (f : Ser → Ser → Ser) (a b c d : List G) : Prop where
  ta : Tr a
  tb : Tr b
  tc : Tr c
  td : Tr d
  k1 : TimesOk a d
  k2 : TimesOk c b
  k3 : TimesOk b d
  k4 : ∀ x y, Tr x → Tr y → sr x = sr a * sr d → sr y = sr c * sr b → x.length ≤ 400 ∧ y.length ≤ 400 ∧ BA x ∧ BA y
  k5 : ∀ x y, Tr x → Tr y → sr x = f (sr a * sr d) (sr c * sr b) → sr y = sr b * sr d → QrOk x y
def rPlus : S4 := fun a b c d P => SumOk (fun x y => x + y) a b c d ∧ RedK (sr a * sr d + sr c * sr b) (sr b * sr d) P
def rMinus : S4 := fun a b c d P => SumOk (fun x y => x - y) a b c d ∧ RedK (sr a * sr d - sr c * sr b) (sr b * sr d) P
/-- products: reduced (a c) / (b d) -/
structure ProdOk (a b c d : List G) : Prop where
  ta : Tr a
  tb : Tr b
  tc : Tr c
  td : Tr d
  k1 : TimesOk a c
  k2 : TimesOk b d
  k5 : ∀ x y, Tr x → Tr y → sr x = sr a * sr c → sr y = sr b * sr d → QrOk x y
def rTimes : S4 := fun a b c d P => ProdOk a b c d ∧ RedK (sr a * sr c) (sr b * sr d) P
def rOver : S4 := fun a b c d P => ProdOk a b d c ∧ RedK (sr a * sr d) (sr b * sr c) P
def sp4 (S : S4) : FS := fun rs P => ∃ a b c d : List G, rs = [.dat (encQ (a, b)), .dat (encQ (c, d))] ∧ S a b c d P
def sp4q (S : S4) : FS := fun rs P => ∃ a b c d : List G, rs = [.dat (encQ (a, b)), .dat (encQ (c, d))] ∧ IQ (encQ (a, b)) true ∧ IQ (encQ (c, d)) true ∧ S a b c d P
def sp_check_number : FS := fun rs P => ∃ x : G, rs = [.dat (encN x)] ∧ P (.dat .none)
def sp_check_row : FS := fun rs P => ∃ l : List G, rs = [.dat (encR l)] ∧ Tr l ∧ P (.dat .none)
def sp_check_quotient : FS := fun rs P => ∃ d, rs = [.dat d] ∧ IQ d true ∧ P (.dat .none)
def sp_quotient_degree : FS := fun rs P => ∃ t u : List G, rs = [.dat (encQ (t, u))] ∧ IQ (encQ (t, u)) true ∧ P (.dat (.int ((max t.length u.length : Nat) - 1 : Int)))
local macro_rules | `(tactic| walk_at "st") => `(tactic| dsimp -failIfUnchanged only [List.length_cons, List.length_nil, Nat.reduceAdd, Nat.reduceSub, rep0, repS, List.cons_append, List.nil_append, List.set_cons_zero, List.set_cons_succ, gSlot, fNext])
local macro_rules | `(tactic| walk_at "lt2") => `(tactic| first | with_reducible assumption | (with_reducible apply Lt2.mul; walk_at "lt2"; walk_at "lt2") | (with_reducible apply Lt2.neg; walk_at "lt2"))
local macro_rules | `(tactic| walk_at "cm") => `(tactic| (with_reducible apply cm; walk_at "lt2"; walk_at "lt2"; omega))
section
variable {P : Program} {w : World} {K : PySem.W.Frag} {mg : Str → Option Value} {base : Heap} (T : Txt K mg)
include T
theorem g_quote_plus : Good P w K mg base 8 "quote_plus" ["quote", "other"] (sp4 rPlus) := by
  refine good_mk (T.defs ("quote_plus", 43) (by decide)) sc_quote_plus (fun _ _ _ _ _ _ us hl => match us, hl with | [_, _], _ => rfl) ?_ (fun cdv A outer s H E B f hK hr => ⟨_, (s_cons (s_set 2 sc_quote_plus.nd (c_call (g_row_plus T) hK (hr.mono (by decide)) (da_cons (c_call (g_row_times T) hK (hr.mono (by decide)) (da_cons (d_ix hK (d_var 0) d_int) (da_cons (d_ix hK (d_var 1) d_int) da_nil))) (da_cons (c_call (g_row_times T) hK (hr.mono (by decide)) (da_cons (d_ix hK (d_var 1) d_int) (da_cons (d_ix hK (d_var 0) d_int) da_nil))) da_nil))))
    (s_one (s_ret (c_call (g_quote_reduced T) hK (hr.mono (by decide)) (da_cons (d_var 2) (da_cons (c_call (g_row_times T) hK (hr.mono (by decide)) (da_cons (d_ix hK (d_var 0) d_int) (da_cons (d_ix hK (d_var 1) d_int) da_nil))) da_nil)))))), fun rs P h => ?_⟩)
  · rintro rs P ⟨a, b, c, d, rfl, _⟩; rfl
  · obtain ⟨a, b, c, d, rfl, ok, hN, hR⟩ := h
    walk_at "st"
    refine ⟨_, _, rfl, ok.ta, ok.td, ok.k1, fun x tx ex => ?_⟩
    refine ⟨_, _, rfl, ok.tc, ok.tb, ok.k2, fun y ty ey => ?_⟩
    obtain ⟨l1, l2, b1, b2⟩ := ok.k4 x y tx ty ex ey
    refine ⟨_, _, rfl, l1, l2, b1, b2, fun z tz ez => ?_⟩
    walk_at "st"
    refine ⟨_, _, rfl, ok.tb, ok.td, ok.k3, fun v tv ev => ?_⟩
    have e1 : sr z = sr a * sr d + sr c * sr b := by rw [ez, ex, ey]
    refine ⟨_, _, rfl, ok.k5 z v tz tv e1 ev, ?_, ?_⟩
    · rw [e1, ev]; exact hN
    · rw [e1, ev]; exact hR

theorem g_quote_minus : Good P w K mg base 8 "quote_minus" ["quote", "other"] (sp4 rMinus) := by
  refine good_mk (T.defs ("quote_minus", 44) (by decide)) sc_quote_minus (fun _ _ _ _ _ _ us hl => match us, hl with | [_, _], _ => rfl) ?_ (fun cdv A outer s H E B f hK hr => ⟨_, (s_cons (s_set 2 sc_quote_minus.nd (c_call (g_row_minus T) hK (hr.mono (by decide)) (da_cons (c_call (g_row_times T) hK (hr.mono (by decide)) (da_cons (d_ix hK (d_var 0) d_int) (da_cons (d_ix hK (d_var 1) d_int) da_nil))) (da_cons (c_call (g_row_times T) hK (hr.mono (by decide)) (da_cons (d_ix hK (d_var 1) d_int) (da_cons (d_ix hK (d_var 0) d_int) da_nil))) da_nil))))
    (s_one (s_ret (c_call (g_quote_reduced T) hK (hr.mono (by decide)) (da_cons (d_var 2) (da_cons (c_call (g_row_times T) hK (hr.mono (by decide)) (da_cons (d_ix hK (d_var 0) d_int) (da_cons (d_ix hK (d_var 1) d_int) da_nil))) da_nil)))))), fun rs P h => ?_⟩)
  · rintro rs P ⟨a, b, c, d, rfl, _⟩; rfl
  · obtain ⟨a, b, c, d, rfl, ok, hN, hR⟩ := h
    walk_at "st"
    refine ⟨_, _, rfl, ok.ta, ok.td, ok.k1, fun x tx ex => ?_⟩
    refine ⟨_, _, rfl, ok.tc, ok.tb, ok.k2, fun y ty ey => ?_⟩
    obtain ⟨l1, l2, b1, b2⟩ := ok.k4 x y tx ty ex ey
    refine ⟨_, _, rfl, l1, l2, b1, b2, fun z tz ez => ?_⟩
    walk_at "st"
    refine ⟨_, _, rfl, ok.tb, ok.td, ok.k3, fun v tv ev => ?_⟩
    have e1 : sr z = sr a * sr d - sr c * sr b := by rw [ez, ex, ey]
    refine ⟨_, _, rfl, ok.k5 z v tz tv e1 ev, ?_, ?_⟩
    · rw [e1, ev]; exact hN
    · rw [e1, ev]; exact hR

theorem g_quote_times : Good P w K mg base 8 "quote_times" ["quote", "other"] (sp4 rTimes) := by
  refine good_mk (T.defs ("quote_times", 45) (by decide)) sc_quote_times (fun _ _ _ _ _ _ us hl => match us, hl with | [_, _], _ => rfl) ?_ (fun cdv A outer s H E B f hK hr => ⟨_, (s_one (s_ret (c_call (g_quote_reduced T) hK (hr.mono (by decide)) (da_cons (c_call (g_row_times T) hK (hr.mono (by decide)) (da_cons (d_ix hK (d_var 0) d_int) (da_cons (d_ix hK (d_var 1) d_int) da_nil))) (da_cons (c_call (g_row_times T) hK (hr.mono (by decide)) (da_cons (d_ix hK (d_var 0) d_int) (da_cons (d_ix hK (d_var 1) d_int) da_nil))) da_nil))))), fun rs P h => ?_⟩)
  · rintro rs P ⟨a, b, c, d, rfl, _⟩; rfl
  · obtain ⟨a, b, c, d, rfl, ok, hN, hR⟩ := h
    walk_at "st"
    refine ⟨_, _, rfl, ok.ta, ok.tc, ok.k1, fun x tx ex => ?_⟩
    refine ⟨_, _, rfl, ok.tb, ok.td, ok.k2, fun y ty ey => ?_⟩
    refine ⟨_, _, rfl, ok.k5 x y tx ty ex ey, ?_, ?_⟩
    · rw [ex, ey]; exact hN
    · rw [ex, ey]; exact hR

theorem g_quote_over : Good P w K mg base 8 "quote_over" ["quote", "other"] (sp4 rOver) := by
  refine good_mk (T.defs ("quote_over", 46) (by decide)) sc_quote_over (fun _ _ _ _ _ _ us hl => match us, hl with | [_, _], _ => rfl) ?_ (fun cdv A outer s H E B f hK hr => ⟨_, (s_one (s_ret (c_call (g_quote_reduced T) hK (hr.mono (by decide)) (da_cons (c_call (g_row_times T) hK (hr.mono (by decide)) (da_cons (d_ix hK (d_var 0) d_int) (da_cons (d_ix hK (d_var 1) d_int) da_nil))) (da_cons (c_call (g_row_times T) hK (hr.mono (by decide)) (da_cons (d_ix hK (d_var 0) d_int) (da_cons (d_ix hK (d_var 1) d_int) da_nil))) da_nil))))), fun rs P h => ?_⟩)
  · rintro rs P ⟨a, b, c, d, rfl, _⟩; rfl
  · obtain ⟨a, b, c, d, rfl, ok, hN, hR⟩ := h
    walk_at "st"
    refine ⟨_, _, rfl, ok.ta, ok.tc, ok.k1, fun x tx ex => ?_⟩
    refine ⟨_, _, rfl, ok.tb, ok.td, ok.k2, fun y ty ey => ?_⟩
    refine ⟨_, _, rfl, ok.k5 x y tx ty ex ey, ?_, ?_⟩
    · rw [ex, ey]; exact hN
    · rw [ex, ey]; exact hR

theorem g_check_number : Good P w K mg base 8 "check_number" ["value"] sp_check_number := by
  refine good_mk (T.defs ("check_number", 49) (by decide)) sc_check_number (fun _ _ _ _ _ _ us hl => match us, hl with | [_], _ => rfl) ?_ (fun cdv A outer s H E B f hK hr => ⟨_, (s_one (s_if (d_not (d_valT (c_call (g_is_num T) hK (hr.mono (by decide)) (da_cons (d_var 0) da_nil))))
    (s_one s_never)
    s_nil)), fun rs P h => ?_⟩)
  · rintro rs P ⟨x, rfl, _⟩; rfl
  · obtain ⟨x, rfl, hP⟩ := h
    walk_at "st"
    exact ⟨_, rfl, fun z => (nomatch z), fun _ => hP⟩

theorem g_check_row : Good P w K mg base 8 "check_row" ["value"] sp_check_row := by
  refine good_mk (T.defs ("check_row", 51) (by decide)) sc_check_row (fun _ _ _ _ _ _ us hl => match us, hl with | [_], _ => rfl) ?_ (fun cdv A outer s H E B f hK hr => ⟨_, (s_one (s_if (d_not (d_valT (c_call (g_is_a_row T) hK (hr.mono (by decide)) (da_cons (d_var 0) da_nil))))
    (s_one s_never)
    s_nil)), fun rs P h => ?_⟩)
  · rintro rs P ⟨x, rfl, _⟩; rfl
  · obtain ⟨x, rfl, tl, hP⟩ := h
    walk_at "st"
    exact ⟨_, rfl, tl, fun z => (nomatch z), fun _ => hP⟩

theorem g_check_quotient : Good P w K mg base 8 "check_quotient" ["value"] sp_check_quotient := by
  refine good_mk (T.defs ("check_quotient", 53) (by decide)) sc_check_quotient (fun _ _ _ _ _ _ us hl => match us, hl with | [_], _ => rfl) ?_ (fun cdv A outer s H E B f hK hr => ⟨_, (s_one (s_if (d_not (d_valT (c_call (g_is_a_quote T) hK (hr.mono (by decide)) (da_cons (d_var 0) da_nil))))
    (s_one s_never)
    s_nil)), fun rs P h => ?_⟩)
  · rintro rs P ⟨x, rfl, _⟩; rfl
  · obtain ⟨x, rfl, tl, hP⟩ := h
    walk_at "st"
    exact ⟨_, _, rfl, tl, fun z => (nomatch z), fun _ => hP⟩

theorem g_is_quotient : Good P w K mg base 8 "is_quotient" ["value"] sp_is_a_quote := by
  refine good_mk (T.defs ("is_quotient", 54) (by decide)) sc_is_quotient (fun _ _ _ _ _ _ us hl => match us, hl with | [_], _ => rfl) ?_ (fun cdv A outer s H E B f hK hr => ⟨_, (s_one (s_ret (c_call (g_is_a_quote T) hK (hr.mono (by decide)) (da_cons (d_var 0) da_nil)))), fun rs P h => ?_⟩)
  · rintro rs P ⟨d, b, rfl, _⟩; rfl
  · obtain ⟨d, b, rfl, hq, hP⟩ := h
    exact ⟨_, _, rfl, hq, hP⟩

theorem g_quotient_degree : Good P w K mg base 9 "quotient_degree" ["quotient"] sp_quotient_degree := by
  refine good_mk (T.defs ("quotient_degree", 56) (by decide)) sc_quotient_degree (fun _ _ _ _ _ _ us hl => match us, hl with | [_], _ => rfl) ?_ (fun cdv A outer s H E B f hK hr => ⟨_, (s_cons (s_expr (c_call (g_check_quotient T) hK (hr.mono (by decide)) (da_cons (d_var 0) da_nil)))
    (s_one (s_ret (c_call (g_quote_degree T) hK (hr.mono (by decide)) (da_cons (d_var 0) da_nil))))), fun rs P h => ?_⟩)
  · rintro rs P ⟨t, u, rfl, _⟩; rfl
  · obtain ⟨t, u, rfl, hq, hP⟩ := h
    exact ⟨_, rfl, hq, _, _, rfl, hP⟩

theorem g_quotient_sum : Good P w K mg base 9 "quotient_sum" ["quotient", "other"] (sp4q rPlus) := by
  refine good_mk (T.defs ("quotient_sum", 57) (by decide)) sc_quotient_sum (fun _ _ _ _ _ _ us hl => match us, hl with | [_, _], _ => rfl) ?_ (fun cdv A outer s H E B f hK hr => ⟨_, (s_cons (s_expr (c_call (g_check_quotient T) hK (hr.mono (by decide)) (da_cons (d_var 0) da_nil)))
    (s_cons (s_expr (c_call (g_check_quotient T) hK (hr.mono (by decide)) (da_cons (d_var 1) da_nil)))
    (s_one (s_ret (c_call (g_quote_plus T) hK (hr.mono (by decide)) (da_cons (d_var 0) (da_cons (d_var 1) da_nil))))))), fun rs P h => ?_⟩)
  · rintro rs P ⟨a, b, c, d, rfl, _⟩; rfl
  · obtain ⟨a, b, c, d, rfl, q1, q2, hP⟩ := h
    exact ⟨_, rfl, q1, _, rfl, q2, _, _, _, _, rfl, hP⟩

theorem g_quotient_less : Good P w K mg base 9 "quotient_less" ["quotient", "other"] (sp4q rMinus) := by
  refine good_mk (T.defs ("quotient_less", 58) (by decide)) sc_quotient_less (fun _ _ _ _ _ _ us hl => match us, hl with | [_, _], _ => rfl) ?_ (fun cdv A outer s H E B f hK hr => ⟨_, (s_cons (s_expr (c_call (g_check_quotient T) hK (hr.mono (by decide)) (da_cons (d_var 0) da_nil)))
    (s_cons (s_expr (c_call (g_check_quotient T) hK (hr.mono (by decide)) (da_cons (d_var 1) da_nil)))
    (s_one (s_ret (c_call (g_quote_minus T) hK (hr.mono (by decide)) (da_cons (d_var 0) (da_cons (d_var 1) da_nil))))))), fun rs P h => ?_⟩)
  · rintro rs P ⟨a, b, c, d, rfl, _⟩; rfl
  · obtain ⟨a, b, c, d, rfl, q1, q2, hP⟩ := h
    exact ⟨_, rfl, q1, _, rfl, q2, _, _, _, _, rfl, hP⟩

theorem g_quotient_product : Good P w K mg base 9 "quotient_product" ["quotient", "other"] (sp4q rTimes) := by
  refine good_mk (T.defs ("quotient_product", 59) (by decide)) sc_quotient_product (fun _ _ _ _ _ _ us hl => match us, hl with | [_, _], _ => rfl) ?_ (fun cdv A outer s H E B f hK hr => ⟨_, (s_cons (s_expr (c_call (g_check_quotient T) hK (hr.mono (by decide)) (da_cons (d_var 0) da_nil)))
    (s_cons (s_expr (c_call (g_check_quotient T) hK (hr.mono (by decide)) (da_cons (d_var 1) da_nil)))
    (s_one (s_ret (c_call (g_quote_times T) hK (hr.mono (by decide)) (da_cons (d_var 0) (da_cons (d_var 1) da_nil))))))), fun rs P h => ?_⟩)
  · rintro rs P ⟨a, b, c, d, rfl, _⟩; rfl
  · obtain ⟨a, b, c, d, rfl, q1, q2, hP⟩ := h
    exact ⟨_, rfl, q1, _, rfl, q2, _, _, _, _, rfl, hP⟩
end
end K12
namespace K12
open PySem PySem.Spec PyProof.Rows L2 DL
open Ser
/-- a row's value at a number -/
def ev : List G → G → G
  | [], _ => 0
  | a :: l, x => ev l x * x + a
theorem ev_drop {l : List G} {j : Nat} {a x : G} (h : l.reverse[j]? = some a) : ev (l.drop (l.length - (j + 1))) x = ev (l.drop (l.length - j)) x * x + a := by
  obtain ⟨h1, h2⟩ := List.getElem?_eq_some_iff.mp h
  rw [List.length_reverse] at h1
  rw [List.getElem_reverse] at h2
  have e : l.drop (l.length - (j + 1)) = a :: l.drop (l.length - j) := by
    rw [List.drop_eq_getElem_cons (by omega)]
    congr 1
    · rw [← h2]
      congr 1
      omega
    · rw [show l.length - (j + 1) + 1 = l.length - j by omega]
  rw [e, ev]
structure EvOk (l : List G) (x : G) : Prop where
  bl : BA l
  bx : Bd 2200 x
  b1 : ∀ t, Bd 2200 (ev (l.drop t) x)
  b2 : ∀ t, Bd 2200 (ev (l.drop t) x * x)
def sp_row_value_of : FS := fun rs P => ∃ (l : List G) (x : G), rs = [.dat (encR l), .dat (encN x)] ∧ EvOk l x ∧ P (.dat (encN (ev l x)))
def ValK (t u : List G) (x : G) (P : Sl → Prop) : Prop := EvOk t x ∧ EvOk u x ∧ (ev u x = 0 → P (.dat .none)) ∧ (ev u x ≠ 0 → Bd 2200 (ev t x / ev u x) ∧ P (.dat (encN (ev t x / ev u x))))
def sp_quote_value : FS := fun rs P => ∃ (t u : List G) (x : G), rs = [.dat (encQ (t, u)), .dat (encN x)] ∧ ValK t u x P
def sp_quotient_value : FS := fun rs P => ∃ (t u : List G) (x : G), rs = [.dat (encQ (t, u)), .dat (encN x)] ∧ IQ (encQ (t, u)) true ∧ ValK t u x P
local macro_rules | `(tactic| walk_at "st") => `(tactic| dsimp -failIfUnchanged only [List.length_cons, List.length_nil, Nat.reduceAdd, Nat.reduceSub, rep0, repS, List.cons_append, List.nil_append, List.set_cons_zero, List.set_cons_succ, gSlot, fNext])
local macro_rules | `(tactic| walk_at "lt2") => `(tactic| first | with_reducible assumption | (with_reducible apply Lt2.mul; walk_at "lt2"; walk_at "lt2") | (with_reducible apply Lt2.neg; walk_at "lt2"))
local macro_rules | `(tactic| walk_at "cm") => `(tactic| (with_reducible apply cm; walk_at "lt2"; walk_at "lt2"; omega))
section
variable {P : Program} {w : World} {K : PySem.W.Frag} {mg : Str → Option Value} {base : Heap} (T : Txt K mg)
include T
theorem g_row_value_of : Good P w K mg base 4 "row_value_of" ["row", "number"] sp_row_value_of := by
  refine good_mk (T.defs ("row_value_of", 35) (by decide)) sc_row_value_of (fun _ _ _ _ _ _ us hl => match us, hl with | [_, _], _ => rfl) ?_ (fun cdv A outer s H E B f hK hr => ⟨_, (s_cons (s_set 2 sc_row_value_of.nd (c_glob hK T.NOUGHT))
    (s_cons (s_for (i_tup hK (d_revT hK (d_var 0))) (g_name 3 sc_row_value_of.nd)
    (s_one (s_set 2 sc_row_value_of.nd (c_call (g_num_sum T) hK (hr.mono (by decide)) (da_cons (c_call (g_num_product T) hK (hr.mono (by decide)) (da_cons (d_var 2) (da_cons (d_var 1) da_nil))) (da_cons (d_var 3) da_nil))))))
    (s_one (s_ret (d_var 2))))), fun rs P h => ?_⟩)
  · rintro rs P ⟨l, x, rfl, _⟩; rfl
  · obtain ⟨l, x, rfl, ok, hP⟩ := h
    walk_at "st"
    show forRun _ _ _ (l.map encN).reverse _
    rw [← List.map_reverse]
    refine for_inv (fun j ρ => ∃ a : Sl, ρ = [.dat (encR l), .dat (encN x), .dat (encN (ev (l.drop (l.length - j)) x)), a]) ⟨.un, ?_⟩ (fun j a ρ' ha hI D hrt hnx hct => ?_) fun ρ' hI => ?_
    · rw [Nat.sub_zero, List.drop_length]; rfl
    · obtain ⟨s1, rfl⟩ := hI
      refine ⟨_, _, rfl, ok.b1 _, ok.bx, ?_⟩
      refine ⟨_, _, rfl, ok.b2 _, ?_, ?_⟩
      · exact ok.bl.mem (List.mem_reverse.mp (List.mem_of_getElem? ha))
      rw [← ev_drop ha]
      exact hnx _ ⟨_, rfl⟩
    · obtain ⟨s1, rfl⟩ := hI
      rw [List.length_reverse, Nat.sub_self, List.drop_zero]
      exact hP

theorem g_quote_value : Good P w K mg base 5 "quote_value" ["quote", "number"] sp_quote_value := by
  refine good_mk (T.defs ("quote_value", 47) (by decide)) sc_quote_value (fun _ _ _ _ _ _ us hl => match us, hl with | [_, _], _ => rfl) ?_ (fun cdv A outer s H E B f hK hr => ⟨_, (s_cons (s_set 2 sc_quote_value.nd (c_call (g_row_value_of T) hK (hr.mono (by decide)) (da_cons (d_ix hK (d_var 0) d_int) (da_cons (d_var 1) da_nil))))
    (s_one (s_ret (d_if (d_cmpT (op_eqD (hu64 hr)) (opd_eqD hK) (d_var 2) (c_glob hK T.NOUGHT) (nomark _)) d_non (c_call (g_num_over T) hK (hr.mono (by decide)) (da_cons (c_call (g_row_value_of T) hK (hr.mono (by decide)) (da_cons (d_ix hK (d_var 0) d_int) (da_cons (d_var 1) da_nil))) (da_cons (d_var 2) da_nil))))))), fun rs P h => ?_⟩)
  · rintro rs P ⟨t, u, x, rfl, _⟩; rfl
  · obtain ⟨t, u, x, rfl, o1, o2, h0, h1⟩ := h
    walk_at "st"
    refine ⟨_, _, rfl, o2, ?_⟩
    walk_at "st"
    refine eq_go ((sh_N _).shaped rfl) rfl (eqv_N _ 0) ?_
    refine ⟨fun hz => h0 (of_decide_eq_true hz), fun hz => ?_⟩
    have z0 : ev u x ≠ 0 := of_decide_eq_false hz
    obtain ⟨k1, k2⟩ := h1 z0
    refine ⟨_, _, rfl, o1, ?_⟩
    have q1 := o1.b1 0
    have q2 := o2.b1 0
    rw [List.drop_zero] at q1 q2
    exact ⟨_, _, rfl, q1, q2, z0, k1, k2⟩

theorem g_quotient_value : Good P w K mg base 9 "quotient_value" ["quotient", "number"] sp_quotient_value := by
  refine good_mk (T.defs ("quotient_value", 61) (by decide)) sc_quotient_value (fun _ _ _ _ _ _ us hl => match us, hl with | [_, _], _ => rfl) ?_ (fun cdv A outer s H E B f hK hr => ⟨_, (s_cons (s_expr (c_call (g_check_quotient T) hK (hr.mono (by decide)) (da_cons (d_var 0) da_nil)))
    (s_cons (s_expr (c_call (g_check_number T) hK (hr.mono (by decide)) (da_cons (d_var 1) da_nil)))
    (s_one (s_ret (c_call (g_quote_value T) hK (hr.mono (by decide)) (da_cons (d_var 0) (da_cons (d_var 1) da_nil))))))), fun rs P h => ?_⟩)
  · rintro rs P ⟨t, u, x, rfl, _⟩; rfl
  · obtain ⟨t, u, x, rfl, q1, hP⟩ := h
    exact ⟨_, rfl, q1, _, rfl, _, _, _, rfl, hP⟩
end
end K12
namespace K12
open PySem PySem.Spec PyProof.Rows L2 DL
open Ser
def sx_quotient_of : FXS := fun rs P X0 => ∃ l m : List G, rs = [.dat (encR l), .dat (encR m)] ∧ Tr l ∧ Tr m ∧ m ≠ [] ∧ QrOk l m ∧ (NoRed (sr l) (sr m) → X0) ∧ ∀ t u, Red (sr l) (sr m) t u → BN t → BN u → P (.dat (encQ (t, u)))
def sx_quotient_over : FXS := fun rs P X0 => ∃ a b c d : List G, rs = [.dat (encQ (a, b)), .dat (encQ (c, d))] ∧ IQ (encQ (a, b)) true ∧ IQ (encQ (c, d)) true ∧ c ≠ [] ∧ ProdOk a b d c ∧ (NoRed (sr a * sr d) (sr b * sr c) → X0) ∧ ∀ t u, Red (sr a * sr d) (sr b * sr c) t u → BN t → BN u → P (.dat (encQ (t, u)))
local macro_rules | `(tactic| walk_at "st") => `(tactic| dsimp -failIfUnchanged only [List.length_cons, List.length_nil, Nat.reduceAdd, Nat.reduceSub, rep0, repS, List.cons_append, List.nil_append, List.set_cons_zero, List.set_cons_succ, gSlot, fNext])
local macro_rules | `(tactic| walk_at "lt2") => `(tactic| first | with_reducible assumption | (with_reducible apply Lt2.mul; walk_at "lt2"; walk_at "lt2") | (with_reducible apply Lt2.neg; walk_at "lt2"))
local macro_rules | `(tactic| walk_at "cm") => `(tactic| (with_reducible apply cm; walk_at "lt2"; walk_at "lt2"; omega))
section
variable {P : Program} {w : World} {K : PySem.W.Frag} {mg : Str → Option Value} {base : Heap} (T : Txt K mg)
include T
theorem g_quotient_of {C : Addr} (hC : Xc K mg "NoSeries" C) : GoodX P w K mg base 9 "quotient_of" ["top", "under"] C sx_quotient_of := by
  refine good_mkX (T.defs ("quotient_of", 55) (by decide)) sc_quotient_of (fun _ _ _ _ _ _ us hl => match us, hl with | [_, _], _ => rfl) ?_ (fun cdv A outer s H E B f X0 hK hr hE => ⟨_, (s_cons (s_expr (c_call (g_check_row T) hK (hr.mono (by decide)) (da_cons (d_var 0) da_nil)))
    (s_cons (s_expr (c_call (g_check_row T) hK (hr.mono (by decide)) (da_cons (d_var 1) da_nil)))
    (s_cons (s_if (d_cmpT (op_eqD (hu64 hr)) (opd_eqD hK) (d_var 1) (d_tup da_nil) (nomark _))
    (s_one s_never)
    s_nil)
    (s_cons (s_set 2 sc_quotient_of.nd (c_call (g_quote_reduced T) hK (hr.mono (by decide)) (da_cons (d_var 0) (da_cons (d_var 1) da_nil))))
    (s_cons (s_if (d_isNT (d_var 2))
    (s_one (s_raise hC rfl (takes_of rfl rfl rfl rfl) hE))
    s_nil)
    (s_one (s_ret (d_var 2)))))))), fun rs P h => ?_⟩)
  · rintro rs P X0 ⟨l, m, rfl, _⟩; rfl
  · obtain ⟨l, m, rfl, tl, tm, m0, ok, hN, hR⟩ := h
    walk_at "st"
    refine ⟨_, rfl, tl, ?_⟩
    refine ⟨_, rfl, tm, ?_⟩
    refine ⟨lb rfl, ?_⟩
    refine eq_go ((sh_R m).shaped rfl) rfl (eqv_R0 m) ?_
    rw [decide_eq_false m0]
    refine ⟨fun z => (nomatch z), fun _ => ?_⟩
    refine ⟨_, _, rfl, ok, fun hn => ?_, fun t u hr' bt bu => ?_⟩
    · exact ⟨fun _ => hN hn, fun z => (nomatch z)⟩
    · exact ⟨fun z => (nomatch z), fun _ => hR t u hr' bt bu⟩

theorem g_quotient_over {C : Addr} (hC : Xc K mg "NoSeries" C) : GoodX P w K mg base 9 "quotient_over" ["quotient", "other"] C sx_quotient_over := by
  refine good_mkX (T.defs ("quotient_over", 60) (by decide)) sc_quotient_over (fun _ _ _ _ _ _ us hl => match us, hl with | [_, _], _ => rfl) ?_ (fun cdv A outer s H E B f X0 hK hr hE => ⟨_, (s_cons (s_expr (c_call (g_check_quotient T) hK (hr.mono (by decide)) (da_cons (d_var 0) da_nil)))
    (s_cons (s_expr (c_call (g_check_quotient T) hK (hr.mono (by decide)) (da_cons (d_var 1) da_nil)))
    (s_cons (s_if (d_cmpT (op_eqD (hu64 hr)) (opd_eqD hK) (d_ix hK (d_var 1) d_int) (d_tup da_nil) (nomark _))
    (s_one s_never)
    s_nil)
    (s_cons (s_set 2 sc_quotient_over.nd (c_call (g_quote_over T) hK (hr.mono (by decide)) (da_cons (d_var 0) (da_cons (d_var 1) da_nil))))
    (s_cons (s_if (d_isNT (d_var 2))
    (s_one (s_raise hC rfl (takes_of rfl rfl rfl rfl) hE))
    s_nil)
    (s_one (s_ret (d_var 2)))))))), fun rs P h => ?_⟩)
  · rintro rs P X0 ⟨a, b, c, d, rfl, _⟩; rfl
  · obtain ⟨a, b, c, d, rfl, q1, q2, c0, ok, hN, hR⟩ := h
    walk_at "st"
    refine ⟨_, rfl, q1, ?_⟩
    refine ⟨_, rfl, q2, ?_⟩
    refine ⟨lb rfl, ?_⟩
    refine eq_go ((sh_R c).shaped rfl) rfl (eqv_R0 c) ?_
    rw [decide_eq_false c0]
    refine ⟨fun z => (nomatch z), fun _ => ?_⟩
    refine ⟨_, _, _, _, rfl, ok, fun hn => ?_, fun t u hr' bt bu => ?_⟩
    · exact ⟨fun _ => hN hn, fun z => (nomatch z)⟩
    · exact ⟨fun z => (nomatch z), fun _ => hR t u hr' bt bu⟩
end
end K12
namespace K12
open PySem PySem.Spec PyProof.Rows L2 DL
open Ser
def sp_law_gcd : FS := fun rs P => ∃ a b : Int, rs = [.dat (.int a), .dat (.int b)] ∧ P (.dat (.int (gGcd a b)))
def sp_law_cut : FS := fun rs P => ∃ (a b d : Int) (x : G), rs = [.dat (.int a), .dat (.int b), .dat (.int d)] ∧ d ≠ 0 ∧ Lt2 8999 d ∧ x.re * (d : Rat) = (a : Rat) ∧ x.im * (d : Rat) = (b : Rat) ∧ P (.dat (encT x))
def spT (f : G → G → G) : FS := fun rs P => ∃ x y : G, rs = [.dat (encT x), .dat (encT y)] ∧ TB 2200 x ∧ TB 2200 y ∧ P (.dat (encT (f x y)))
def sp_law_over : FS := fun rs P => ∃ x y : G, rs = [.dat (encT x), .dat (encT y)] ∧ TB 2200 x ∧ TB 2200 y ∧ y ≠ 0 ∧ P (.dat (encT (x / y)))
def sp_law_fraction : FS := fun rs P => ∃ n m : Int, rs = [.dat (.int n), .dat (.int m)] ∧ m ≠ 0 ∧ NoPy n m ∧ P (.dat (encF ((n : Rat) / (m : Rat))))
def sp_law_told : FS := fun rs P => ∃ x : G, rs = [.dat (encT x)] ∧ Lt2 8999 (tD x) ∧ P (.dat (encN x))
theorem abs_eq (i : Int) : gAbs i = ((i.natAbs : Nat) : Int) := by unfold gAbs; split <;> omega
theorem gcd_abs (a b d : Int) : gGcd (gGcd a b) d = ((Nat.gcd (Nat.gcd a.natAbs b.natAbs) d.natAbs : Nat) : Int) := rfl
local macro_rules | `(tactic| walk_at "st") => `(tactic| dsimp -failIfUnchanged only [List.length_cons, List.length_nil, Nat.reduceAdd, Nat.reduceSub, rep0, repS, List.cons_append, List.nil_append, List.set_cons_zero, List.set_cons_succ, gSlot, fNext])
local macro_rules | `(tactic| walk_at "lt2") => `(tactic| first | with_reducible assumption | (with_reducible apply Lt2.mul; walk_at "lt2"; walk_at "lt2") | (with_reducible apply Lt2.neg; walk_at "lt2"))
local macro_rules | `(tactic| walk_at "cm") => `(tactic| (with_reducible apply cm; walk_at "lt2"; walk_at "lt2"; omega))
section
variable {P : Program} {w : World} {K : PySem.W.Frag} {mg : Str → Option Value} {base : Heap} (T : Txt K mg)
include T
theorem g__law_gcd : Good P w K mg base 1 "_law_gcd" ["_law_a", "_law_b"] sp_law_gcd := by
  refine good_mk (T.defs ("_law_gcd", 65) (by decide)) sc__law_gcd (fun _ _ _ _ _ _ us hl => match us, hl with | [_, _], _ => rfl) ?_ (fun cdv A outer s H E B f hK hr => ⟨_, (s_cons (s_par 0 1 sc__law_gcd.nd (da_cons (d_callB call_abs cd_abs (by rfl) T.abs_ (by decide +kernel) (da_cons (d_var 0) da_nil)) (da_cons (d_callB call_abs cd_abs (by rfl) T.abs_ (by decide +kernel) (da_cons (d_var 1) da_nil)) da_nil)))
    (s_cons (s_while (d_cmpT op_gt opd_B0 (d_var 1) d_int (nomark _))
    (s_one (s_par 0 1 sc__law_gcd.nd (da_cons (d_var 1) (da_cons (d_bin op_modN opd_I (d_callTy call_int1 cd_int (by rfl) T.int_ (by decide +kernel) (da_cons (d_var 0) da_nil)) (d_var 1)) da_nil)))))
    (s_one (s_ret (d_var 0))))), fun rs P h => ?_⟩)
  · rintro rs P ⟨a, b, rfl, _⟩; rfl
  · obtain ⟨a, b, rfl, hP⟩ := h
    walk_at "st"
    refine ⟨fun m ρ => ∃ x : Nat, ρ = [.dat (.int (x : Int)), .dat (.int (m : Int))] ∧ Nat.gcd x m = Nat.gcd a.natAbs b.natAbs, ⟨b.natAbs, a.natAbs, ?_, rfl⟩, ?_⟩
    · rw [← abs_eq, ← abs_eq]; rfl
    rintro m ρ ⟨x, rfl, hg⟩
    refine ⟨fun hm => ?_, fun hm => ?_⟩
    · have hm1 : 0 < m := by have := of_decide_eq_true hm; omega
      refine ⟨show ((m : Nat) : Int) ≠ 0 by omega, x % m, Nat.mod_lt _ hm1, m, ?_, ?_⟩
      · show [_, Sl.dat (.int ((x : Int).fmod (m : Int)))] = _
        rw [show (x : Int).fmod (m : Int) = ((x % m : Nat) : Int) by rw [Int.fmod_eq_emod_of_nonneg _ (by omega)]; rfl]
      · rw [Nat.gcd_comm m, ← Nat.gcd_rec, Nat.gcd_comm, hg]
    · have hm3 := of_decide_eq_false (show decide ((m : Int) > 0) = false from hm)
      have : m = 0 := by omega
      subst this
      rw [Nat.gcd_zero_right] at hg
      rw [hg]
      exact hP

theorem g__law_cut : Good P w K mg base 2 "_law_cut" ["_law_a", "_law_b", "_law_d"] sp_law_cut := by
  refine good_mk (T.defs ("_law_cut", 66) (by decide)) sc__law_cut (fun _ _ _ _ _ _ us hl => match us, hl with | [_, _, _], _ => rfl) ?_ (fun cdv A outer s H E B f hK hr => ⟨_, (s_cons (s_set 3 sc__law_cut.nd (c_call (g__law_gcd T) hK (hr.mono (by decide)) (da_cons (c_call (g__law_gcd T) hK (hr.mono (by decide)) (da_cons (d_var 0) (da_cons (d_var 1) da_nil))) (da_cons (d_var 2) da_nil))))
    (s_cons (s_if (d_cmpT op_lt opd_B0 (d_var 2) d_int (nomark _))
    (s_one (s_set 3 sc__law_cut.nd (d_bin op_sub opd_I0 d_int (d_var 3))))
    s_nil)
    (s_one (s_ret (d_tup (da_cons (d_bin op_fd opd_I (d_var 0) (d_var 3)) (da_cons (d_bin op_fd opd_I (d_var 1) (d_var 3)) (da_cons (d_bin op_fd opd_I (d_var 2) (d_var 3)) da_nil)))))))), fun rs P h => ?_⟩)
  · rintro rs P ⟨a, b, d, x, rfl, _⟩; rfl
  · obtain ⟨a, b, d, x, rfl, hd, hs, e1, e2, hP⟩ := h
    have key : ∀ g : Int, g = cg a b d → CFd a g ∧ CFd b g ∧ CFd d g ∧ 3 ≤ 1000 ∧ P (Sl.dat (PyData.tuple [PyData.int (a.fdiv g), PyData.int (b.fdiv g), PyData.int (d.fdiv g)])) := fun g hg => by
      obtain ⟨g0, ht⟩ := cut_tri hd e1 e2
      have hga := cg_abs a b d
      rw [← hg] at g0 ht hga
      have hlt : g.natAbs.log2 < 9000 := by
        have h1 : g.natAbs ≤ d.natAbs := by rw [hga]; exact Nat.gcd_le_right _ (by omega)
        have h2 : g.natAbs < 2 ^ 9000 := Nat.lt_of_le_of_lt h1 (Nat.lt_of_lt_of_le hs (Nat.pow_le_pow_right (by decide) (by omega)))
        exact log2_lt h2 (by omega)
      refine ⟨⟨g0, PyProof.noPylong_of_log2 hlt⟩, ⟨g0, PyProof.noPylong_of_log2 hlt⟩, ⟨g0, PyProof.noPylong_of_log2 hlt⟩, by decide, ?_⟩
      rw [tri_enc ht]
      exact hP
    walk_at "st"
    refine ⟨_, _, rfl, _, _, rfl, ?_⟩
    rw [gcd_abs]
    walk_at "st"
    refine ⟨fun h0 => ?_, fun h0 => ?_⟩
    · obtain ⟨k1, k2, k3, k4, k5⟩ := key _ (by unfold cg; rw [if_pos (of_decide_eq_true h0)])
      exact ⟨k1, k2, k3, k4, k5⟩
    · obtain ⟨k1, k2, k3, k4, k5⟩ := key _ (by unfold cg; rw [if_neg (of_decide_eq_false h0)])
      exact ⟨k1, k2, k3, k4, k5⟩

theorem g__law_less : Good P w K mg base 3 "_law_less" ["_law_x", "_law_y"] (spT fun x y => x - y) := by
  refine good_mk (T.defs ("_law_less", 69) (by decide)) sc__law_less (fun _ _ _ _ _ _ us hl => match us, hl with | [_, _], _ => rfl) ?_ (fun cdv A outer s H E B f hK hr => ⟨_, (s_one (s_ret (c_call (g__law_cut T) hK (hr.mono (by decide)) (da_cons (d_bin op_sub opd_I0 (d_bin op_mulW opd_I (d_ix hK (d_var 0) d_int) (d_ix hK (d_var 1) d_int)) (d_bin op_mulW opd_I (d_ix hK (d_var 1) d_int) (d_ix hK (d_var 0) d_int))) (da_cons (d_bin op_sub opd_I0 (d_bin op_mulW opd_I (d_ix hK (d_var 0) d_int) (d_ix hK (d_var 1) d_int)) (d_bin op_mulW opd_I (d_ix hK (d_var 1) d_int) (d_ix hK (d_var 0) d_int))) (da_cons (d_bin op_mulW opd_I (d_ix hK (d_var 0) d_int) (d_ix hK (d_var 1) d_int)) da_nil)))))), fun rs P h => ?_⟩)
  · rintro rs P ⟨x, y, rfl, _⟩; rfl
  · obtain ⟨x, y, rfl, ⟨a1, a2, a3⟩, ⟨b1, b2, b3⟩, hP⟩ := h
    walk_at "st"
    refine ⟨(by walk_at "cm"), (by walk_at "cm"), (by walk_at "cm"), (by walk_at "cm"), (by walk_at "cm"), _, _, _, _, rfl, Int.mul_ne_zero (td_ne x) (td_ne y), (a3.mul b3).mono (by decide), (tv_less x y).1, (tv_less x y).2, hP⟩

theorem g__law_times : Good P w K mg base 3 "_law_times" ["_law_x", "_law_y"] (spT fun x y => x * y) := by
  refine good_mk (T.defs ("_law_times", 70) (by decide)) sc__law_times (fun _ _ _ _ _ _ us hl => match us, hl with | [_, _], _ => rfl) ?_ (fun cdv A outer s H E B f hK hr => ⟨_, (s_one (s_ret (c_call (g__law_cut T) hK (hr.mono (by decide)) (da_cons (d_bin op_sub opd_I0 (d_bin op_mulW opd_I (d_ix hK (d_var 0) d_int) (d_ix hK (d_var 1) d_int)) (d_bin op_mulW opd_I (d_ix hK (d_var 0) d_int) (d_ix hK (d_var 1) d_int))) (da_cons (d_bin op_add opd_I0 (d_bin op_mulW opd_I (d_ix hK (d_var 0) d_int) (d_ix hK (d_var 1) d_int)) (d_bin op_mulW opd_I (d_ix hK (d_var 0) d_int) (d_ix hK (d_var 1) d_int))) (da_cons (d_bin op_mulW opd_I (d_ix hK (d_var 0) d_int) (d_ix hK (d_var 1) d_int)) da_nil)))))), fun rs P h => ?_⟩)
  · rintro rs P ⟨x, y, rfl, _⟩; rfl
  · obtain ⟨x, y, rfl, ⟨a1, a2, a3⟩, ⟨b1, b2, b3⟩, hP⟩ := h
    walk_at "st"
    refine ⟨(by walk_at "cm"), (by walk_at "cm"), (by walk_at "cm"), (by walk_at "cm"), (by walk_at "cm"), _, _, _, _, rfl, Int.mul_ne_zero (td_ne x) (td_ne y), (a3.mul b3).mono (by decide), (tv_times x y).1, (tv_times x y).2, hP⟩

theorem g__law_add : Good P w K mg base 3 "_law_add" ["_law_x", "_law_y"] (spT fun x y => x + y) := by
  refine good_mk (T.defs ("_law_add", 78) (by decide)) sc__law_add (fun _ _ _ _ _ _ us hl => match us, hl with | [_, _], _ => rfl) ?_ (fun cdv A outer s H E B f hK hr => ⟨_, (s_one (s_ret (c_call (g__law_cut T) hK (hr.mono (by decide)) (da_cons (d_bin op_add opd_I0 (d_bin op_mulW opd_I (d_ix hK (d_var 0) d_int) (d_ix hK (d_var 1) d_int)) (d_bin op_mulW opd_I (d_ix hK (d_var 1) d_int) (d_ix hK (d_var 0) d_int))) (da_cons (d_bin op_add opd_I0 (d_bin op_mulW opd_I (d_ix hK (d_var 0) d_int) (d_ix hK (d_var 1) d_int)) (d_bin op_mulW opd_I (d_ix hK (d_var 1) d_int) (d_ix hK (d_var 0) d_int))) (da_cons (d_bin op_mulW opd_I (d_ix hK (d_var 0) d_int) (d_ix hK (d_var 1) d_int)) da_nil)))))), fun rs P h => ?_⟩)
  · rintro rs P ⟨x, y, rfl, _⟩; rfl
  · obtain ⟨x, y, rfl, ⟨a1, a2, a3⟩, ⟨b1, b2, b3⟩, hP⟩ := h
    walk_at "st"
    refine ⟨(by walk_at "cm"), (by walk_at "cm"), (by walk_at "cm"), (by walk_at "cm"), (by walk_at "cm"), _, _, _, _, rfl, Int.mul_ne_zero (td_ne x) (td_ne y), (a3.mul b3).mono (by decide), (tv_add x y).1, (tv_add x y).2, hP⟩

theorem g__law_over : Good P w K mg base 3 "_law_over" ["_law_x", "_law_y"] sp_law_over := by
  refine good_mk (T.defs ("_law_over", 67) (by decide)) sc__law_over (fun _ _ _ _ _ _ us hl => match us, hl with | [_, _], _ => rfl) ?_ (fun cdv A outer s H E B f hK hr => ⟨_, (s_cons (s_set 2 sc__law_over.nd (d_bin op_mulW opd_I (d_ix hK (d_var 0) d_int) (d_bin op_add opd_I0 (d_bin op_mulW opd_I (d_ix hK (d_var 1) d_int) (d_ix hK (d_var 1) d_int)) (d_bin op_mulW opd_I (d_ix hK (d_var 1) d_int) (d_ix hK (d_var 1) d_int)))))
    (s_one (s_ret (c_call (g__law_cut T) hK (hr.mono (by decide)) (da_cons (d_bin op_mulW opd_I (d_bin op_add opd_I0 (d_bin op_mulW opd_I (d_ix hK (d_var 0) d_int) (d_ix hK (d_var 1) d_int)) (d_bin op_mulW opd_I (d_ix hK (d_var 0) d_int) (d_ix hK (d_var 1) d_int))) (d_ix hK (d_var 1) d_int)) (da_cons (d_bin op_mulW opd_I (d_bin op_sub opd_I0 (d_bin op_mulW opd_I (d_ix hK (d_var 0) d_int) (d_ix hK (d_var 1) d_int)) (d_bin op_mulW opd_I (d_ix hK (d_var 0) d_int) (d_ix hK (d_var 1) d_int))) (d_ix hK (d_var 1) d_int)) (da_cons (d_var 2) da_nil))))))), fun rs P h => ?_⟩)
  · rintro rs P ⟨x, y, rfl, _⟩; rfl
  · obtain ⟨x, y, rfl, ⟨a1, a2, a3⟩, ⟨b1, b2, b3⟩, hy, hP⟩ := h
    have n1 : Lt2 4401 (tA y * tA y + tB y * tB y) := (b1.mul b1).add (b2.mul b2)
    have n2 : Lt2 4401 (tA x * tA y + tB x * tB y) := (a1.mul b1).add (a2.mul b2)
    have n3 : Lt2 4401 (tB x * tA y - tA x * tB y) := (a2.mul b1).sub (a1.mul b2)
    walk_at "st"
    refine ⟨(by walk_at "cm"), (by walk_at "cm"), (by walk_at "cm"), ?_⟩
    walk_at "st"
    refine ⟨(by walk_at "cm"), (by walk_at "cm"), (by walk_at "cm"), (by walk_at "cm"), (by walk_at "cm"), (by walk_at "cm"), _, _, _, _, rfl, Int.mul_ne_zero (td_ne x) (tn_ne hy), (a3.mul n1).mono (by decide), (tv_over hy).1, (tv_over hy).2, hP⟩

theorem g__law_fraction : Good P w K mg base 2 "_law_fraction" ["_law_n", "_law_m"] sp_law_fraction := by
  refine good_mk (T.defs ("_law_fraction", 73) (by decide)) sc__law_fraction (fun _ _ _ _ _ _ us hl => match us, hl with | [_, _], _ => rfl) ?_ (fun cdv A outer s H E B f hK hr => ⟨_, (s_cons (s_set 2 sc__law_fraction.nd (c_call (g__law_gcd T) hK (hr.mono (by decide)) (da_cons (d_var 0) (da_cons (d_var 1) da_nil))))
    (s_cons (s_if (d_cmpT op_lt opd_B0 (d_var 1) d_int (nomark _))
    (s_one (s_set 2 sc__law_fraction.nd (d_bin op_sub opd_I0 d_int (d_var 2))))
    s_nil)
    (s_one (s_ret (d_tup (da_cons (d_bin op_fd opd_I (d_var 0) (d_var 2)) (da_cons (d_bin op_fd opd_I (d_var 1) (d_var 2)) da_nil))))))), fun rs P h => ?_⟩)
  · rintro rs P ⟨n, m, rfl, _⟩; rfl
  · obtain ⟨n, m, rfl, hm, hp, hP⟩ := h
    have fv := fr_val (n := n) hm
    have key : ∀ g : Int, g = (if m > 0 then gGcd n m else -gGcd n m) → CFd n g ∧ CFd m g ∧ P (Sl.dat (PyData.tuple [PyData.int (n.fdiv g), PyData.int (m.fdiv g)])) := fun g hg => by
      obtain ⟨h1, h2, h3⟩ := fv g hg
      have hga : g.natAbs = Nat.gcd n.natAbs m.natAbs := by
        rw [hg]
        split
        · rfl
        · show (-gGcd n m).natAbs = _
          rw [Int.natAbs_neg]; rfl
      obtain ⟨p1, p2⟩ := hp g hga
      refine ⟨⟨h1, p1⟩, ⟨h1, p2⟩, ?_⟩
      rw [h2, h3]
      exact hP
    walk_at "st"
    refine ⟨_, _, rfl, ?_⟩
    walk_at "st"
    refine ⟨fun h0 => ?_, fun h0 => ?_⟩
    · have h1 : m < 0 := of_decide_eq_true h0
      obtain ⟨k1, k2, k3⟩ := key (0 - gGcd n m) (by rw [if_neg (by omega)]; omega)
      exact ⟨k1, k2, lb rfl, k3⟩
    · have h1 : ¬ m < 0 := of_decide_eq_false h0
      obtain ⟨k1, k2, k3⟩ := key (gGcd n m) (by rw [if_pos (by omega)])
      exact ⟨k1, k2, lb rfl, k3⟩

theorem g__law_told : Good P w K mg base 3 "_law_told" ["_law_x"] sp_law_told := by
  refine good_mk (T.defs ("_law_told", 74) (by decide)) sc__law_told (fun _ _ _ _ _ _ us hl => match us, hl with | [_], _ => rfl) ?_ (fun cdv A outer s H E B f hK hr => ⟨_, (s_one (s_ret (d_tup (da_cons (c_call (g__law_fraction T) hK (hr.mono (by decide)) (da_cons (d_ix hK (d_var 0) d_int) (da_cons (d_ix hK (d_var 0) d_int) da_nil))) (da_cons (c_call (g__law_fraction T) hK (hr.mono (by decide)) (da_cons (d_ix hK (d_var 0) d_int) (da_cons (d_ix hK (d_var 0) d_int) da_nil))) da_nil))))), fun rs P h => ?_⟩)
  · rintro rs P ⟨x, rfl, _⟩; rfl
  · obtain ⟨x, rfl, a3, hP⟩ := h
    walk_at "st"
    refine ⟨_, _, rfl, td_ne x, nopy1 (td_ne x) (by decide) a3, _, _, rfl, td_ne x, nopy1 (td_ne x) (by decide) a3, lb rfl, ?_⟩
    rw [encN_t] at hP
    exact hP
end
end K12
namespace K12
open PySem PySem.Spec PyProof.Rows L2 DL
open Ser
/-- sizes of a law row -/
def TA (n : Nat) (l : List G) : Prop := ∀ k, TB n ((sr l).c k)
theorem tb_0 : TB 2200 0 := (hn_zero 0 0).tb (by decide) (by decide)
theorem tb_1 : TB 2200 1 := (hn_one 0 0).tb (by decide) (by decide)
theorem TA.mem {n : Nat} {l : List G} (h : TA n l) {x : G} (hx : x ∈ l) : TB n x := by
  obtain ⟨k, hk⟩ := List.getElem?_of_mem hx
  have := h k
  rw [sr_get hk] at this; exact this
theorem mapT_toL {n : Nat} {f : Nat → G} : (List.range n).map (fun k => encT (f k)) = (toL n f).map encT := by
  unfold toL
  rw [List.map_map]; rfl
theorem get_c {l : List G} {k : Nat} (h : k < l.length) : l[k]? = some ((sr l).c k) := by
  rw [List.getElem?_eq_getElem h, sr_get (List.getElem?_eq_getElem h)]
theorem atT {l : List G} {k : Nat} (h : k < l.length) : atI (l.map encT) (k : Int) = some (encT ((sr l).c k)) := atI_map (get_c h)
/-- what the telling asks -/
def TDA (l : List G) : Prop := ∀ k, Lt2 8999 (tD ((sr l).c k))
theorem TA.td {n : Nat} {l : List G} (h : TA n l) (hn : n ≤ 8999) : TDA l := fun k => (h k).2.2.mono hn
theorem TDA.mem {l : List G} (h : TDA l) {x : G} (hx : x ∈ l) : Lt2 8999 (tD x) := by
  obtain ⟨k, hk⟩ := List.getElem?_of_mem hx
  have := h k
  rw [sr_get hk] at this; exact this
def sp_law_trim : FS := fun rs P => ∃ l : List G, rs = [.dat (encL l)] ∧ l.length ≤ 900 ∧ ∀ r, Tr r → sr r = sr l → P (.dat (encL r))
def sp_law_told_row : FS := fun rs P => ∃ l : List G, rs = [.dat (encL l)] ∧ l.length ≤ 900 ∧ TDA l ∧ ∀ r, Tr r → sr r = sr l → P (.dat (encR r))
def sp_law_told_quotient : FS := fun rs P => ∃ t u : List G, rs = [.dat (.tuple [encL t, encL u])] ∧ t.length ≤ 900 ∧ u.length ≤ 900 ∧ TDA t ∧ TDA u ∧ ∀ r s, Tr r → Tr s → sr r = sr t → sr s = sr u → P (.dat (encQ (r, s)))
structure EvT (l : List G) (x : G) : Prop where
  bl : TA 2200 l
  bx : TB 2200 x
  b1 : ∀ t, TB 2200 (ev (l.drop t) x)
  b2 : ∀ t, TB 2200 (ev (l.drop t) x * x)
def sp_law_row_value : FS := fun rs P => ∃ (l : List G) (x : G), rs = [.dat (encL l), .dat (encT x)] ∧ EvT l x ∧ P (.dat (encT (ev l x)))
local macro_rules | `(tactic| walk_at "st") => `(tactic| dsimp -failIfUnchanged only [List.length_cons, List.length_nil, Nat.reduceAdd, Nat.reduceSub, rep0, repS, List.cons_append, List.nil_append, List.set_cons_zero, List.set_cons_succ, gSlot, fNext])
local macro_rules | `(tactic| walk_at "lt2") => `(tactic| first | with_reducible assumption | (with_reducible apply Lt2.mul; walk_at "lt2"; walk_at "lt2") | (with_reducible apply Lt2.neg; walk_at "lt2"))
local macro_rules | `(tactic| walk_at "cm") => `(tactic| (with_reducible apply cm; walk_at "lt2"; walk_at "lt2"; omega))
section
variable {P : Program} {w : World} {K : PySem.W.Frag} {mg : Str → Option Value} {base : Heap} (T : Txt K mg)
include T
theorem g__law_trim : Good P w K mg base 1 "_law_trim" ["_law_row_here"] sp_law_trim := by
  refine good_mk (T.defs ("_law_trim", 68) (by decide)) sc__law_trim (fun _ _ _ _ _ _ us hl => match us, hl with | [_], _ => rfl) ?_ (fun cdv A outer s H E B f hK hr => ⟨_, (s_cons (s_set 1 sc__law_trim.nd (d_callB call_len_seq (cd_len hK) (by rfl) T.len_ (by decide +kernel) (da_cons (d_var 0) da_nil)))
    (s_cons (s_for (i_range1 (by rfl) T.range_ (da_cons (d_callB call_len_seq (cd_len hK) (by rfl) T.len_ (by decide +kernel) (da_cons (d_var 0) da_nil)) da_nil)) (g_name 2 sc__law_trim.nd)
    (s_one (s_if (PW.pt (d_and (d_cmpT op_eq opd_eqI (d_var 1) (d_bin op_sub opd_I0 (d_callB call_len_seq (cd_len hK) (by rfl) T.len_ (by decide +kernel) (da_cons (d_var 0) da_nil)) (d_var 2)) (nomark _)) (d_and1 (d_cmpT (op_eqD (hu64 hr)) (opd_eqD hK) (d_cut2 hK (d_ixS hK (d_var 0) (d_bin op_sub opd_I0 (d_var 1) d_int))) (d_tup (da_cons d_int (da_cons d_int da_nil))) (nomark _)))))
    (s_one (s_set 1 sc__law_trim.nd (d_bin op_sub opd_I0 (d_var 1) d_int)))
    s_nil)))
    (s_one (s_ret (d_frz (d_callTy call_list_of (cd_list hK) (by rfl) T.list_ (by decide +kernel) (da_cons (d_frz (d_cutL (d_var 0) (d_var 1))) da_nil))))))), fun rs P h => ?_⟩)
  · rintro rs P ⟨l, rfl, _⟩; rfl
  · obtain ⟨l, rfl, hl, hP⟩ := h
    walk_at "st"
    refine ⟨?_, ?_, ?_⟩
    · show -1000 ≤ ((l.map encT).length : Int)
      omega
    · show ((l.map encT).length : Int) ≤ 1000
      rw [List.length_map]; omega
    show forRun _ _ _ (rgD (((l.map encT).length : Nat) : Int).toNat) _
    rw [Int.toNat_natCast]
    refine for_inv (fun t ρ => ∃ (k : Nat) (s : Sl), ρ = [.dat (encL l), .dat (.int k), s] ∧ k ≤ l.length ∧ (∀ j, k ≤ j → (sr l).c j = 0) ∧ (k + t = l.length ∨ (l.length < k + t ∧ (sr l).c (k - 1) ≠ 0))) ⟨l.length, .un, ?_, Nat.le_refl _, fun j hj => sr_ge hj, .inl rfl⟩ (fun t a ρ' ha hI D hrt hnx hct => ?_) fun ρ' hI => ?_
    · rw [List.length_map]; rfl
    · obtain ⟨k, s, rfl, hk, h0, hc⟩ := hI
      obtain ⟨rfl, hj⟩ := range_get ha
      rw [List.length_map] at hj
      walk_at "st"
      refine ⟨fun hm => ?_, fun hm => ?_⟩
      · have hm1 : k + a = l.length := by
          have := of_decide_eq_true hm
          rw [List.length_map] at this
          omega
        have hkl : k - 1 < l.length := by omega
        refine at_go (d := encT ((sr l).c (k - 1))) (by rw [show ((k : Int) - 1) = ((k - 1 : Nat) : Int) by omega]; exact atT hkl) ?_
        refine ⟨lb rfl, ?_⟩
        refine eq_go ((sh_2 _ _).shaped rfl) rfl (eqv_2 _) ?_
        refine ⟨fun he => ?_, fun he => ?_⟩
        · refine hnx _ ⟨k - 1, .dat (.int (a : Int)), ?_, by omega, fun j hj => ?_, .inl (by omega)⟩
          · show [_, Sl.dat (.int ((k : Int) - 1)), _] = [_, _, _]
            rw [show ((k : Int) - 1) = ((k - 1 : Nat) : Int) by omega]
          · by_cases q : j = k - 1
            · subst q; exact of_decide_eq_true he
            · exact h0 j (by omega)
        · exact hnx _ ⟨k, _, rfl, hk, h0, .inr ⟨by omega, of_decide_eq_false he⟩⟩
      · have hm1 : k + a ≠ l.length := by
          have := of_decide_eq_false hm
          rw [List.length_map] at this
          omega
        refine ⟨fun z => (nomatch z), fun _ => hnx _ ⟨k, _, rfl, hk, h0, .inr ?_⟩⟩
        rcases hc with hc | ⟨h1, h2⟩
        · exact absurd hc hm1
        · exact ⟨by omega, h2⟩
    · obtain ⟨k, s, rfl, hk, h0, hc⟩ := hI
      rw [List.length_range, List.length_map] at hc
      walk_at "st"
      obtain ⟨q1, q2⟩ := tr_take hk h0 fun h1 => by
        rcases hc with hc | ⟨h1, h2⟩
        · omega
        · exact h2
      show P (.dat (.list (cutA (l.map encT) none (some (k : Int)))))
      rw [cutA_nat (by rw [List.length_map]; exact hk), ← List.map_take]
      exact hP _ q1 q2

theorem g__law_told_row : Good P w K mg base 4 "_law_told_row" ["_law_row_here"] sp_law_told_row := by
  refine good_mk (T.defs ("_law_told_row", 75) (by decide)) sc__law_told_row (fun _ _ _ _ _ _ us hl => match us, hl with | [_], _ => rfl) ?_ (fun cdv A outer s H E B f hK hr => ⟨_, (s_one (s_ret (d_callTy call_tuple_of (cd_tuple hK) (by rfl) T.tuple_ (by decide +kernel) (da_cons (d_frz (d_lc 1 sc__law_told_row.nd (i_list hK (c_call (g__law_trim T) hK (hr.mono (by decide)) (da_cons (d_var 0) da_nil))) (blkOk_by (by rfl)) (fun _ _ _ _ _ => pg_name (i := 1) sc__law_told_row.nd rfl (Or.inl rfl)) (fun _ _ _ _ _ => (c_call (g__law_told T) hK (hr.mono (by decide)) (da_cons (d_var 1) da_nil))))) da_nil)))), fun rs P h => ?_⟩)
  · rintro rs P ⟨l, rfl, _⟩; rfl
  · obtain ⟨l, rfl, hl, hb, hP⟩ := h
    walk_at "st"
    refine ⟨rfl, _, rfl, hl, fun r hr e => ?_⟩
    have hrl : r.length ≤ l.length := hr.len_le (by rw [e]; exact dl_sr l)
    refine lc_map (f := encN) (fun y hy PP hp => ⟨_, rfl, ?_, hp⟩) (by omega) ?_
    · have hb2 : TDA r := fun k => by rw [e]; exact hb k
      exact hb2.mem hy
    · exact hP r hr e

theorem g__law_told_quotient : Good P w K mg base 5 "_law_told_quotient" ["_law_pair"] sp_law_told_quotient := by
  refine good_mk (T.defs ("_law_told_quotient", 76) (by decide)) sc__law_told_quotient (fun _ _ _ _ _ _ us hl => match us, hl with | [_], _ => rfl) ?_ (fun cdv A outer s H E B f hK hr => ⟨_, (s_one (s_ret (d_tup (da_cons (c_call (g__law_told_row T) hK (hr.mono (by decide)) (da_cons (d_ix hK (d_var 0) d_int) da_nil)) (da_cons (c_call (g__law_told_row T) hK (hr.mono (by decide)) (da_cons (d_ix hK (d_var 0) d_int) da_nil)) da_nil))))), fun rs P h => ?_⟩)
  · rintro rs P ⟨t, u, rfl, _⟩; rfl
  · obtain ⟨t, u, rfl, h1, h2, h3, h4, hP⟩ := h
    walk_at "st"
    exact ⟨_, rfl, h1, h3, fun r hr e => ⟨_, rfl, h2, h4, fun s hs e' => ⟨lb rfl, hP r s hr hs e e'⟩⟩⟩

theorem g__law_row_value : Good P w K mg base 4 "_law_row_value" ["_law_row_here", "_law_x"] sp_law_row_value := by
  refine good_mk (T.defs ("_law_row_value", 84) (by decide)) sc__law_row_value (fun _ _ _ _ _ _ us hl => match us, hl with | [_, _], _ => rfl) ?_ (fun cdv A outer s H E B f hK hr => ⟨_, (s_cons (s_set 2 sc__law_row_value.nd (d_tup (da_cons d_int (da_cons d_int (da_cons d_int da_nil)))))
    (s_cons (s_for (i_list hK (d_frz (d_revL (d_var 0)))) (g_name 3 sc__law_row_value.nd)
    (s_one (s_set 2 sc__law_row_value.nd (c_call (g__law_add T) hK (hr.mono (by decide)) (da_cons (c_call (g__law_times T) hK (hr.mono (by decide)) (da_cons (d_var 2) (da_cons (d_var 1) da_nil))) (da_cons (d_var 3) da_nil))))))
    (s_one (s_ret (d_var 2))))), fun rs P h => ?_⟩)
  · rintro rs P ⟨l, x, rfl, _⟩; rfl
  · obtain ⟨l, x, rfl, ok, hP⟩ := h
    walk_at "st"
    refine ⟨lb rfl, ?_⟩
    show forRun _ _ _ (l.map encT).reverse _
    rw [← List.map_reverse]
    refine for_inv (fun j ρ => ∃ a : Sl, ρ = [.dat (encL l), .dat (encT x), .dat (encT (ev (l.drop (l.length - j)) x)), a]) ⟨.un, ?_⟩ (fun j a ρ' ha hI D hrt hnx hct => ?_) fun ρ' hI => ?_
    · rw [Nat.sub_zero, List.drop_length]
      show _ = [_, _, Sl.dat (encT 0), _]
      rw [enc_0]; rfl
    · obtain ⟨s1, rfl⟩ := hI
      refine ⟨_, _, rfl, ok.b1 _, ok.bx, ?_⟩
      refine ⟨_, _, rfl, ok.b2 _, ?_, ?_⟩
      · exact ok.bl.mem (List.mem_reverse.mp (List.mem_of_getElem? ha))
      show D.nx [_, _, Sl.dat (encT (ev (l.drop (l.length - j)) x * x + a)), _]
      rw [← ev_drop ha]
      exact hnx _ ⟨_, rfl⟩
    · obtain ⟨s1, rfl⟩ := hI
      rw [List.length_reverse, Nat.sub_self, List.drop_zero]
      exact hP
end
end K12
namespace K12
open PySem PySem.Spec PyProof.Rows L2 DL
open Ser
/-- what one step adds to the heights -/
def up1 (lb hb : Nat) : Nat := if lb = 1 then 0 else hb + 1
def up2 (lb hb : Nat) : Nat := if lb = 1 then 0 else hb
/-- sizes of a division -/
def szL (la ha da lb hb db : Nat) : Bool := decide (la ≤ 400) && decide (lb ≤ 400) && decide (hb + db < 2200) && decide (2 * db < 2200)
  && decide (ha + (la + 1 - lb) * up1 lb hb + (da + (la + 1 - lb) * up2 lb hb) < 2200) && decide (2 * (da + (la + 1 - lb) * up2 lb hb) < 2200)
  && (if la < lb then true else if lb = 1 then decide (ha + db + (da + hb) < 2200) && decide (2 * (da + hb) < 2200) else decide (ha + (la + 1 - lb) * (hb + 1) + (da + (la + 1 - lb) * hb) + db < 2200 + hb))
structure LdOk (l m : List G) (ha da hb db : Nat) : Prop where
  tl : Tr l
  tm : Tr m
  m0 : m ≠ []
  Hl : Hs ha da (sr l).c
  Hm : Hs hb db (sr m).c
  sz : szL l.length ha da m.length hb db = true
structure DivRes (l m q r : List G) (ha da hb db : Nat) : Prop where
  ql : q.length = l.length + 1 - m.length
  qt : TA 2200 q
  eq : sr l = sr q * sr m + sr r
  tr : Tr r
  rl : r.length < m.length
  H : Hs (ha + (l.length + 1 - m.length) * up1 m.length hb) (da + (l.length + 1 - m.length) * up2 m.length hb) (sr r).c
def sp_law_row_divided : FS := fun rs P => ∃ (l m : List G) (ha da hb db : Nat), rs = [.dat (encL l), .dat (encL m)] ∧ LdOk l m ha da hb db ∧ ∀ q r, DivRes l m q r ha da hb db → P (.dat (.tuple [encL q, encL r]))
def sp_law_row_sum : FS := fun rs P => ∃ l m : List G, rs = [.dat (encL l), .dat (encL m)] ∧ l.length ≤ 400 ∧ m.length ≤ 400 ∧ TA 2200 l ∧ TA 2200 m ∧ ∀ r, Tr r → sr r = sr l + sr m → P (.dat (encL r))
theorem rep_flat {α : Type} (a : α) : ∀ n : Nat, (List.replicate n [a]).flatten = List.replicate n a
  | 0 => rfl
  | n + 1 => by rw [List.replicate_succ, List.flatten_cons, rep_flat a n, List.replicate_succ]; rfl
theorem rep_enc (n : Nat) : (List.replicate n [PyData.tuple [.int 0, .int 0, .int 1]]).flatten = (toL n fun _ => 0).map encT := by
  rw [rep_flat, toL_rep, List.map_replicate, enc_0]
theorem setT {n j : Nat} {f : Nat → G} {v : G} : ((toL n f).map encT).set j (encT v) = (toL n fun k => if k = j then v else f k).map encT := by
  rw [← List.map_set, toL_set]
theorem gmax_S (a b : Nat) : (gMax 0 ((a : Int) - b + 1)).toNat = a + 1 - b := by
  unfold gMax
  split <;> omega
theorem low_c {a : Nat} {m : List G} (j : Nat) : (sr (toL a (fun _ => 0) ++ m)).c j = if a ≤ j then (sr m).c (j - a) else 0 := by
  rw [sr_c, List.getD_eq_getElem?_getD]
  by_cases h : a ≤ j
  · rw [if_pos h, List.getElem?_append_right (by rw [toL_len]; exact h), toL_len, sr_c, List.getD_eq_getElem?_getD]
  · rw [if_neg h, List.getElem?_append_left (by rw [toL_len]; omega), toL_get (by omega)]; rfl
/-- a quotient's list, one place set -/
theorem toL_upd {S a : Nat} {φ : Nat → G} {x : G} (ha : a < S) (h0 : φ a = 0) : sr (toL S fun k => if k = a then x else φ k) = sr (toL S φ) + mono a x := Ser.ext' fun k => by
  rw [add_c]
  show _ = _ + (if k = a then x else 0)
  by_cases h : k < S
  · rw [toL_c h, toL_c h]
    by_cases q : k = a
    · subst q; rw [if_pos rfl, if_pos rfl, h0]; grind
    · rw [if_neg q, if_neg q]; grind
  · rw [toL_ge (by omega), toL_ge (by omega), if_neg (by omega)]; grind
theorem lead_mul {h d hb db n e k : Nat} {f m : Nat → G} (H : Hs h d f) (H' : Hs hb db m) (h0 : m e ≠ 0) : Hn (h + hb) (d + hb) (f n / m e * m k) := by
  obtain ⟨a, q1, q2, q3⟩ := H
  obtain ⟨b, r1, r2, r3⟩ := H'
  refine ⟨a * (b * m e), ne_mul q1 (ne_mul r1 h0), q2.mulP (r3 e), ?_⟩
  rw [show a * (b * m e) * (f n / m e * m k) = (a * f n) * (b * m k) by grind]
  exact (q3 n).mulP (r3 k)
/-- one step -/
structure StepOk (r m r' : List G) (x : G) : Prop where
  e : sr r = mono (r.length - m.length) x * sr m + sr r'
  l : r'.length + 1 ≤ r.length
theorem step_eq {r m r' : List G} {a n : Nat} (tr : Tr r) (tm : Tr m) (m0 : m ≠ []) (hn : r.length = n + 1) (ha : a + m.length = n + 1) (tr' : Tr r') (e : sr r' = sr (toL n fun j => (sr r).c j - (sr r).c n / (sr m).c (m.length - 1) * (sr (toL a (fun _ => 0) ++ m)).c j)) : StepOk r m r' ((sr r).c n / (sr m).c (m.length - 1)) := by
  have mp := List.length_pos_iff.mpr m0
  have hm := tm.dg m0
  have dr := dl_sr r
  have e2 : sr r' = sr r - mono a ((sr r).c n / (sr m).c (m.length - 1)) * sr m := by
    rw [e]
    refine Ser.ext' fun k => ?_
    rw [sub_c, mono_mul]
    by_cases h : k < n
    · rw [toL_c h, low_c]
      by_cases q : a ≤ k
      · rw [if_pos q, if_pos q]
      · rw [if_neg q, if_neg q]; grind
    · rw [toL_ge (by omega), if_pos (by omega)]
      by_cases q : k = n
      · subst q
        rw [show k - a = m.length - 1 by omega]
        have := hm.1
        grind
      · rw [dr k (by omega), hm.2 (k - a) (by omega)]; grind
  refine ⟨?_, ?_⟩
  · rw [show r.length - m.length = a by omega, e2]; grind
  · have : r'.length ≤ n := tr'.len_le (by rw [e]; exact (dl_sr _).mono (by rw [toL_len]; exact Nat.le_refl _))
    omega
theorem step_hs {r m r' : List G} {a n h d hb db : Nat} (tr : Tr r) (tm : Tr m) (m0 : m ≠ []) (hn : r.length = n + 1) (ha : a + m.length = n + 1) (e : sr r' = sr (toL n fun j => (sr r).c j - (sr r).c n / (sr m).c (m.length - 1) * (sr (toL a (fun _ => 0) ++ m)).c j)) (Hr : Hs h d (sr r).c) (Hm : Hs hb db (sr m).c) : Hs (h + up1 m.length hb) (d + up2 m.length hb) (sr r').c := by
  have mp := List.length_pos_iff.mpr m0
  have hm := tm.dg m0
  unfold up1 up2
  by_cases h1 : m.length = 1
  · rw [if_pos h1, if_pos h1]
    obtain ⟨g, q1, q2, q3⟩ := Hr
    refine ⟨g, q1, q2, fun k => ?_⟩
    rw [e]
    by_cases hk : k < n
    · rw [toL_c hk, low_c, if_neg (by omega), show ∀ x y : G, x - y * 0 = x by intro x y; grind]; exact q3 k
    · rw [toL_ge (by omega), show g * 0 = 0 by grind]; exact gb_zero _
  · rw [if_neg h1, if_neg h1]
    refine (Hs.elim (n := n) (μ := fun k => if a ≤ k then (sr m).c (k - a) else 0) (f' := (sr r').c) Hr Hm hm.1 (fun k => ?_) fun k => ?_).mono (by omega) (by omega)
    · by_cases q : a ≤ k
      · exact .inr ⟨k - a, if_pos q⟩
      · exact .inl (if_neg q)
    · rw [e]
      by_cases hk : k < n
      · right; right
        rw [toL_c hk, low_c]
      · left
        rw [toL_ge (by omega)]
local macro_rules | `(tactic| walk_at "st") => `(tactic| dsimp -failIfUnchanged only [List.length_cons, List.length_nil, Nat.reduceAdd, Nat.reduceSub, rep0, repS, List.cons_append, List.nil_append, List.set_cons_zero, List.set_cons_succ, gSlot, fNext])
local macro_rules | `(tactic| walk_at "lt2") => `(tactic| first | with_reducible assumption | (with_reducible apply Lt2.mul; walk_at "lt2"; walk_at "lt2") | (with_reducible apply Lt2.neg; walk_at "lt2"))
local macro_rules | `(tactic| walk_at "cm") => `(tactic| (with_reducible apply cm; walk_at "lt2"; walk_at "lt2"; omega))
section
variable {P : Program} {w : World} {K : PySem.W.Frag} {mg : Str → Option Value} {base : Heap} (T : Txt K mg)
include T
theorem g__law_row_divided : Good P w K mg base 4 "_law_row_divided" ["_law_one", "_law_two"] sp_law_row_divided := by
  refine good_mk (T.defs ("_law_row_divided", 71) (by decide)) sc__law_row_divided (fun _ _ _ _ _ _ us hl => match us, hl with | [_, _], _ => rfl) ?_ (fun cdv A outer s H E B f hK hr => ⟨_, (s_cons (s_parC 3 4 sc__law_row_divided.nd (da_cons (d_bin op_rep opd_rep (d_lst (da_cons (d_tup (da_cons d_int (da_cons d_int (da_cons d_int da_nil)))) da_nil)) (d_callB (call_max2 rfl) cd_max (by rfl) T.max_ (by decide +kernel) (da_cons d_int (da_cons (d_bin op_add opd_I0 (d_bin op_sub opd_I0 (d_callB call_len_seq (cd_len hK) (by rfl) T.len_ (by decide +kernel) (da_cons (d_var 0) da_nil)) (d_callB call_len_seq (cd_len hK) (by rfl) T.len_ (by decide +kernel) (da_cons (d_var 1) da_nil))) d_int) da_nil)))) (da_cons (d_frz (d_callTy call_list_of (cd_list hK) (by rfl) T.list_ (by decide +kernel) (da_cons (d_var 0) da_nil))) da_nil)) (by decide))
    (s_cons (s_for (i_range1 (by rfl) T.range_ (da_cons (d_callB call_len_seq (cd_len hK) (by rfl) T.len_ (by decide +kernel) (da_cons (d_var 0) da_nil)) da_nil)) (g_name 2 sc__law_row_divided.nd)
    (s_one (s_if (d_cmpT op_ge opd_B0 (d_callB call_len_seq (cd_len hK) (by rfl) T.len_ (by decide +kernel) (da_cons (d_var 4) da_nil)) (d_callB call_len_seq (cd_len hK) (by rfl) T.len_ (by decide +kernel) (da_cons (d_var 1) da_nil)) (nomark _))
    (s_cons (s_parC 5 6 sc__law_row_divided.nd (da_cons (d_bin op_sub opd_I0 (d_callB call_len_seq (cd_len hK) (by rfl) T.len_ (by decide +kernel) (da_cons (d_var 4) da_nil)) (d_callB call_len_seq (cd_len hK) (by rfl) T.len_ (by decide +kernel) (da_cons (d_var 1) da_nil))) (da_cons (c_call (g__law_over T) hK (hr.mono (by decide)) (da_cons (d_ixS hK (d_var 4) (d_un un_neg d_int)) (da_cons (d_ixS hK (d_var 1) (d_un un_neg d_int)) da_nil))) da_nil)) (by decide))
    (s_cons (s_setO 3 (d_var 6) (d_var 5))
    (s_cons (s_parC 7 8 sc__law_row_divided.nd (da_cons (d_frz (d_bin op_catR opd_cat (d_frz (d_bin op_rep opd_rep (d_lst (da_cons (d_tup (da_cons d_int (da_cons d_int (da_cons d_int da_nil)))) da_nil)) (d_var 5))) (d_frz (d_callTy call_list_of (cd_list hK) (by rfl) T.list_ (by decide +kernel) (da_cons (d_var 1) da_nil))))) (da_cons (d_bin op_sub opd_I0 (d_callB call_len_seq (cd_len hK) (by rfl) T.len_ (by decide +kernel) (da_cons (d_var 4) da_nil)) d_int) da_nil)) (by decide))
    (s_one (s_set 4 sc__law_row_divided.nd (c_call (g__law_trim T) hK (hr.mono (by decide)) (da_cons (d_frz (d_lc 9 sc__law_row_divided.nd (i_range1 (by rfl) T.range_ (da_cons (d_var 8) da_nil)) (blkOk_by (by rfl)) (fun _ _ _ _ _ => pg_name (i := 9) sc__law_row_divided.nd rfl (Or.inl rfl)) (fun _ _ _ _ _ => (c_call (g__law_less T) hK (hr.mono (by decide)) (da_cons (d_ixS hK (d_var 4) (d_var 9)) (da_cons (c_call (g__law_times T) hK (hr.mono (by decide)) (da_cons (d_var 6) (da_cons (d_ixS hK (d_var 7) (d_var 9)) da_nil))) da_nil)))))) da_nil)))))))
    s_nil)))
    (s_one (s_frz 3 (s_ret (d_tup (da_cons (d_var 3) (da_cons (d_var 4) da_nil)))))))), fun rs P h => ?_⟩)
  · rintro rs P ⟨l, m, ha, da, hb, db, rfl, _⟩; rfl
  · obtain ⟨l, m, ha, da, hb, db, rfl, ok, hP⟩ := h
    have tl := ok.tl
    have tm := ok.tm
    have Hm := ok.Hm
    have mp := List.length_pos_iff.mpr ok.m0
    have sz := ok.sz
    unfold szL at sz
    simp only [Bool.and_eq_true, decide_eq_true_eq] at sz
    obtain ⟨⟨⟨⟨⟨⟨z1, z2⟩, z3⟩, z4⟩, z5⟩, z6⟩, z7⟩ := sz
    obtain ⟨S, hS⟩ : ∃ S, S = l.length + 1 - m.length := ⟨_, rfl⟩
    have tam : TA 2200 m := fun k => (Hm.at k).tb z3 (by omega)
    walk_at "st"
    have k1 : (((l.map encT).length : Int) - ((m.map encT).length : Int) + 1) = (l.length : Int) - m.length + 1 := by rw [List.length_map, List.length_map]
    refine ⟨lb rfl, lb rfl, ?_⟩
    refine ⟨?_, ?_, lb rfl, ?_⟩
    · show gMax 0 (((l.map encT).length : Int) - ((m.map encT).length : Int) + 1) ≤ 1000
      rw [k1]; unfold gMax; split <;> omega
    · show -1000 ≤ gMax 0 (((l.map encT).length : Int) - ((m.map encT).length : Int) + 1)
      rw [k1]; unfold gMax; split <;> omega
    walk_at "st"
    have e1 : (List.replicate (gMax 0 (((l.map encT).length : Int) - ((m.map encT).length : Int) + 1)).toNat [PyData.tuple [.int 0, .int 0, .int 1]]).flatten = (toL S fun _ => 0).map encT := by
      rw [k1, gmax_S, rep_enc, hS]
    rw [e1]
    refine ⟨?_, ?_, ?_⟩
    · show -1000 ≤ ((l.map encT).length : Int)
      omega
    · show ((l.map encT).length : Int) ≤ 1000
      rw [List.length_map]; omega
    show forRun _ _ _ (rgD (((l.map encT).length : Nat) : Int).toNat) _
    rw [Int.toNat_natCast, List.length_map]
    refine for_inv (fun k ρ => ∃ (φ : Nat → G) (r : List G) (s : Nat) (s2 s5 s6 s7 s8 : Sl), ρ = [.dat (encL l), .dat (encL m), s2, .own ((toL S φ).map encT), .dat (encL r), s5, s6, s7, s8, .un] ∧ Tr r ∧ (r.length + k ≤ l.length ∨ r.length < m.length) ∧ r.length + s ≤ l.length ∧ s ≤ S ∧ sr l = sr (toL S φ) * sr m + sr r ∧ (∀ i, TB 2200 (φ i)) ∧ (∀ i, i + m.length ≤ r.length → φ i = 0) ∧ Hs (ha + s * up1 m.length hb) (da + s * up2 m.length hb) (sr r).c) ⟨fun _ => 0, l, 0, .un, .un, .un, .un, .un, rfl, tl, .inl (Nat.le_refl _), Nat.le_refl _, Nat.zero_le _, ?_, fun _ => tb_0, fun _ _ => rfl, ?_⟩ (fun k a ρ' ha' hI D hrt hnx hct => ?_) fun ρ' hI => ?_
    · have : sr (toL S fun _ => 0) = 0 := Ser.ext' fun k => by
        rw [zero_c]
        by_cases h : k < S
        · exact toL_c h
        · exact toL_ge (by omega)
      rw [this]; grind
    · rw [Nat.zero_mul, Nat.zero_mul]; exact ok.Hl
    · obtain ⟨φ, r, s, s2, s5, s6, s7, s8, rfl, tr, hc, hrs, hsS, he, hφ, hφ0, Hr⟩ := hI
      obtain ⟨rfl, hj⟩ := range_get ha'
      walk_at "st"
      refine ⟨fun hge => ?_, fun hlt => ?_⟩
      · have hge1 : m.length ≤ r.length := by
          have := of_decide_eq_true hge
          rw [List.length_map, List.length_map] at this
          omega
        obtain ⟨n, hn⟩ : ∃ n, r.length = n + 1 := ⟨r.length - 1, by omega⟩
        obtain ⟨b, hb'⟩ : ∃ b, b + m.length = n + 1 := ⟨n + 1 - m.length, by omega⟩
        have eb : ((r.map encT).length : Int) - ((m.map encT).length : Int) = (b : Int) := by rw [List.length_map, List.length_map]; omega
        have r0 : r ≠ [] := fun z => by rw [z] at hn; cases hn
        have lr := tr_last r0
        have lm := tr_last ok.m0
        have hmx := tm.dg ok.m0
        rw [hn, Nat.add_sub_cancel] at lr
        have hsS1 : s + 1 ≤ S := by omega
        have mu1 : (s + 1) * up1 m.length hb ≤ S * up1 m.length hb := Nat.mul_le_mul_right _ hsS1
        have mu2 : (s + 1) * up2 m.length hb ≤ S * up2 m.length hb := Nat.mul_le_mul_right _ hsS1
        rw [Nat.succ_mul] at mu1 mu2
        rw [← hS] at z5 z6 z7
        rw [if_neg (by omega)] at z7
        have tbr : TA 2200 r := fun k => (Hr.at k).tb (by omega) (by omega)
        refine at_go (atI_last lr) ?_
        refine at_go (atI_last lm) ?_
        refine ⟨_, _, rfl, tbr _, tam _, hmx.1, ?_⟩
        generalize hld : (sr r).c n / (sr m).c (m.length - 1) = ld
        have Hld := (Hr.at n).div (Hm.at (m.length - 1)) hmx.1
        rw [hld] at Hld
        have tld : TB 2200 ld := by
          by_cases h1 : m.length = 1
          · rw [if_pos h1] at z7
            simp only [up1, up2, if_pos h1, Nat.mul_zero, Nat.add_zero, Bool.and_eq_true, decide_eq_true_eq] at Hld z7
            exact Hld.tb z7.1 (by omega)
          · rw [if_neg h1] at z7
            simp only [up1, up2, if_neg h1, decide_eq_true_eq] at Hld z7 mu1 mu2 z5 z6
            exact Hld.tb (by omega) (by omega)
        walk_at "st"
        rw [eb]
        refine j_go (j := b) (by rw [List.length_map, toL_len]; exact ixN_nat (by omega)) ?_
        walk_at "st"
        rw [setT]
        refine ⟨lb rfl, lb rfl, ?_⟩
        refine ⟨by omega, by omega, lb rfl, ?_⟩
        refine ⟨?_, ?_⟩
        · rw [rep_flat, List.length_replicate, List.length_map]
          show (b : Int).toNat + m.length ≤ 1000
          omega
        have el : (List.replicate ((b : Int).toNat) [PyData.tuple [PyData.int 0, PyData.int 0, PyData.int 1]]).flatten ++ m.map encT = (toL b (fun _ => 0) ++ m).map encT := by
          rw [Int.toNat_natCast, rep_enc, List.map_append]
        rw [el]
        have ef : ((r.map encT).length : Int) - 1 = (n : Int) := by rw [List.length_map]; omega
        refine ⟨rfl, ?_, ?_, ?_⟩
        · show -1000 ≤ ((r.map encT).length : Int) - 1
          rw [ef]; omega
        · show ((r.map encT).length : Int) - 1 ≤ 1000
          rw [ef]; omega
        show lcRun 9 fYes _ _ _ (rgD (((r.map encT).length : Int) - 1).toNat) []
        rw [ef, Int.toNat_natCast]
        refine lc_map (f := fun j => encT ((sr r).c j - ld * (sr (toL b (fun _ => 0) ++ m)).c j)) (fun j hj PP hp => ?_) (by rw [List.length_range]; omega) ?_
        · have hjn : j < n := List.mem_range.mp hj
          refine at_go (atT (by omega)) ?_
          refine at_go (atT (l := toL b (fun _ => 0) ++ m) (by rw [List.length_append, toL_len]; omega)) ?_
          refine ⟨_, _, rfl, tld, ?_, _, _, rfl, tbr j, ?_, hp⟩
          · rw [low_c]
            split
            · exact tam _
            · exact tb_0
          · rw [low_c]
            by_cases q : b ≤ j
            · rw [if_pos q]
              have hp := lead_mul (n := n) (k := j - b) Hr Hm hmx.1
              rw [hld] at hp
              have h1 : m.length ≠ 1 := by omega
              simp only [up1, up2, if_neg h1] at mu1 mu2 z5 z6 hp
              exact hp.tb (by omega) (by omega)
            · rw [if_neg q]
              show TB 2200 (ld * 0)
              rw [show ld * 0 = 0 by grind]; exact tb_0
        rw [mapT_toL]
        refine ⟨_, rfl, by rw [toL_len]; omega, fun r' tr' er' => ?_⟩
        have st := step_eq (r' := r') (a := b) tr tm ok.m0 hn hb' tr' (by rw [hld]; exact er')
        have sh := step_hs (r' := r') (a := b) tr tm ok.m0 hn hb' (by rw [hld]; exact er') Hr Hm
        rw [hld] at st
        refine hnx _ ⟨_, r', s + 1, _, _, _, _, _, rfl, tr', ?_, ?_, hsS1, ?_, fun i => ?_, fun i hi => ?_, ?_⟩
        · have := st.l
          rcases hc with hc | hc
          · left; omega
          · omega
        · have := st.l
          omega
        · rw [toL_upd (by omega) (hφ0 b (by omega)), he, st.e, show r.length - m.length = b by omega]; grind
        · show TB 2200 (if i = b then ld else φ i)
          split
          · exact tld
          · exact hφ i
        · have := st.l
          show (if i = b then ld else φ i) = 0
          rw [if_neg (by omega)]
          exact hφ0 i (by omega)
        · rw [Nat.succ_mul, Nat.succ_mul, ← Nat.add_assoc, ← Nat.add_assoc]; exact sh
      · have hlt1 : r.length < m.length := by
          have := of_decide_eq_false hlt
          rw [List.length_map, List.length_map] at this
          omega
        exact hnx _ ⟨φ, r, s, _, _, _, _, _, rfl, tr, .inr hlt1, hrs, hsS, he, hφ, hφ0, Hr⟩
    · obtain ⟨φ, r, s, s2, s5, s6, s7, s8, rfl, tr, hc, hrs, hsS, he, hφ, hφ0, Hr⟩ := hI
      rw [List.length_range] at hc
      walk_at "st"
      refine ⟨lb rfl, hP _ r ⟨?_, fun k => ?_, ?_, tr, by omega, ?_⟩⟩
      · rw [toL_len, hS]
      · by_cases h : k < S
        · rw [toL_c h]; exact hφ k
        · rw [toL_ge (by omega)]; exact tb_0
      · exact he
      · exact Hr.mono (by rw [← hS]; have := Nat.mul_le_mul_right (up1 m.length hb) hsS; omega) (by rw [← hS]; have := Nat.mul_le_mul_right (up2 m.length hb) hsS; omega)

theorem g__law_row_sum : Good P w K mg base 4 "_law_row_sum" ["_law_one", "_law_two"] sp_law_row_sum := by
  refine good_mk (T.defs ("_law_row_sum", 82) (by decide)) sc__law_row_sum (fun _ _ _ _ _ _ us hl => match us, hl with | [_, _], _ => rfl) ?_ (fun cdv A outer s H E B f hK hr => ⟨_, (s_cons (s_set 2 sc__law_row_sum.nd (d_callB (call_max2 rfl) cd_max (by rfl) T.max_ (by decide +kernel) (da_cons (d_callB call_len_seq (cd_len hK) (by rfl) T.len_ (by decide +kernel) (da_cons (d_var 0) da_nil)) (da_cons (d_callB call_len_seq (cd_len hK) (by rfl) T.len_ (by decide +kernel) (da_cons (d_var 1) da_nil)) da_nil))))
    (s_cons (s_set 3 sc__law_row_sum.nd (d_lc 4 sc__law_row_sum.nd (i_list hK (d_frz (d_lst (da_cons (d_var 0) (da_cons (d_var 1) da_nil))))) (blkOk_by (by rfl)) (fun _ _ _ _ _ => pg_name (i := 4) sc__law_row_sum.nd rfl (Or.inl rfl)) (fun _ _ _ _ _ => (d_frz (d_bin op_catR opd_cat (d_frz (d_callTy call_list_of (cd_list hK) (by rfl) T.list_ (by decide +kernel) (da_cons (d_var 4) da_nil))) (d_frz (d_bin op_rep opd_rep (d_lst (da_cons (d_tup (da_cons d_int (da_cons d_int (da_cons d_int da_nil)))) da_nil)) (d_bin op_sub opd_I0 (d_var 2) (d_callB call_len_seq (cd_len hK) (by rfl) T.len_ (by decide +kernel) (da_cons (d_var 4) da_nil))))))))))
    (s_one (s_ret (c_call (g__law_trim T) hK (hr.mono (by decide)) (da_cons (d_frz (d_lc 5 sc__law_row_sum.nd (i_range1 (by rfl) T.range_ (da_cons (d_var 2) da_nil)) (blkOk_by (by rfl)) (fun _ _ _ _ _ => pg_name (i := 5) sc__law_row_sum.nd rfl (Or.inl rfl)) (fun _ _ _ _ _ => (c_call (g__law_add T) hK (hr.mono (by decide)) (da_cons (d_ixS hK (d_ixO hK 3 d_int) (d_var 5)) (da_cons (d_ixS hK (d_ixO hK 3 d_int) (d_var 5)) da_nil)))))) da_nil)))))), fun rs P h => ?_⟩)
  · rintro rs P ⟨l, m, rfl, _⟩; rfl
  · obtain ⟨l, m, rfl, h1, h2, b1, b2, hP⟩ := h
    walk_at "st"
    have e1 : gMax ((l.map encT).length : Int) ((m.map encT).length : Int) = ((max l.length m.length : Nat) : Int) := by
      unfold gMax
      rw [List.length_map, List.length_map]
      split <;> omega
    have hx : max l.length m.length ≤ 400 := Nat.max_le.mpr ⟨h1, h2⟩
    have hml : l.length ≤ max l.length m.length := Nat.le_max_left ..
    have hmm : m.length ≤ max l.length m.length := Nat.le_max_right ..
    generalize hM : max l.length m.length = M at *
    refine ⟨rfl, lb rfl, ?_⟩
    show lcRun 4 fYes _ _ _ ([l, m].map encL) []
    refine lc_map (f := fun r : List G => encL (r ++ toL (M - r.length) fun _ => 0)) (fun r hr PP hp => ?_) (lb rfl) ?_
    · have hrM : r.length ≤ M := by
        simp only [List.mem_cons, List.not_mem_nil, or_false] at hr
        rcases hr with rfl | rfl <;> assumption
      refine ⟨lb rfl, lb rfl, ?_⟩
      have e2 : gMax ((l.map encT).length : Int) ((m.map encT).length : Int) - ((r.map encT).length : Int) = ((M - r.length : Nat) : Int) := by
        rw [e1, List.length_map]; omega
      refine ⟨?_, ?_, lb rfl, ?_⟩
      · show gMax ((l.map encT).length : Int) ((m.map encT).length : Int) - ((r.map encT).length : Int) ≤ 1000
        rw [e2]; omega
      · show -1000 ≤ gMax ((l.map encT).length : Int) ((m.map encT).length : Int) - ((r.map encT).length : Int)
        rw [e2]; omega
      have e3 : (List.replicate (gMax ((l.map encT).length : Int) ((m.map encT).length : Int) - ((r.map encT).length : Int)).toNat [PyData.tuple [PyData.int 0, PyData.int 0, PyData.int 1]]).flatten = (toL (M - r.length) fun _ => 0).map encT := by
        rw [e2, Int.toNat_natCast, rep_enc]
      show (r.map encT).length + (List.replicate (gMax ((l.map encT).length : Int) ((m.map encT).length : Int) - ((r.map encT).length : Int)).toNat [PyData.tuple [PyData.int 0, PyData.int 0, PyData.int 1]]).flatten.length ≤ 1000 ∧ PP (.dat (.list (r.map encT ++ (List.replicate (gMax ((l.map encT).length : Int) ((m.map encT).length : Int) - ((r.map encT).length : Int)).toNat [PyData.tuple [PyData.int 0, PyData.int 0, PyData.int 1]]).flatten)))
      rw [e3, ← List.map_append, List.length_map, List.length_map, toL_len]
      exact ⟨by omega, hp⟩
    walk_at "st"
    refine ⟨rfl, ?_, ?_, ?_⟩
    · show -1000 ≤ gMax ((l.map encT).length : Int) ((m.map encT).length : Int)
      rw [e1]; omega
    · show gMax ((l.map encT).length : Int) ((m.map encT).length : Int) ≤ 1000
      rw [e1]; omega
    show lcRun 5 fYes _ _ _ (rgD (gMax ((l.map encT).length : Int) ((m.map encT).length : Int)).toNat) []
    rw [e1, Int.toNat_natCast]
    have hc : ∀ (r : List G) (k : Nat), (sr (r ++ toL (M - r.length) fun _ => 0)).c k = (sr r).c k := fun r k => by
      rw [sr_c, sr_c, List.getD_eq_getElem?_getD, List.getD_eq_getElem?_getD]
      by_cases h : k < r.length
      · rw [List.getElem?_append_left h]
      · rw [List.getElem?_append_right (by omega), List.getElem?_eq_none (l := r) (by omega)]
        by_cases h2 : k - r.length < M - r.length
        · rw [toL_get h2]; rfl
        · rw [List.getElem?_eq_none (by rw [toL_len]; omega)]
    refine lc_map (f := fun k => encT ((sr l).c k + (sr m).c k)) (fun k hk PP hp => ?_) (by rw [List.length_range]; omega) ?_
    · have hkM : k < M := List.mem_range.mp hk
      refine at_go (d := encL (l ++ toL (M - l.length) fun _ => 0)) rfl ?_
      refine at_go (atT (l := l ++ toL (M - l.length) fun _ => 0) (by rw [List.length_append, toL_len]; omega)) ?_
      refine at_go (d := encL (m ++ toL (M - m.length) fun _ => 0)) rfl ?_
      refine at_go (atT (l := m ++ toL (M - m.length) fun _ => 0) (by rw [List.length_append, toL_len]; omega)) ?_
      rw [hc, hc]
      exact ⟨_, _, rfl, b1 k, b2 k, hp⟩
    · rw [mapT_toL]
      refine ⟨_, rfl, by rw [toL_len]; omega, fun r hr e => hP r hr ?_⟩
      rw [e]
      exact sr_toL (f := sr l + sr m) (((dl_sr l).mono hml).add ((dl_sr m).mono hmm))
end
end K12
namespace K12
open PySem PySem.Spec PyProof.Rows L2 DL
open Ser
def chkL (fin : Nat → Nat → Nat → Bool) : Nat → Nat → Nat → Nat → Nat → Nat → Nat → Bool
  | 0, _, _, _, _, _, _ => false
  | n + 1, la, ha, da, lb, hb, db => if lb = 0 then fin la ha da else szL la ha da lb hb db && (if la < lb then chkL fin n lb hb db la ha da else (List.range lb).all fun lc => chkL fin n lb hb db lc (ha + (la + 1 - lb) * up1 lb hb) (da + (la + 1 - lb) * up2 lb hb))
def finL (l1 h1 d1 l2 h2 d2 : Nat) (lg hg dg : Nat) : Bool := szL l1 h1 d1 lg hg dg && szL l2 h2 d2 lg hg dg
/-- sizes under which the law's reducing is told -/
structure LrOk (l m : List G) : Prop where
  ex : ∃ n h d h' d', Tr l ∧ Tr m ∧ m ≠ [] ∧ Hs h d (sr l).c ∧ Hs h' d' (sr m).c ∧ chkL (finL l.length h d m.length h' d') n l.length h d m.length h' d' = true
def sp_law_reduced : FS := fun rs P => ∃ l m : List G, rs = [.dat (encL l), .dat (encL m)] ∧ LrOk l m ∧ (NoRed (sr l) (sr m) → P (.dat .none)) ∧ ∀ t u, Red (sr l) (sr m) t u → TDA t → TDA u → t.length ≤ 400 → u.length ≤ 400 → P (.dat (.tuple [encL t, encL u]))
def sp_law_due : FS := fun rs P => ∃ l m : List G, rs = [.dat (encL l), .dat (encL m)] ∧ LrOk l m ∧ (NoRed (sr l) (sr m) → P (.dat .none)) ∧ ∀ t u, Red (sr l) (sr m) t u → P (.dat (encQ (t, u)))
theorem len_ext {l m : List G} (h : l.length = m.length) (e : sr l = sr m) : l = m := by rw [← toL_self l, ← toL_self m, h, e]
theorem exact_div {l g q r : List G} {ha da hb db : Nat} (tl : Tr l) (tg : Tr g) (g0 : g ≠ []) (D : DivRes l g q r ha da hb db) (hx : ∃ x, IsP x ∧ sr l = x * sr g) : sr l = sr q * sr g ∧ Tr q := by
  have gp := List.length_pos_iff.mpr g0
  have dg := tg.dg g0
  obtain ⟨x, hx, ex⟩ := hx
  have rl := D.rl
  have e1 : sr q = x := (div_uniq (r' := 0) dg (isP_sr q) hx ((dl_sr r).mono (by omega)) (fun k _ => zero_c k) (D.eq.symm.trans (by rw [ex]; grind))).1
  have e2 : sr l = sr q * sr g := by rw [e1]; exact ex
  refine ⟨e2, ?_⟩
  have ql := D.ql
  by_cases l0 : l = []
  · have : q = [] := List.length_eq_zero_iff.mp (by rw [ql, l0, List.length_nil]; omega)
    rw [this]; exact tr_nil
  · obtain ⟨y, ty, ey⟩ := row_of (isP_sr q)
    have dl := tl.dg l0
    have lp := List.length_pos_iff.mpr l0
    have y0 : y ≠ [] := fun z => tl.ne l0 (by rw [e2, ← ey, z, sr_nil]; grind)
    have yp := List.length_pos_iff.mpr y0
    have dy := (ty.dg y0).mul dg
    rw [ey, ← e2] at dy
    have := dy.uniq dl
    have : q = y := len_ext (by omega) ey.symm
    rw [this]; exact ty
theorem sr_mapd {l : List G} {d : G} : sr (l.map fun x => x / d) = con (1 / d) * sr l := Ser.ext' fun k => by
  rw [con_mul, sr_c, sr_c, List.getD_eq_getElem?_getD, List.getD_eq_getElem?_getD, List.getElem?_map]
  cases q : l[k]? with
  | none => show (0 : G) = 1 / d * 0; grind
  | some y => show y / d = 1 / d * y; grind
theorem tr_mapd {l : List G} {d : G} (t : Tr l) (h : d ≠ 0) : Tr (l.map fun x => x / d) := fun e => by
  rw [List.getLast?_map] at e
  cases q : l.getLast? with
  | none => rw [q] at e; cases e
  | some y =>
    rw [q] at e
    have e2 : y / d = 0 := Option.some.inj e
    have y0 : y = 0 := by grind
    exact t (by rw [q, y0])
theorem td_div {x y : G} (hx : TB 2200 x) (hy : TB 2200 y) (h : y ≠ 0) : Lt2 8999 (tD (x / y)) := by
  obtain ⟨a1, a2, a3⟩ := hx
  obtain ⟨b1, b2, b3⟩ := hy
  have n1 : Lt2 4401 (tA y * tA y + tB y * tB y) := (b1.mul b1).add (b2.mul b2)
  have hd := Int.mul_ne_zero (td_ne x) (tn_ne h)
  have n2 : Lt2 8999 (tD x * (tA y * tA y + tB y * tB y)) := (a3.mul n1).mono (by decide)
  have t := tri (x / y)
  obtain ⟨v1, v2⟩ := tv_over (x := x) h
  have k1 : tA (x / y) * (tD x * (tA y * tA y + tB y * tB y)) = ((tA x * tA y + tB x * tB y) * tD y) * tD (x / y) := cast_inj' (by
    rw [Rat.intCast_mul (tA (x / y)), Rat.intCast_mul _ (tD (x / y)), ← t.re, ← v1]; grind)
  have k2 : tB (x / y) * (tD x * (tA y * tA y + tB y * tB y)) = ((tB x * tA y - tA x * tB y) * tD y) * tD (x / y) := cast_inj' (by
    rw [Rat.intCast_mul (tB (x / y)), Rat.intCast_mul _ (tD (x / y)), ← t.im, ← v2]; grind)
  have dv : tD (x / y) ∣ tD x * (tA y * tA y + tB y * tB y) := dvd_of_low t.low ⟨_, by rw [k1, Int.mul_comm]⟩ ⟨_, by rw [k2, Int.mul_comm]⟩
  have := Int.natAbs_dvd_natAbs.mpr dv
  exact Nat.lt_of_le_of_lt (Nat.le_of_dvd (by omega) this) n2
theorem red_of {l m g up dn : List G} (tm : Tr m) (m0 : m ≠ []) (g0 : sr g ≠ 0) (G1 : Gcd (sr g) (sr l) (sr m)) (e1 : sr l = sr up * sr g) (e2 : sr m = sr dn * sr g) (t1 : Tr up) (t2 : Tr dn) (h : (sr dn).c 0 ≠ 0) : Red (sr l) (sr m) (up.map fun x => x / (sr dn).c 0) (dn.map fun x => x / (sr dn).c 0) := by
  obtain ⟨s, r, hs, hr, e⟩ := G1.cop g0 (isP_sr up) (isP_sr dn) e1 e2
  refine ⟨tr_mapd t1 h, tr_mapd t2 h, ?_, ⟨s * con ((sr dn).c 0), r * con ((sr dn).c 0), isP_mul hs (isP_con _), isP_mul hr (isP_con _), ?_⟩, ?_⟩
  · rw [sr_mapd, con_mul]; grind
  · rw [sr_mapd, sr_mapd]
    have := con_inv h
    grind
  · rw [sr_mapd, sr_mapd, e1, e2]; grind
theorem nored_of {l m g up dn : List G} (tm : Tr m) (m0 : m ≠ []) (g0 : sr g ≠ 0) (G1 : Gcd (sr g) (sr l) (sr m)) (e1 : sr l = sr up * sr g) (e2 : sr m = sr dn * sr g) (h : (sr dn).c 0 = 0) : NoRed (sr l) (sr m) :=
  ⟨sr up, sr dn, isP_sr _, isP_sr _, fun z => tm.ne m0 (by rw [e2, z]; grind), G1.cop g0 (isP_sr up) (isP_sr dn) e1 e2, h, by rw [e1, e2]; grind⟩
local macro_rules | `(tactic| walk_at "st") => `(tactic| dsimp -failIfUnchanged only [List.length_cons, List.length_nil, Nat.reduceAdd, Nat.reduceSub, rep0, repS, List.cons_append, List.nil_append, List.set_cons_zero, List.set_cons_succ, gSlot, fNext])
local macro_rules | `(tactic| walk_at "lt2") => `(tactic| first | with_reducible assumption | (with_reducible apply Lt2.mul; walk_at "lt2"; walk_at "lt2") | (with_reducible apply Lt2.neg; walk_at "lt2"))
local macro_rules | `(tactic| walk_at "cm") => `(tactic| (with_reducible apply cm; walk_at "lt2"; walk_at "lt2"; omega))
section
variable {P : Program} {w : World} {K : PySem.W.Frag} {mg : Str → Option Value} {base : Heap} (T : Txt K mg)
include T
theorem g__law_reduced : Good P w K mg base 5 "_law_reduced" ["_law_top", "_law_under_here"] sp_law_reduced := by
  refine good_mk (T.defs ("_law_reduced", 72) (by decide)) sc__law_reduced (fun _ _ _ _ _ _ us hl => match us, hl with | [_, _], _ => rfl) ?_ (fun cdv A outer s H E B f hK hr => ⟨_, (s_cons (s_par 2 3 sc__law_reduced.nd (da_cons (d_var 0) (da_cons (d_var 1) da_nil)))
    (s_cons (s_while (d_cmpT (op_neD (hu64 hr)) (opd_neD hK) (d_var 3) (d_frz (d_lst da_nil)) (nomark _))
    (s_one (s_par 2 3 sc__law_reduced.nd (da_cons (d_var 3) (da_cons (d_ix hK (c_call (g__law_row_divided T) hK (hr.mono (by decide)) (da_cons (d_var 2) (da_cons (d_var 3) da_nil))) d_int) da_nil)))))
    (s_cons (s_parC 4 5 sc__law_reduced.nd (da_cons (d_ix hK (c_call (g__law_row_divided T) hK (hr.mono (by decide)) (da_cons (d_var 0) (da_cons (d_var 2) da_nil))) d_int) (da_cons (d_ix hK (c_call (g__law_row_divided T) hK (hr.mono (by decide)) (da_cons (d_var 1) (da_cons (d_var 2) da_nil))) d_int) da_nil)) (by decide))
    (s_cons (s_if (d_cmpT (op_eqD (hu64 hr)) (opd_eqD hK) (d_cut2 hK (d_ixS hK (d_var 5) d_int)) (d_tup (da_cons d_int (da_cons d_int da_nil))) (nomark _))
    (s_one (s_ret d_non))
    s_nil)
    (s_one (s_ret (d_tup (da_cons (d_frz (d_lc 6 sc__law_reduced.nd (i_list hK (d_var 4)) (blkOk_by (by rfl)) (fun _ _ _ _ _ => pg_name (i := 6) sc__law_reduced.nd rfl (Or.inl rfl)) (fun _ _ _ _ _ => (c_call (g__law_over T) hK (hr.mono (by decide)) (da_cons (d_var 6) (da_cons (d_ixS hK (d_var 5) d_int) da_nil)))))) (da_cons (d_frz (d_lc 6 sc__law_reduced.nd (i_list hK (d_var 5)) (blkOk_by (by rfl)) (fun _ _ _ _ _ => pg_name (i := 6) sc__law_reduced.nd rfl (Or.inl rfl)) (fun _ _ _ _ _ => (c_call (g__law_over T) hK (hr.mono (by decide)) (da_cons (d_var 6) (da_cons (d_ixS hK (d_var 5) d_int) da_nil)))))) da_nil))))))))), fun rs P h => ?_⟩)
  · rintro rs P ⟨l, m, rfl, _⟩; rfl
  · obtain ⟨l, m, rfl, ⟨n0, h, d, h', d', tl, tm, m0, Hl, Hm, hc⟩, hN, hR⟩ := h
    walk_at "st"
    generalize hfin : finL l.length h d m.length h' d' = fin at hc
    refine ⟨fun k ρ => ∃ (a b : List G) (ha da hb db n : Nat), k = b.length ∧ ρ = [.dat (encL l), .dat (encL m), .dat (encL a), .dat (encL b), .un, .un, .un] ∧ Tr a ∧ Tr b ∧ Hs ha da (sr a).c ∧ Hs hb db (sr b).c ∧ chkL fin n a.length ha da b.length hb db = true ∧ (∀ g, Gcd g (sr a) (sr b) → Gcd g (sr l) (sr m)) ∧ (a ≠ [] ∨ b ≠ []), ⟨_, l, m, h, d, h', d', n0, rfl, rfl, tl, tm, Hl, Hm, hc, fun g hg => hg, .inr m0⟩, ?_⟩
    rintro k ρ ⟨a, b, ha, da, hb, db, n, rfl, rfl, ta, tb, Ha, Hb, hc, hg, hne⟩
    refine ⟨lb rfl, ?_⟩
    refine ne_go ((sh_L b).shaped rfl) rfl (eqv_L0 b) ?_
    refine ⟨fun hb0 => ?_, fun hb0 => ?_⟩
    · have b0 : b ≠ [] := fun z => by
        rw [z] at hb0
        exact nomatch hb0
      have bp := List.length_pos_iff.mpr b0
      cases n with
      | zero => exact nomatch hc
      | succ n =>
        unfold chkL at hc
        rw [if_neg (by omega), Bool.and_eq_true] at hc
        obtain ⟨z1, z2⟩ := hc
        walk_at "st"
        refine ⟨_, _, _, _, _, _, rfl, ⟨ta, tb, b0, Ha, Hb, z1⟩, fun q r D => ?_⟩
        have rl := D.rl
        refine ⟨_, rl, b, r, hb, db, ?_⟩
        have hg2 : ∀ g, Gcd g (sr b) (sr r) → Gcd g (sr l) (sr m) := fun g hg' => hg g (Gcd.step (isP_sr q) D.eq hg')
        by_cases hlt : a.length < b.length
        · rw [if_pos hlt] at z2
          have : r = a := by
            have q0 : q = [] := List.length_eq_zero_iff.mp (by rw [D.ql]; omega)
            refine tr_ext D.tr ta ?_
            have := D.eq
            rw [q0, sr_nil] at this
            rw [this]; grind
          subst this
          exact ⟨ha, da, n, rfl, rfl, tb, ta, Hb, Ha, z2, hg2, .inl b0⟩
        · rw [if_neg hlt] at z2
          simp only [List.all_eq_true, List.mem_range] at z2
          exact ⟨_, _, n, rfl, rfl, tb, D.tr, Hb, D.H, z2 _ rl, hg2, .inl b0⟩
    · have b0 : b = [] := Decidable.byContradiction fun z => by
        rw [decide_eq_false z] at hb0
        exact nomatch hb0
      subst b0
      have a0 : a ≠ [] := hne.resolve_right fun z => z rfl
      cases n with
      | zero => exact nomatch hc
      | succ n =>
        unfold chkL at hc
        rw [if_pos List.length_nil, ← hfin] at hc
        unfold finL at hc
        rw [Bool.and_eq_true] at hc
        obtain ⟨z1, z2⟩ := hc
        have G1 : Gcd (sr a) (sr l) (sr m) := hg _ (by rw [sr_nil]; exact Gcd.base (isP_sr a))
        have an := ta.ne a0
        walk_at "st"
        refine ⟨_, _, _, _, _, _, rfl, ⟨tl, ta, a0, Hl, Ha, z1⟩, fun up r1 D1 => ?_⟩
        refine ⟨_, _, _, _, _, _, rfl, ⟨tm, ta, a0, Hm, Ha, z2⟩, fun dn r2 D2 => ?_⟩
        obtain ⟨e1, t1⟩ := exact_div tl ta a0 D1 G1.l
        obtain ⟨e2, t2⟩ := exact_div tm ta a0 D2 G1.r
        have dn0 : dn ≠ [] := fun z => tm.ne m0 (by rw [e2, z, sr_nil]; grind)
        have dp := List.length_pos_iff.mpr dn0
        walk_at "st"
        refine at_go (i := 0) (atT (k := 0) dp) ?_
        refine ⟨lb rfl, ?_⟩
        refine eq_go ((sh_2 _ _).shaped rfl) rfl (eqv_2 _) ?_
        refine ⟨fun hz => ?_, fun hz => ?_⟩
        · exact hN (nored_of tm m0 an G1 e1 e2 (of_decide_eq_true hz))
        · have d0 : (sr dn).c 0 ≠ 0 := of_decide_eq_false hz
          have red := red_of tm m0 an G1 e1 e2 t1 t2 d0
          have s1 : up.length ≤ 400 := by
            unfold szL at z1
            simp only [Bool.and_eq_true, decide_eq_true_eq] at z1
            have := D1.ql
            have := List.length_pos_iff.mpr a0
            omega
          have s2 : dn.length ≤ 400 := by
            unfold szL at z2
            simp only [Bool.and_eq_true, decide_eq_true_eq] at z2
            have := D2.ql
            have := List.length_pos_iff.mpr a0
            omega
          walk_at "st"
          refine ⟨rfl, ?_⟩
          refine lc_map (enc := encT) (f := fun x => encT (x / (sr dn).c 0)) (fun x hx PP hp => ?_) (by omega) ?_
          · refine at_go (i := 0) (atT (k := 0) dp) ?_
            exact ⟨_, _, rfl, D1.qt.mem hx, D2.qt 0, d0, hp⟩
          refine ⟨rfl, ?_⟩
          refine lc_map (enc := encT) (f := fun x => encT (x / (sr dn).c 0)) (fun x hx PP hp => ?_) (by omega) ?_
          · refine at_go (i := 0) (atT (k := 0) dp) ?_
            exact ⟨_, _, rfl, D2.qt.mem hx, D2.qt 0, d0, hp⟩
          refine ⟨lb rfl, ?_⟩
          have td : ∀ {z : List G}, TA 2200 z → TDA (z.map fun x => x / (sr dn).c 0) := fun {z} hz k => by
            rw [sr_mapd, con_mul, show 1 / (sr dn).c 0 * (sr z).c k = (sr z).c k / (sr dn).c 0 by grind]
            exact td_div (hz k) (D2.qt 0) d0
          have := hR _ _ red (td D1.qt) (td D2.qt) (by rw [List.length_map]; exact s1) (by rw [List.length_map]; exact s2)
          unfold encL at this
          rw [List.map_map, List.map_map] at this
          exact this

theorem g__law_due : Good P w K mg base 6 "_law_due" ["_law_top", "_law_under_here"] sp_law_due := by
  refine good_mk (T.defs ("_law_due", 87) (by decide)) sc__law_due (fun _ _ _ _ _ _ us hl => match us, hl with | [_, _], _ => rfl) ?_ (fun cdv A outer s H E B f hK hr => ⟨_, (s_cons (s_set 2 sc__law_due.nd (c_call (g__law_reduced T) hK (hr.mono (by decide)) (da_cons (d_var 0) (da_cons (d_var 1) da_nil))))
    (s_one (s_ret (d_if (d_isNT (d_var 2)) d_non (c_call (g__law_told_quotient T) hK (hr.mono (by decide)) (da_cons (d_var 2) da_nil)))))), fun rs P h => ?_⟩)
  · rintro rs P ⟨l, m, rfl, _⟩; rfl
  · obtain ⟨l, m, rfl, ok, hN, hR⟩ := h
    walk_at "st"
    refine ⟨_, _, rfl, ok, fun hn => ?_, fun t u red k1 k2 k3 k4 => ?_⟩
    · exact ⟨fun _ => hN hn, fun z => (nomatch z)⟩
    · refine ⟨fun z => (nomatch z), fun _ => ?_⟩
      refine ⟨_, _, rfl, by omega, by omega, k1, k2, fun r s hr hs e1 e2 => ?_⟩
      rw [tr_ext hr red.tt e1, tr_ext hs red.tu e2]
      exact hR t u red
end
end K12
namespace K12
open PySem PySem.Spec PyProof.Rows L2 DL
open Ser
def sp_law_row_times : FS := fun rs P => ∃ l m : List G, rs = [.dat (encL l), .dat (encL m)] ∧ l.length ≤ 10 ∧ m.length ≤ 10 ∧ TA 400 l ∧ TA 400 m ∧ ∀ r, Tr r → sr r = sr l * sr m → P (.dat (encL r))
/-- a common multiple of the denominators -/
structure CM (r : List G) (L : Int) : Prop where
  pos : 0 < L
  dv : ∀ x ∈ r, tD x ∣ L
  sz : Lt2 4001 L
def wA (L : Int) (x : G) : Int := tA x * L.fdiv (tD x)
def wB (L : Int) (x : G) : Int := tB x * L.fdiv (tD x)
def encW (r : List G) (L : Int) : PyData := .list (r.map fun x => .tuple [.int (wA L x), .int (wB L x)])
theorem lt2_1 {n : Nat} : Lt2 (n * 0 + 1) 1 := by
  rw [Nat.mul_zero]
  show 1 < 2 ^ (0 + 1)
  decide
def prd (ls : List (List G × Int)) : Int := (ls.map (·.2)).foldl (· * ·) 1
theorem prd_app (ls : List (List G × Int)) (p : List G × Int) : prd (ls ++ [p]) = prd ls * p.2 := by
  unfold prd
  rw [List.map_append, List.foldl_append]; rfl
theorem fdiv_le {L D : Int} (hL : 0 ≤ L) (hD : 0 < D) {n : Nat} (h : Lt2 n L) : Lt2 n (L.fdiv D) := by
  rw [Int.fdiv_eq_ediv_of_nonneg _ (by omega)]
  unfold Lt2 at *
  have h1 : L / D ≤ L := Int.ediv_le_self _ hL
  have h2 : 0 ≤ L / D := Int.ediv_nonneg hL (by omega)
  omega
/-- one more denominator -/
theorem lcm_step {L D : Int} (hL : 0 < L) (hD : 0 < D) : gGcd L D ≠ 0 ∧ gGcd L D ∣ D ∧ 0 < L.fdiv (gGcd L D) * D ∧ L ∣ L.fdiv (gGcd L D) * D ∧ D ∣ L.fdiv (gGcd L D) * D ∧ (L.fdiv (gGcd L D)).natAbs ≤ L.natAbs := by
  have hg : 0 < gGcd L D := by
    unfold gGcd
    have : 0 < Nat.gcd L.natAbs D.natAbs := Nat.gcd_pos_of_pos_left _ (by omega)
    omega
  have d1 : gGcd L D ∣ L := Int.natAbs_dvd_natAbs.mp (Nat.gcd_dvd_left ..)
  have d2 : gGcd L D ∣ D := Int.natAbs_dvd_natAbs.mp (Nat.gcd_dvd_right ..)
  refine ⟨by omega, d2, ?_⟩
  generalize gGcd L D = g at *
  obtain ⟨q, rfl⟩ := d1
  obtain ⟨e, rfl⟩ := d2
  rw [Int.mul_fdiv_cancel_left _ (by omega)]
  have q0 : 0 < q := Int.pos_of_mul_pos_left (by rw [Int.mul_comm]; exact hL) hg
  have e0 : 0 < e := Int.pos_of_mul_pos_left (by rw [Int.mul_comm]; exact hD) hg
  refine ⟨Int.mul_pos q0 hD, ⟨e, by grind⟩, ⟨q, by grind⟩, ?_⟩
  rw [Int.natAbs_mul]
  exact Nat.le_mul_of_pos_left _ (by omega)
def ci (n : Int) : G := ⟨(n : Rat), 0⟩
theorem gi_w {L : Int} {x : G} (h : tD x ∣ L) : gi (wA L x) (wB L x) = ci L * x := by
  have t := tri x
  have dn := td_ne x
  obtain ⟨c, rfl⟩ := h
  unfold wA wB gi ci
  rw [Int.mul_fdiv_cancel_left _ dn]
  refine G.ext' ?_ ?_
  · show ((tA x * c : Int) : Rat) = ((tD x * c : Int) : Rat) * x.re - 0 * x.im
    push_cast
    rw [← t.re]; grind
  · show ((tB x * c : Int) : Rat) = ((tD x * c : Int) : Rat) * x.im + 0 * x.re
    push_cast
    rw [← t.im]; grind
theorem gi_add (a b c d : Int) : gi (a + c) (b + d) = gi a b + gi c d := by
  refine G.ext' ?_ ?_
  · show ((a + c : Int) : Rat) = (a : Rat) + c
    push_cast; rfl
  · show ((b + d : Int) : Rat) = (b : Rat) + d
    push_cast; rfl
theorem gi_mul (a b c d : Int) : gi (a * c - b * d) (a * d + b * c) = gi a b * gi c d := by
  refine G.ext' ?_ ?_
  · show ((a * c - b * d : Int) : Rat) = (a : Rat) * c - b * d
    push_cast; rfl
  · show ((a * d + b * c : Int) : Rat) = (a : Rat) * d + b * c
    push_cast; rfl
theorem ci_mul (a b : Int) : ci (a * b) = ci a * ci b := by
  refine G.ext' ?_ ?_
  · show ((a * b : Int) : Rat) = (a : Rat) * b - 0 * 0
    push_cast; grind
  · show (0 : Rat) = (a : Rat) * 0 + 0 * b
    grind
theorem gi_ci {f h d : Int} {x : G} (e : gi f h = ci d * x) : x.re * (d : Rat) = (f : Rat) ∧ x.im * (d : Rat) = (h : Rat) := by
  have e1 : (f : Rat) = (d : Rat) * x.re - 0 * x.im := congrArg G.re e
  have e2 : (h : Rat) = (d : Rat) * x.im + 0 * x.re := congrArg G.im e
  exact ⟨by rw [e1]; grind, by rw [e2]; grind⟩
/-- a list of ints -/
def tI (n : Nat) (f : Nat → Int) : List PyData := (List.range n).map fun k => PyData.int (f k)
theorem tI_len (n : Nat) (f : Nat → Int) : (tI n f).length = n := by simp [tI]
theorem tI_get {n j : Nat} {f : Nat → Int} (h : j < n) : (tI n f)[j]? = some (.int (f j)) := by
  unfold tI
  rw [List.getElem?_map, List.getElem?_range h]; rfl
theorem atI_tI {n j : Nat} {f : Nat → Int} (h : j < n) : atI (tI n f) (j : Int) = some (.int (f j)) := atI_nat (tI_get h)
theorem tI_set {n j : Nat} {f : Nat → Int} {v : Int} : (tI n f).set j (.int v) = tI n fun k => if k = j then v else f k := by
  refine List.ext_getElem? fun k => ?_
  by_cases h : k < n
  · rw [tI_get (f := fun k => if k = j then v else f k) h, List.getElem?_set]
    by_cases q : j = k
    · subst q
      rw [if_pos rfl, if_pos (by rw [tI_len]; exact h), if_pos rfl]
    · rw [if_neg q, if_neg (fun z => q z.symm), tI_get h]
  · rw [List.getElem?_eq_none (by rw [List.length_set, tI_len]; omega), List.getElem?_eq_none (by rw [tI_len]; omega)]
theorem rep_int (n : Nat) : (List.replicate n [PyData.int 0]).flatten = tI n fun _ => 0 := by
  rw [rep_flat]
  refine List.ext_getElem? fun k => ?_
  by_cases h : k < n
  · rw [tI_get (f := fun _ => 0) h, List.getElem?_replicate, if_pos h]
  · rw [List.getElem?_eq_none (by simp; omega), List.getElem?_eq_none (by rw [tI_len]; omega)]
local macro_rules | `(tactic| walk_at "st") => `(tactic| dsimp -failIfUnchanged only [List.length_cons, List.length_nil, Nat.reduceAdd, Nat.reduceSub, rep0, repS, List.cons_append, List.nil_append, List.set_cons_zero, List.set_cons_succ, gSlot, fNext])
local macro_rules | `(tactic| walk_at "lt2") => `(tactic| first | with_reducible assumption | (with_reducible apply Lt2.mul; walk_at "lt2"; walk_at "lt2") | (with_reducible apply Lt2.neg; walk_at "lt2"))
local macro_rules | `(tactic| walk_at "cm") => `(tactic| (with_reducible apply cm; walk_at "lt2"; walk_at "lt2"; omega))
section
variable {P : Program} {w : World} {K : PySem.W.Frag} {mg : Str → Option Value} {base : Heap} (T : Txt K mg)
include T
theorem g__law_row_times : Good P w K mg base 4 "_law_row_times" ["_law_one", "_law_two"] sp_law_row_times := by
  refine good_mk (T.defs ("_law_row_times", 79) (by decide)) sc__law_row_times (fun _ _ _ _ _ _ us hl => match us, hl with | [_, _], _ => rfl) ?_ (fun cdv A outer s H E B f hK hr => ⟨_, (s_cons (s_parC 5 6 sc__law_row_times.nd (da_cons (d_lst da_nil) (da_cons d_int da_nil)) (by decide))
    (s_cons (s_for (i_list hK (d_frz (d_lst (da_cons (d_var 0) (da_cons (d_var 1) da_nil))))) (g_name 2 sc__law_row_times.nd)
    (s_cons (s_set 7 sc__law_row_times.nd d_int)
    (s_cons (s_for (i_list hK (d_var 2)) (g_name 8 sc__law_row_times.nd)
    (s_one (s_set 7 sc__law_row_times.nd (d_bin op_mulW opd_I (d_bin op_fd opd_I (d_var 7) (c_call (g__law_gcd T) hK (hr.mono (by decide)) (da_cons (d_var 7) (da_cons (d_ix hK (d_var 8) d_int) da_nil)))) (d_ix hK (d_var 8) d_int)))))
    (s_cons (s_forget 8 (s_appO 5 hK (d_frz (d_lc 8 sc__law_row_times.nd (i_list hK (d_var 2)) (blkOk_by (by rfl)) (fun _ _ _ _ _ => pg_name (i := 8) sc__law_row_times.nd rfl (Or.inl rfl)) (fun _ _ _ _ _ => (d_tup (da_cons (d_bin op_mulW opd_I (d_ix hK (d_var 8) d_int) (d_bin op_fd opd_I (d_var 7) (d_ix hK (d_var 8) d_int))) (da_cons (d_bin op_mulW opd_I (d_ix hK (d_var 8) d_int) (d_bin op_fd opd_I (d_var 7) (d_ix hK (d_var 8) d_int))) da_nil))))))))
    (s_one (s_set 6 sc__law_row_times.nd (d_bin op_mulW opd_I (d_var 6) (d_var 7))))))))
    (s_cons (s_set 3 sc__law_row_times.nd (d_callB (call_max2 rfl) cd_max (by rfl) T.max_ (by decide +kernel) (da_cons d_int (da_cons (d_bin op_sub opd_I0 (d_bin op_add opd_I0 (d_callB call_len_seq (cd_len hK) (by rfl) T.len_ (by decide +kernel) (da_cons (d_var 0) da_nil)) (d_callB call_len_seq (cd_len hK) (by rfl) T.len_ (by decide +kernel) (da_cons (d_var 1) da_nil))) d_int) da_nil))))
    (s_cons (s_parC 9 10 sc__law_row_times.nd (da_cons (d_bin op_rep opd_rep (d_lst (da_cons d_int da_nil)) (d_var 3)) (da_cons (d_bin op_rep opd_rep (d_lst (da_cons d_int da_nil)) (d_var 3)) da_nil)) (by decide))
    (s_cons (s_for (i_range1 (by rfl) T.range_ (da_cons (d_callB call_len_seq (cd_len hK) (by rfl) T.len_ (by decide +kernel) (da_cons (d_var 0) da_nil)) da_nil)) (g_name 4 sc__law_row_times.nd)
    (s_one (s_for (i_range1 (by rfl) T.range_ (da_cons (d_callB call_len_seq (cd_len hK) (by rfl) T.len_ (by decide +kernel) (da_cons (d_var 1) da_nil)) da_nil)) (g_name 11 sc__law_row_times.nd)
    (s_cons (s_asg (d_ixS hK (d_ixO hK 5 d_int) (d_var 4)) (g_tup (n := 2) hK rfl (gs_cons (g_name 12 sc__law_row_times.nd) (gs_cons (g_name 13 sc__law_row_times.nd) gs_nil ae_name) ae_name) (ae_len _) (ae_find _ rfl)) so_sub ss_sub ae_one)
    (s_cons (s_asg (d_ixS hK (d_ixO hK 5 d_int) (d_var 11)) (g_tup (n := 2) hK rfl (gs_cons (g_name 14 sc__law_row_times.nd) (gs_cons (g_name 15 sc__law_row_times.nd) gs_nil ae_name) ae_name) (ae_len _) (ae_find _ rfl)) so_sub ss_sub ae_one)
    (s_cons (s_setO 9 (d_bin op_sub opd_I0 (d_bin op_add opd_I0 (d_ixO hK 9 (d_bin op_add opd_I0 (d_var 4) (d_var 11))) (d_bin op_mulW opd_I (d_var 12) (d_var 14))) (d_bin op_mulW opd_I (d_var 13) (d_var 15))) (d_bin op_add opd_I0 (d_var 4) (d_var 11)))
    (s_one (s_setO 10 (d_bin op_add opd_I0 (d_bin op_add opd_I0 (d_ixO hK 10 (d_bin op_add opd_I0 (d_var 4) (d_var 11))) (d_bin op_mulW opd_I (d_var 12) (d_var 15))) (d_bin op_mulW opd_I (d_var 13) (d_var 14))) (d_bin op_add opd_I0 (d_var 4) (d_var 11))))))))))
    (s_one (s_forget 11 (s_ret (c_call (g__law_trim T) hK (hr.mono (by decide)) (da_cons (d_frz (d_lc 11 sc__law_row_times.nd (i_range1 (by rfl) T.range_ (da_cons (d_var 3) da_nil)) (blkOk_by (by rfl)) (fun _ _ _ _ _ => pg_name (i := 11) sc__law_row_times.nd rfl (Or.inl rfl)) (fun _ _ _ _ _ => (c_call (g__law_cut T) hK (hr.mono (by decide)) (da_cons (d_ixO hK 9 (d_var 11)) (da_cons (d_ixO hK 10 (d_var 11)) (da_cons (d_var 6) da_nil))))))) da_nil)))))))))), fun rs P h => ?_⟩)
  · rintro rs P ⟨l, m, rfl, _⟩; rfl
  · obtain ⟨l, m, rfl, h1, h2, b1, b2, hP⟩ := h
    walk_at "st"
    refine ⟨lb rfl, ?_⟩
    refine ⟨lb rfl, ?_⟩
    dsimp only [Sl.frz, Sl.lst]
    show forRun _ _ _ ([l, m].map encL) _
    refine for_inv (fun t ρ => ∃ (ls : List (List G × Int)) (s2 s7 s8 : Sl), ls.map (·.1) = [l, m].take t ∧ (∀ p ∈ ls, CM p.1 p.2) ∧ Lt2 (4001 * t + 1) (prd ls) ∧ ρ = [.dat (encL l), .dat (encL m), s2, .un, .un, .own (ls.map fun p => encW p.1 p.2), .dat (.int (prd ls)), s7, s8, .un, .un, .un, .un, .un, .un, .un]) ⟨[], .un, .un, .un, rfl, fun p hp => (nomatch hp), lt2_1, rfl⟩ (fun t r ρ' ha hI D hrt hnx hct => ?_) fun ρ' hI => ?_
    · obtain ⟨ls, s2, s7, s8, e1, hcm, hpd, rfl⟩ := hI
      have hr : r ∈ [l, m] := List.mem_of_getElem? ha
      have hrl : r.length ≤ 10 ∧ TA 400 r := by
        simp only [List.mem_cons, List.not_mem_nil, or_false] at hr
        rcases hr with rfl | rfl
        · exact ⟨h1, b1⟩
        · exact ⟨h2, b2⟩
      obtain ⟨hr10, br⟩ := hrl
      walk_at "st"
      show forRun _ _ _ (r.map encT) _
      refine for_inv (fun j ρ => ∃ (L : Int) (s8 : Sl), 0 < L ∧ (∀ x ∈ r.take j, tD x ∣ L) ∧ Lt2 (400 * j + 1) L ∧ ρ = [.dat (encL l), .dat (encL m), .dat (encL r), .un, .un, .own (ls.map fun p => encW p.1 p.2), .dat (.int (prd ls)), .dat (.int L), s8, .un, .un, .un, .un, .un, .un, .un]) ⟨1, s8, by decide, fun x hx => (by simp at hx), lt2_1, rfl⟩ (fun j x ρ' hx hI D' hrt' hnx' hct' => ?_) fun ρ' hI => ?_
      · obtain ⟨L, s8', hL, hdv, hsz, rfl⟩ := hI
        have hxm : x ∈ r := List.mem_of_getElem? hx
        have hjl : j < r.length := (List.getElem?_eq_some_iff.mp hx).1
        have tx := br.mem hxm
        obtain ⟨g0, g1, p1, p2, p3, p4⟩ := lcm_step hL (tD_pos x)
        walk_at "st"
        refine ⟨_, _, rfl, ?_⟩
        have gl : (gGcd L (tD x)).natAbs.log2 < 9000 := log2_lt (n := 9000) (Nat.lt_of_le_of_lt (Nat.le_of_dvd (by have := tD_pos x; omega) (Int.natAbs_dvd_natAbs.mpr g1)) (Nat.lt_of_lt_of_le tx.2.2 (Nat.pow_le_pow_right (by decide) (by decide)))) (by decide)
        have sq : Lt2 (400 * j + 1) (L.fdiv (gGcd L (tD x))) := Nat.lt_of_le_of_lt p4 hsz
        refine ⟨⟨g0, PyProof.noPylong_of_log2 gl⟩, cm sq tx.2.2 (by omega), ?_⟩
        refine hnx' _ ⟨_, _, p1, fun y hy => ?_, (sq.mul tx.2.2).mono (by omega), rfl⟩
        rw [List.take_add_one, hx, List.mem_append] at hy
        rcases hy with hy | hy
        · exact Int.dvd_trans (hdv y hy) p2
        · have : y = x := by simpa using hy
          rw [this]; exact p3
      · obtain ⟨L, s8', hL, hdv, hsz, rfl⟩ := hI
        rw [List.take_length] at hdv
        have cmr : CM r L := ⟨hL, hdv, hsz.mono (by omega)⟩
        walk_at "st"
        refine ⟨rfl, ?_⟩
        refine lc_map (enc := encT) (f := fun x => .tuple [.int (wA L x), .int (wB L x)]) (fun x hx PP hp => ?_) (by omega) ?_
        · have tx := br.mem hx
          have nl : (tD x).natAbs.log2 < 9000 := log2_lt (n := 9000) (Nat.lt_of_lt_of_le tx.2.2 (Nat.pow_le_pow_right (by decide) (by decide))) (by decide)
          have sq := fdiv_le (D := tD x) (by omega) (tD_pos x) cmr.sz
          exact ⟨⟨td_ne x, PyProof.noPylong_of_log2 nl⟩, cm tx.1 sq (by decide), ⟨td_ne x, PyProof.noPylong_of_log2 nl⟩, cm tx.2.1 sq (by decide), lb rfl, hp⟩
        walk_at "st"
        have htl : t < 2 := (List.getElem?_eq_some_iff.mp ha).1
        have hll : ls.length = t := by
          have := congrArg List.length e1
          rw [List.length_map, List.length_take] at this
          simp only [List.length_cons, List.length_nil] at this
          omega
        refine ⟨by rw [List.length_map]; omega, ?_⟩
        refine ⟨cm hpd cmr.sz (by omega), ?_⟩
        refine hnx _ ⟨ls ++ [(r, L)], .dat (encL r), .dat (.int L), .un, ?_, fun p hp => ?_, ?_, ?_⟩
        · rw [List.map_append, e1, List.take_add_one, ha]; rfl
        · rcases List.mem_append.mp hp with hp | hp
          · exact hcm p hp
          · have : p = (r, L) := by simpa using hp
            rw [this]; exact cmr
        · rw [prd_app]; exact (hpd.mul cmr.sz).mono (by omega)
        · rw [prd_app, List.map_append]; rfl
    · obtain ⟨ls, s2, s7, s8, e1, hcm, hpd, rfl⟩ := hI
      obtain ⟨L1, L2, rfl⟩ : ∃ L1 L2, ls = [(l, L1), (m, L2)] := by
        match ls, e1 with
        | [(a, L1), (b, L2)], e1 =>
          cases e1
          exact ⟨_, _, rfl⟩
      have c1 : CM l L1 := hcm (l, L1) (by simp)
      have c2 : CM m L2 := hcm (m, L2) (by simp)
      have ep : prd [(l, L1), (m, L2)] = L1 * L2 := by
        show 1 * L1 * L2 = L1 * L2
        rw [Int.one_mul]
      rw [ep]
      walk_at "st"
      obtain ⟨n, hn⟩ : ∃ n, n = l.length + m.length - 1 := ⟨_, rfl⟩
      have e2 : gMax 0 (((l.map encT).length : Int) + ((m.map encT).length : Int) - 1) = (n : Int) := by
        rw [List.length_map, List.length_map]
        unfold gMax
        split <;> omega
      have er : (List.replicate (gMax 0 (((l.map encT).length : Int) + ((m.map encT).length : Int) - 1)).toNat [PyData.int 0]).flatten = tI n fun _ => 0 := by
        rw [e2, Int.toNat_natCast, rep_int]
      have r1 : gMax 0 (((l.map encT).length : Int) + ((m.map encT).length : Int) - 1) ≤ 1000 := by rw [e2]; omega
      have r2 : -1000 ≤ gMax 0 (((l.map encT).length : Int) + ((m.map encT).length : Int) - 1) := by rw [e2]; omega
      refine ⟨lb rfl, r1, r2, lb rfl, lb rfl, r1, r2, lb rfl, ?_⟩
      rw [er]
      refine ⟨?_, ?_, ?_⟩
      · show -1000 ≤ ((l.map encT).length : Int)
        omega
      · show ((l.map encT).length : Int) ≤ 1000
        rw [List.length_map]; omega
      show forRun _ _ _ (rgD (((l.map encT).length : Nat) : Int).toNat) _
      rw [Int.toNat_natCast, List.length_map]
      have zl : Lt2 4001 L1 := c1.sz
      have zm : Lt2 4001 L2 := c2.sz
      have wsz : ∀ {L : Int} {r : List G} {k : Nat}, CM r L → TA 400 r → Lt2 4401 (wA L ((sr r).c k)) ∧ Lt2 4401 (wB L ((sr r).c k)) := fun {L r k} c b => by
        have sq := fdiv_le (D := tD ((sr r).c k)) (by have := c.pos; omega) (tD_pos _) c.sz
        exact ⟨(b k).1.mul sq, (b k).2.1.mul sq⟩
      refine for_inv (fun t ρ => ∃ (f h : Nat → Int) (s4 s11 s12 s13 s14 s15 : Sl), ρ = [.dat (encL l), .dat (encL m), s2, .dat (.int (n : Int)), s4, .own [encW l L1, encW m L2], .dat (.int (L1 * L2)), s7, s8, .own (tI n f), .own (tI n h), s11, s12, s13, s14, s15] ∧ ∀ k, k < n → gi (f k) (h k) = ci (L1 * L2) * (sr (l.take t) * sr m).c k) ⟨fun _ => 0, fun _ => 0, .un, .un, .un, .un, .un, .un, (by rw [← e2]; simp only [List.length_map]; rfl), fun k hk => ?_⟩ (fun t a ρ' ha hI D hrt hnx hct => ?_) fun ρ' hI => ?_
      · rw [sr_take_0, show (0 : Ser) * sr m = 0 by grind, zero_c]
        show gi 0 0 = _
        have : gi 0 0 = 0 := rfl
        rw [this]; grind
      · obtain ⟨f, h, s4, s11, s12, s13, s14, s15, rfl, hf⟩ := hI
        obtain ⟨rfl, hj⟩ := range_get ha
        walk_at "st"
        refine ⟨?_, ?_, ?_⟩
        · show -1000 ≤ ((m.map encT).length : Int)
          omega
        · show ((m.map encT).length : Int) ≤ 1000
          rw [List.length_map]; omega
        show forRun _ _ _ (rgD (((m.map encT).length : Nat) : Int).toNat) _
        rw [Int.toNat_natCast, List.length_map]
        refine for_inv (fun b ρ => ∃ (f h : Nat → Int) (s11 s12 s13 s14 s15 : Sl), ρ = [.dat (encL l), .dat (encL m), s2, .dat (.int (n : Int)), .dat (.int (a : Int)), .own [encW l L1, encW m L2], .dat (.int (L1 * L2)), s7, s8, .own (tI n f), .own (tI n h), s11, s12, s13, s14, s15] ∧ ∀ k, k < n → gi (f k) (h k) = ci (L1 * L2) * ((sr (l.take a) * sr m).c k + if a ≤ k ∧ k < a + b then (sr l).c a * (sr m).c (k - a) else 0)) ⟨f, h, s11, s12, s13, s14, s15, rfl, fun k hk => ?_⟩ (fun b c ρ' hb hI D' hrt' hnx' hct' => ?_) fun ρ' hI => ?_
        · rw [hf k hk, if_neg (by omega)]; grind
        · obtain ⟨f', h', u1, u2, u3, u4, u5, rfl, hf'⟩ := hI
          obtain ⟨rfl, hb2⟩ := range_get hb
          have hat : a + c < n := by omega
          have ei : ((a : Int) + (c : Int)) = ((a + c : Nat) : Int) := by omega
          obtain ⟨w1, w2⟩ := wsz (k := a) c1 b1
          obtain ⟨w3, w4⟩ := wsz (k := c) c2 b2
          walk_at "st"
          refine at_go (d := encW l L1) rfl ?_
          refine at_go (atI_map (get_c hj)) ?_
          refine ⟨rfl, ?_⟩
          walk_at "st"
          refine at_go (d := encW m L2) rfl ?_
          refine at_go (atI_map (get_c hb2)) ?_
          refine ⟨rfl, ?_⟩
          walk_at "st"
          refine at_go (d := .int (f' (a + c))) (by rw [ei]; exact atI_tI hat) ?_
          refine ⟨cm w1 w3 (by decide), cm w2 w4 (by decide), ?_⟩
          refine j_go (j := a + c) (by rw [ei, tI_len]; exact ixN_nat hat) ?_
          walk_at "st"
          rw [tI_set]
          refine at_go (d := .int (h' (a + c))) (by rw [ei]; exact atI_tI hat) ?_
          refine ⟨cm w1 w4 (by decide), cm w2 w3 (by decide), ?_⟩
          refine j_go (j := a + c) (by rw [ei, tI_len]; exact ixN_nat hat) ?_
          walk_at "st"
          rw [tI_set]
          refine hnx' _ ⟨_, _, _, _, _, _, _, rfl, fun k hk => ?_⟩
          show gi (if k = a + c then f' (a + c) + wA L1 ((sr l).c a) * wA L2 ((sr m).c c) - wB L1 ((sr l).c a) * wB L2 ((sr m).c c) else f' k) (if k = a + c then h' (a + c) + wA L1 ((sr l).c a) * wB L2 ((sr m).c c) + wB L1 ((sr l).c a) * wA L2 ((sr m).c c) else h' k) = _
          by_cases q : k = a + c
          · subst q
            have m1 : (sr l).c a ∈ l := List.mem_of_getElem? (get_c hj)
            have m2 : (sr m).c c ∈ m := List.mem_of_getElem? (get_c hb2)
            rw [if_pos rfl, if_pos rfl, Int.add_sub_assoc, Int.add_assoc, gi_add, gi_mul, gi_w (c1.dv _ m1), gi_w (c2.dv _ m2), hf' _ hk, if_neg (by omega), if_pos (by omega), show a + c - a = c by omega, ci_mul]; grind
          · rw [if_neg q, if_neg q, hf' _ hk]
            by_cases q2 : a ≤ k ∧ k < a + c
            · rw [if_pos q2, if_pos (by omega)]
            · rw [if_neg q2, if_neg (by omega)]
        · obtain ⟨f', h', u1, u2, u3, u4, u5, rfl, hf'⟩ := hI
          rw [List.length_range] at hf'
          refine hnx _ ⟨f', h', _, _, _, _, _, _, rfl, fun k hk => ?_⟩
          rw [hf' k hk, sr_take, show (sr (l.take a) + mono a ((sr l).c a)) * sr m = sr (l.take a) * sr m + mono a ((sr l).c a) * sr m by grind, add_c, mono_mul]
          by_cases q : a ≤ k
          · rw [if_pos q]
            by_cases q2 : k < a + m.length
            · rw [if_pos ⟨q, q2⟩]
            · rw [if_neg (by omega), sr_ge (l := m) (by omega)]; grind
          · rw [if_neg q, if_neg (by omega)]
      · obtain ⟨f, h, s4, s11, s12, s13, s14, s15, rfl, hf⟩ := hI
        rw [List.length_range] at hf
        walk_at "st"
        refine ⟨rfl, by omega, by omega, ?_⟩
        show lcRun 11 fYes _ _ _ (rgD ((n : Nat) : Int).toNat) []
        rw [Int.toNat_natCast]
        refine lc_map (f := fun k => encT ((sr l * sr m).c k)) (fun k hk PP hp => ?_) (by rw [List.length_range]; omega) ?_
        · have hkn : k < n := List.mem_range.mp hk
          refine at_go (atI_tI hkn) ?_
          refine at_go (atI_tI hkn) ?_
          have e := hf k hkn
          rw [sr_take_all] at e
          obtain ⟨k1, k2⟩ := gi_ci e
          have p1 := c1.pos
          have p2 := c2.pos
          exact ⟨_, _, _, _, rfl, Int.mul_ne_zero (by omega) (by omega), (zl.mul zm).mono (by decide), k1, k2, hp⟩
        · rw [mapT_toL]
          refine ⟨_, rfl, by rw [toL_len]; omega, fun r hr e => hP r hr ?_⟩
          rw [e]
          by_cases z : l = [] ∨ m = []
          · have z0 : sr l * sr m = 0 := by
              rcases z with z | z <;> (rw [z, sr_nil]; grind)
            rw [z0]
            exact sr_toL (f := 0) fun k _ => zero_c k
          · have l0 := List.length_pos_iff.mpr fun q => z (.inl q)
            have m0 := List.length_pos_iff.mpr fun q => z (.inr q)
            have := (mul_top (f := sr l) (g := sr m) (n := l.length - 1) (m := m.length - 1) ((dl_sr l).mono (by omega)) ((dl_sr m).mono (by omega))).2
            exact sr_toL (this.mono (by omega))
end
end K12
namespace K12
open PySem PySem.Spec PyProof.Rows L2 DL
open Ser
def sp_law_dip : FS := fun rs P => ∃ m : Nat, rs = [.pl, .dat (.int (m : Int))] ∧ 1 ≤ m ∧ m ≤ 1000 ∧ ∀ v : Nat, v < m → P (.dat (.int (v : Int)))
/-- a drawn number -/
def Dn (top low : Nat) (x : G) : Prop := ∃ (a b : Int) (d : Nat), a.natAbs ≤ top ∧ b.natAbs ≤ top ∧ 1 ≤ d ∧ d ≤ low ∧ x.re * ((d : Int) : Rat) = (a : Rat) ∧ x.im * ((d : Int) : Rat) = (b : Rat)
theorem dn_0 {top low : Nat} (h : 1 ≤ low) : Dn top low 0 := ⟨0, 0, 1, Nat.zero_le _, Nat.zero_le _, Nat.le_refl _, h, by show (0 : Rat) * _ = _; grind, by show (0 : Rat) * _ = _; grind⟩
theorem Dn.gb {top low : Nat} {x : G} (h : Dn top low x) : ∃ (a b : Int) (d : Nat), a.natAbs ≤ top ∧ b.natAbs ≤ top ∧ 1 ≤ d ∧ d ≤ low ∧ ci d * x = gi a b := by
  obtain ⟨a, b, d, h1, h2, h3, h4, h5, h6⟩ := h
  refine ⟨a, b, d, h1, h2, h3, h4, G.ext' ?_ ?_⟩
  · show ((d : Int) : Rat) * x.re - 0 * x.im = (a : Rat)
    rw [← h5]; grind
  · show ((d : Int) : Rat) * x.im + 0 * x.re = (b : Rat)
    rw [← h6]; grind
theorem gb_gi {a b : Int} {n : Nat} (h : a.natAbs + b.natAbs ≤ n) : Gb n (gi a b) := ⟨a, b, rfl, h⟩
theorem gb_ci {d : Int} {n : Nat} (h : d.natAbs ≤ n) : Gb n (ci d) := ⟨d, 0, rfl, by simpa using h⟩
theorem ci_ne {d : Int} (h : d ≠ 0) : ci d ≠ 0 := fun e => h (by
  have : (d : Rat) = (0 : Rat) := congrArg G.re e
  exact cast_inj' (by rw [this]; rfl))
theorem Dn.hn {top low : Nat} {x : G} (h : Dn top low x) (h1 : top ≤ 4) (h2 : low ≤ 4) : Hn 3 2 x := by
  obtain ⟨a, b, d, k1, k2, k3, k4, e⟩ := h.gb
  exact ⟨ci d, ci_ne (by omega), gb_ci (by omega), by rw [e]; exact gb_gi (by omega)⟩
theorem Dn.tb {top low n : Nat} {x : G} (h : Dn top low x) (h1 : top ≤ 4) (h2 : low ≤ 4) (hn : 6 ≤ n) : TB n x := ((h.hn h1 h2).tb (n := 6) (by decide) (by decide)).mono hn
def sp_law_drawn : FS := fun rs P => ∃ top low : Nat, rs = [.pl, .dat (.int (top : Int)), .dat (.int (low : Int))] ∧ 1 ≤ low ∧ low ≤ 4 ∧ top ≤ 4 ∧ ∀ x, Dn top low x → P (.dat (encT x))
def sp_law_row : FS := fun rs P => ∃ most : Nat, rs = [.pl, .dat (.int (most : Int))] ∧ most ≤ 5 ∧ ∀ r, Tr r → r.length ≤ most → (∀ k, Dn 4 3 ((sr r).c k)) → P (.dat (encL r))
def sp_law_one_of : FS := fun rs P => ∃ l : List G, rs = [.pl, .dat (encL l)] ∧ l ≠ [] ∧ l.length ≤ 100 ∧ ∀ x ∈ l, P (.dat (encT x))
/-- one minus z over the root -/
def lin (x : G) : Ser := sr [1, gi (0 - 1) 0 / x]
def rootP : List G → Ser
  | [] => 1
  | x :: xs => lin x * rootP xs
theorem rootP_app : ∀ (xs : List G) (x : G), rootP (xs ++ [x]) = rootP xs * lin x
  | [], x => by
    show lin x * 1 = 1 * lin x
    grind
  | y :: xs, x => by
    show lin y * rootP (xs ++ [x]) = lin y * rootP xs * lin x
    rw [rootP_app xs x]; grind
def Roots (xs : List G) : Prop := ∀ x ∈ xs, x ≠ 0 ∧ Dn 3 2 x
def sp_law_under : FS := fun rs P => rs = [.pl, .dat (.int 2)] ∧ ∀ xs u, xs.length ≤ 2 → Roots xs → Tr u → sr u = rootP xs → P (.dat (.tuple [encL xs, encL u]))
theorem lc_any' {α β : Type} {i : Nat} {Fe : FE} {ρ : List Sl} {P : List PyData → Prop} {enc : α → PyData} {out : β → PyData} {R : β → Prop} {l : List α} : ∀ {cs : List β}, (∀ a ∈ l, ∀ PP : Sl → Prop, (∀ b, R b → PP (.dat (out b))) → Fe (ρ.set i (.dat (enc a))) PP) → cs.length + l.length ≤ 1000 → (∀ b ∈ cs, R b) →
    (∀ bs : List β, bs.length = cs.length + l.length → (∀ b ∈ bs, R b) → P (bs.map out)) → lcRun i fYes Fe ρ P (l.map enc) (cs.map out) := by
  induction l with
  | nil => intro cs _ _ hc hP; exact hP cs rfl hc
  | cons a l ih =>
    intro cs h hl hc hP
    rw [List.length_cons] at hl
    refine ⟨fun _ => ?_, fun z => (nomatch z)⟩
    refine h a (by simp) _ fun b hb => ⟨by rw [List.length_map]; omega, ?_⟩
    have e : cs.map out ++ [out b] = (cs ++ [b]).map out := by rw [List.map_append]; rfl
    rw [e]
    refine ih (fun c hc' => h c (by simp [hc'])) ?_ (fun c hc' => ?_) fun bs h1 h2 => hP bs ?_ h2
    · rw [List.length_append, List.length_cons, List.length_nil]; omega
    · rcases List.mem_append.mp hc' with q | q
      · exact hc c q
      · have : c = b := by simpa using q
        rw [this]; exact hb
    · rw [h1, List.length_append, List.length_cons, List.length_cons, List.length_nil]; omega
theorem lc_any {α β : Type} {i : Nat} {Fe : FE} {ρ : List Sl} {P : List PyData → Prop} {enc : α → PyData} {out : β → PyData} {R : β → Prop} {l : List α} (h : ∀ a ∈ l, ∀ PP : Sl → Prop, (∀ b, R b → PP (.dat (out b))) → Fe (ρ.set i (.dat (enc a))) PP) (hl : l.length ≤ 1000)
    (hP : ∀ bs : List β, bs.length = l.length → (∀ b ∈ bs, R b) → P (bs.map out)) : lcRun i fYes Fe ρ P (l.map enc) [] := lc_any' (cs := []) h (by simpa using hl) (fun b hb => nomatch hb) fun bs h1 h2 => hP bs (by simpa using h1) h2
theorem bits31 {i : Int} (h0 : 0 ≤ i) (h : i < 2147483629) : Builtin.Int.intBits i ≤ 64 := by
  have b : Builtin.Int.intBits i ≤ i.natAbs.log2 + 1 := by
    unfold Builtin.Int.intBits
    split <;> omega
  have := log2_lt (x := i.natAbs) (n := 31) (by omega) (by decide)
  omega
theorem fm31 (i : Int) : 0 ≤ i.fmod 2147483629 ∧ i.fmod 2147483629 < 2147483629 := ⟨Int.fmod_nonneg_of_pos _ (by decide), Int.fmod_lt_of_pos _ (by decide)⟩
theorem mod_nat {i : Int} {m : Nat} (h : 1 ≤ m) : ∃ v : Nat, v < m ∧ i.fmod (m : Int) = (v : Int) := by
  have h1 := Int.fmod_nonneg_of_pos i (show (0 : Int) < (m : Int) by omega)
  have h2 := Int.fmod_lt_of_pos i (show (0 : Int) < (m : Int) by omega)
  exact ⟨(i.fmod (m : Int)).toNat, by omega, by omega⟩
theorem nopyS {i j : Int} (h : j.natAbs.log2 < 9000) : Builtin.divisionGoesByPylong i j = false := PyProof.noPylong_of_log2 h
local macro_rules | `(tactic| walk_at "st") => `(tactic| dsimp -failIfUnchanged only [List.length_cons, List.length_nil, Nat.reduceAdd, Nat.reduceSub, rep0, repS, List.cons_append, List.nil_append, List.set_cons_zero, List.set_cons_succ, gSlot, fNext])
local macro_rules | `(tactic| walk_at "lt2") => `(tactic| first | with_reducible assumption | (with_reducible apply Lt2.mul; walk_at "lt2"; walk_at "lt2") | (with_reducible apply Lt2.neg; walk_at "lt2"))
local macro_rules | `(tactic| walk_at "cm") => `(tactic| (with_reducible apply cm; walk_at "lt2"; walk_at "lt2"; omega))
section
variable {P : Program} {w : World} {K : PySem.W.Frag} {mg : Str → Option Value} {base : Heap} (T : Txt K mg)
include T
theorem g__law_dip : Good P w K mg base 1 "_law_dip" ["_law_pail_here", "_law_many"] sp_law_dip := by
  refine good_mk (T.defs ("_law_dip", 64) (by decide)) sc__law_dip (fun _ _ _ _ _ _ us hl => match us, hl with | [_, _], _ => rfl) ?_ (fun cdv A outer s H E B f hK hr => ⟨_, (s_cons (s_if (d_cmpT op_gt opd_B0 (d_pail 0 (by decide)) d_int (nomark _))
    (s_cons (s_asg (d_callB call_divmodW cd_divmod (by rfl) T.divmod_ (by decide +kernel) (da_cons (d_pail 0 (by decide)) (da_cons (d_var 1) da_nil))) (g_tup (n := 2) hK rfl (gs_cons (g_pail 0 (by decide)) (gs_cons (g_name 3 sc__law_dip.nd) gs_nil ae_name) ae_sub) (ae_len _) (ae_find _ rfl)) so_call ss_call ae_one)
    (s_one (s_ret (d_var 3))))
    s_nil)
    (s_cons (s_asg (d_bin op_add opd_I0 (d_pail 0 (by decide)) d_int) (g_pail 0 (by decide)) so_bin)
    (s_cons (s_set 2 sc__law_dip.nd (d_bin op_modN opd_I (d_callTy call_int1 cd_int (by rfl) T.int_ (by decide +kernel) (da_cons (d_bin op_add opd_I0 (d_bin op_mulS opd_I (d_pail 0 (by decide)) d_int) (d_bin op_mulS opd_I (d_pail 0 (by decide)) d_int)) da_nil)) d_int))
    (s_cons (s_asg (d_bin op_modN opd_I (d_callTy call_int1 cd_int (by rfl) T.int_ (by decide +kernel) (da_cons (d_bin op_add opd_I0 (d_bin op_mulS opd_I (d_var 2) (d_bin op_add opd_I0 (d_bin op_fd opd_I (d_var 2) d_int) (d_bin op_mulS opd_I d_int (d_pail 0 (by decide))))) d_int) da_nil)) d_int) (g_pail 0 (by decide)) so_bin)
    (s_one (s_ret (d_bin op_modN opd_I (d_callTy call_int1 cd_int (by rfl) T.int_ (by decide +kernel) (da_cons (d_bin op_fd opd_I (d_pail 0 (by decide)) d_int) da_nil)) (d_var 1)))))))), fun rs P h => ?_⟩)
  · rintro rs P ⟨m, rfl, _⟩; rfl
  · obtain ⟨m, rfl, m1, m2, hP⟩ := h
    walk_at "st"
    intro v0
    refine ⟨fun _ => ?_, fun _ => ?_⟩
    · intro v1
      have hl : (m : Int).natAbs.log2 < 9000 := log2_lt (n := 9000) (Nat.lt_of_le_of_lt (show (m : Int).natAbs ≤ 2 ^ 10 by omega) (Nat.pow_lt_pow_right (by decide) (by decide))) (by decide)
      refine ⟨⟨by omega, nopyS hl⟩, rfl, ?_⟩
      have h1 := Int.emod_nonneg v1 (show (m : Int) ≠ 0 by omega)
      have h2 := Int.emod_lt_of_pos v1 (show (0 : Int) < (m : Int) by omega)
      have := hP (v1 % (m : Int)).toNat (by omega)
      rw [Int.toNat_of_nonneg h1] at this
      exact this
    · intro v1
      walk_at "st"
      intro v2
      refine ⟨.inr (by decide), fun v3 => ⟨.inr (by decide), show (2147483629 : Int) ≠ 0 by decide, ?_⟩⟩
      obtain ⟨f1, f2⟩ := fm31 (v2 * 48271 + v3 * 69621)
      have fb := bits31 f1 f2
      walk_at "st"
      refine ⟨⟨show (4099 : Int) ≠ 0 by decide, nopyS (log2_lt (by decide) (by decide))⟩, fun v4 => ⟨.inl (by decide), .inl fb, show (2147483629 : Int) ≠ 0 by decide, ?_⟩⟩
      intro v5
      refine ⟨⟨show (257 : Int) ≠ 0 by decide, nopyS (log2_lt (by decide) (by decide))⟩, show ((m : Nat) : Int) ≠ 0 by omega, ?_⟩
      obtain ⟨v, hv, e⟩ := mod_nat (i := v5.fdiv 257) m1
      show P (.dat (.int ((v5.fdiv 257).fmod (m : Int))))
      rw [e]
      exact hP v hv

theorem g__law_drawn : Good P w K mg base 3 "_law_drawn" ["_law_pail_here", "_law_top", "_law_low"] sp_law_drawn := by
  refine good_mk (T.defs ("_law_drawn", 77) (by decide)) sc__law_drawn (fun _ _ _ _ _ _ us hl => match us, hl with | [_, _, _], _ => rfl) ?_ (fun cdv A outer s H E B f hK hr => ⟨_, (s_cons (s_par 3 4 sc__law_drawn.nd (da_cons (d_bin op_sub opd_I0 (c_call (g__law_dip T) hK (hr.mono (by decide)) (da_cons (d_var 0) (da_cons (d_bin op_add opd_I0 (d_bin op_mulW opd_I d_int (d_var 1)) d_int) da_nil))) (d_var 1)) (da_cons (d_bin op_sub opd_I0 (c_call (g__law_dip T) hK (hr.mono (by decide)) (da_cons (d_var 0) (da_cons (d_bin op_add opd_I0 (d_bin op_mulW opd_I d_int (d_var 1)) d_int) da_nil))) (d_var 1)) da_nil)))
    (s_cons (s_if (d_cmpT op_eq opd_eqI (c_call (g__law_dip T) hK (hr.mono (by decide)) (da_cons (d_var 0) (da_cons d_int da_nil))) d_int (nomark _))
    (s_one (s_set 4 sc__law_drawn.nd d_int))
    s_nil)
    (s_one (s_ret (c_call (g__law_cut T) hK (hr.mono (by decide)) (da_cons (d_var 3) (da_cons (d_var 4) (da_cons (d_bin op_add opd_I0 d_int (c_call (g__law_dip T) hK (hr.mono (by decide)) (da_cons (d_var 0) (da_cons (d_var 2) da_nil)))) da_nil)))))))), fun rs P h => ?_⟩)
  · rintro rs P ⟨top, low, rfl, _⟩; rfl
  · obtain ⟨top, low, rfl, l1, l2, t2, hP⟩ := h
    walk_at "st"
    have ct : CMulW 2 (top : Int) := cm (n := 2) (m := 3) (by show (2 : Int).natAbs < 2 ^ 2; decide) (by show (top : Int).natAbs < 2 ^ 3; omega) (by decide)
    have em : (2 : Int) * (top : Int) + 1 = ((2 * top + 1 : Nat) : Int) := by omega
    refine ⟨ct, 2 * top + 1, ?_, by omega, by omega, fun a ha => ⟨ct, 2 * top + 1, ?_, by omega, by omega, fun b hb => ?_⟩⟩
    · show [Sl.pl, .dat (.int ((2 : Int) * (top : Int) + 1))] = _
      rw [em]
    · show [Sl.pl, .dat (.int ((2 : Int) * (top : Int) + 1))] = _
      rw [em]
    have fin : ∀ a' b' : Int, a'.natAbs ≤ top → b'.natAbs ≤ top → ∀ v : Nat, v < low → ∃ (a b d : Int) (x : G), [Sl.dat (.int a'), .dat (.int b'), .dat (.int (1 + (v : Int)))] = [.dat (.int a), .dat (.int b), .dat (.int d)] ∧ d ≠ 0 ∧ Lt2 8999 d ∧ x.re * (d : Rat) = (a : Rat) ∧ x.im * (d : Rat) = (b : Rat) ∧ P (.dat (encT x)) := fun a' b' h1 h2 v hv => by
      have dc := cast_ne (show (1 + (v : Int)) ≠ 0 by omega)
      have e1 : (a' : Rat) / ((1 + (v : Int) : Int) : Rat) * ((1 + (v : Int) : Int) : Rat) = (a' : Rat) := by grind
      have e2 : (b' : Rat) / ((1 + (v : Int) : Int) : Rat) * ((1 + (v : Int) : Int) : Rat) = (b' : Rat) := by grind
      have ed : ((1 + v : Nat) : Int) = 1 + (v : Int) := by omega
      refine ⟨_, _, _, ⟨(a' : Rat) / ((1 + (v : Int) : Int) : Rat), (b' : Rat) / ((1 + (v : Int) : Int) : Rat)⟩, rfl, by omega, ?_, e1, e2, hP _ ⟨a', b', 1 + v, h1, h2, by omega, by omega, by rw [ed]; exact e1, by rw [ed]; exact e2⟩⟩
      exact Lt2.mono (n := 3) (by show (1 + (v : Int)).natAbs < 2 ^ 3; omega) (by decide)
    walk_at "st"
    refine ⟨3, rfl, by decide, by decide, fun c hc => ?_⟩
    refine ⟨fun hz => ?_, fun hz => ?_⟩
    · walk_at "st"
      refine ⟨low, rfl, l1, by omega, fun v hv => ?_⟩
      exact fin _ 0 (by omega) (Nat.zero_le _) v hv
    · walk_at "st"
      refine ⟨low, rfl, l1, by omega, fun v hv => ?_⟩
      exact fin _ _ (by omega) (by omega) v hv

theorem g__law_row : Good P w K mg base 4 "_law_row" ["_law_pail_here", "_law_most"] sp_law_row := by
  refine good_mk (T.defs ("_law_row", 81) (by decide)) sc__law_row (fun _ _ _ _ _ _ us hl => match us, hl with | [_, _], _ => rfl) ?_ (fun cdv A outer s H E B f hK hr => ⟨_, (s_cons (s_setLc 2 3 sc__law_row.nd (i_range1 (by rfl) T.range_ (da_cons (c_call (g__law_dip T) hK (hr.mono (by decide)) (da_cons (d_var 0) (da_cons (d_bin op_add opd_I0 (d_var 1) d_int) da_nil))) da_nil)) (blkOk_by (by rfl)) (fun _ _ _ _ _ => pg_name (i := 3) sc__law_row.nd rfl (Or.inl rfl)) (fun _ _ _ _ _ => (c_call (g__law_drawn T) hK (hr.mono (by decide)) (da_cons (d_var 0) (da_cons d_int (da_cons d_int da_nil))))) (sw_true rfl rfl rfl (by decide +kernel)))
    (s_one (s_frz 2 (s_ret (c_call (g__law_trim T) hK (hr.mono (by decide)) (da_cons (d_frz (d_lc 4 sc__law_row.nd (i_list hK (d_var 2)) (blkOk_by (by rfl)) (fun _ _ _ _ _ => pg_name (i := 4) sc__law_row.nd rfl (Or.inl rfl)) (fun _ _ _ _ _ => (d_if (d_cmpT op_eq opd_eqI (c_call (g__law_dip T) hK (hr.mono (by decide)) (da_cons (d_var 0) (da_cons d_int da_nil))) d_int (nomark _)) (d_tup (da_cons d_int (da_cons d_int (da_cons d_int da_nil)))) (d_var 4))))) da_nil)))))), fun rs P h => ?_⟩)
  · rintro rs P ⟨most, rfl, _⟩; rfl
  · obtain ⟨most, rfl, hm, hP⟩ := h
    walk_at "st"
    have e1 : ((most : Int) + 1) = ((most + 1 : Nat) : Int) := by omega
    refine ⟨rfl, most + 1, ?_, by omega, by omega, fun n hn => ?_⟩
    · show [Sl.pl, .dat (.int ((most : Int) + 1))] = _
      rw [e1]
    refine ⟨by omega, by omega, ?_⟩
    show lcRun 3 fYes _ _ _ (rgD ((n : Nat) : Int).toNat) []
    rw [Int.toNat_natCast]
    refine lc_any (enc := fun k : Nat => PyData.int (k : Int)) (out := encT) (R := Dn 4 3) (fun k hk PP hp => ?_) (by rw [List.length_range]; omega) fun bs hl hb => ?_
    · exact ⟨4, 3, rfl, by decide, by decide, by decide, hp⟩
    rw [List.length_range] at hl
    walk_at "st"
    refine ⟨rfl, ?_⟩
    refine lc_any (enc := encT) (out := encT) (R := Dn 4 3) (fun x hx PP hp => ?_) (by omega) fun cs hl2 hc => ?_
    · refine ⟨5, rfl, by decide, by decide, fun v hv => ?_⟩
      refine ⟨fun _ => ⟨lb rfl, ?_⟩, fun _ => hp _ (hb x hx)⟩
      have := hp 0 (dn_0 (by decide))
      rw [enc_0] at this
      exact this
    refine ⟨cs, rfl, by omega, fun r hr e => hP r hr ?_ fun k => ?_⟩
    · have := hr.len_le (by rw [e]; exact dl_sr cs)
      omega
    · rw [e]
      by_cases h : k < cs.length
      · exact hc _ (List.mem_of_getElem? (get_c h))
      · rw [sr_ge (by omega)]; exact dn_0 (by decide)

theorem g__law_one_of : Good P w K mg base 2 "_law_one_of" ["_law_pail_here", "_law_some"] sp_law_one_of := by
  refine good_mk (T.defs ("_law_one_of", 83) (by decide)) sc__law_one_of (fun _ _ _ _ _ _ us hl => match us, hl with | [_, _], _ => rfl) ?_ (fun cdv A outer s H E B f hK hr => ⟨_, (s_one (s_ret (d_ixS hK (d_var 1) (c_call (g__law_dip T) hK (hr.mono (by decide)) (da_cons (d_var 0) (da_cons (d_callB call_len_seq (cd_len hK) (by rfl) T.len_ (by decide +kernel) (da_cons (d_var 1) da_nil)) da_nil)))))), fun rs P h => ?_⟩)
  · rintro rs P ⟨l, rfl, _⟩; rfl
  · obtain ⟨l, rfl, l0, hl, hP⟩ := h
    have lp := List.length_pos_iff.mpr l0
    walk_at "st"
    refine ⟨l.length, ?_, by omega, by omega, fun v hv => ?_⟩
    · show [Sl.pl, .dat (.int ((l.map encT).length : Int))] = _
      rw [List.length_map]
    · refine at_go (atT hv) ?_
      exact hP _ (List.mem_of_getElem? (get_c hv))
end
end K12
/-! Roots: what the drawn pairs are. -/
namespace K12
open PySem PySem.Spec PyProof.Rows L2 DL Ser
theorem lin_0 (x : G) : (lin x).c 0 = 1 := rfl
theorem lin_1 (x : G) : (lin x).c 1 = gi (0 - 1) 0 / x := rfl
theorem lin_dl (x : G) : Dl 2 (lin x) := dl_sr [1, gi (0 - 1) 0 / x]
theorem m1_ne : gi (0 - 1) 0 ≠ 0 := fun e => by
  have : ((0 - 1 : Int) : Rat) = (0 : Rat) := congrArg G.re e
  have := cast_inj' (a := 0 - 1) (b := 0) (by rw [this]; rfl)
  omega
theorem m1_eq : gi (0 - 1) 0 = -1 := rfl
theorem div_ne {a b : G} (ha : a ≠ 0) (hb : b ≠ 0) : a / b ≠ 0 := fun e => ha (by
  have : a = a / b * b := by grind
  rw [this, e]; grind)
theorem lin_dg {x : G} (h : x ≠ 0) : Dg 1 (lin x) := ⟨by rw [lin_1]; exact div_ne m1_ne h, lin_dl x⟩
theorem isP_lin (x : G) : IsP (lin x) := ⟨2, lin_dl x⟩
theorem isP_root : ∀ xs : List G, IsP (rootP xs)
  | [] => isP_one
  | x :: xs => isP_mul (isP_lin x) (isP_root xs)
theorem root_0 : ∀ xs : List G, (rootP xs).c 0 = 1
  | [] => rfl
  | x :: xs => by
    show (lin x * rootP xs).c 0 = 1
    rw [mul0_c, lin_0, root_0 xs]; grind
theorem root_dl : ∀ xs : List G, Dl (xs.length + 1) (rootP xs)
  | [] => by
    show Dl 1 1
    exact dl_con 1
  | x :: xs => by
    show Dl (xs.length + 1 + 1) (lin x * rootP xs)
    have := (mul_top (f := lin x) (g := rootP xs) (n := 1) (m := xs.length) (lin_dl x) (root_dl xs)).2
    exact this.mono (by omega)
/-- by a linear factor -/
theorem by_lin {f : Ser} {x : G} (hf : IsP f) (hx : x ≠ 0) : ∃ q c, IsP q ∧ f = q * lin x + con c := by
  obtain ⟨n, hn⟩ := hf
  have hn1 : Dl (n + 1) f := hn.mono (by omega)
  have e := rst_eq (n + 1) 1 f (lin x) n
  have d := rst_dl hn1 (lin_dg hx) n (by omega)
  refine ⟨qot (n + 1) 1 f (lin x) n, (rst (n + 1) 1 f (lin x) n).c 0, isP_qot _ _ _ _ _, ?_⟩
  refine e.trans ?_
  refine congrArg (fun y => qot (n + 1) 1 f (lin x) n * lin x + y) ?_
  refine Ser.ext' fun k => ?_
  cases k with
  | zero => rfl
  | succ k =>
    rw [d (k + 1) (by omega)]
    exact (dl_con _ (k + 1) (by omega)).symm
theorem dg_root {x : G} (h : x ≠ 0) {f g : Ser} (hf : IsP f) (hg : IsP g) {W : Ser} (hW : IsP W) (e : f * g = lin x * W) : (∃ q, IsP q ∧ f = q * lin x) ∨ ∃ q, IsP q ∧ g = q * lin x := by
  obtain ⟨q1, c1, p1, e1⟩ := by_lin hf h
  obtain ⟨q2, c2, p2, e2⟩ := by_lin hg h
  have k : con (c1 * c2) = (W - q1 * q2 * lin x - con c1 * q2 - con c2 * q1) * lin x := by
    rw [← con_con]
    have : (q1 * lin x + con c1) * (q2 * lin x + con c2) = lin x * W := by rw [← e1, ← e2]; exact e
    grind
  have hk : IsP (W - q1 * q2 * lin x - con c1 * q2 - con c2 * q1) := isP_sub (isP_sub (isP_sub hW (isP_mul (isP_mul p1 p2) (isP_lin x))) (isP_mul (isP_con _) p2)) (isP_mul (isP_con _) p1)
  have z : c1 * c2 = 0 := by
    by_cases z0 : W - q1 * q2 * lin x - con c1 * q2 - con c2 * q1 = 0
    · rw [z0] at k
      have : (con (c1 * c2)).c 0 = (0 * lin x).c 0 := by rw [k]
      rw [mul0_c, zero_c] at this
      have h2 : (con (c1 * c2)).c 0 = c1 * c2 := rfl
      rw [← h2, this]; grind
    · obtain ⟨n, hn⟩ := hk.dg z0
      have := hn.mul (lin_dg h)
      rw [← k] at this
      have := this.lt (dl_con (c1 * c2))
      omega
  rcases G.mul_eq_zero z with z | z
  · left
    exact ⟨q1, p1, by rw [e1, z, con_zero]; grind⟩
  · right
    exact ⟨q2, p2, by rw [e2, z, con_zero]; grind⟩
theorem ser_ne_of {f : Ser} {k : Nat} (h : f.c k ≠ 0) : f ≠ 0 := fun e => h (by rw [e, zero_c])
/-- parts of a product of linear factors are such products -/
theorem root_split : ∀ (xs : List G), (∀ x ∈ xs, x ≠ 0) → ∀ u v : Ser, IsP u → IsP v → u.c 0 = 1 → v.c 0 = 1 → u * v = rootP xs → ∃ ys zs : List G, (∀ y ∈ ys, y ∈ xs) ∧ (∀ z ∈ zs, z ∈ xs) ∧ ys.length + zs.length = xs.length ∧ u = rootP ys ∧ v = rootP zs
  | [], _, u, v, hu, hv, u0, v0, e => by
    obtain ⟨x, _, ex⟩ := unit_con hu hv (show u * v = 1 from e)
    have x1 : x = 1 := by
      rw [ex] at u0; exact u0
    have eu : u = 1 := by rw [ex, x1]; rfl
    have ev : v = 1 := by
      rw [eu] at e
      have : v = 1 * v := by grind
      rw [this]; exact e
    exact ⟨[], [], fun y hy => (nomatch hy), fun y hy => (nomatch hy), rfl, eu, ev⟩
  | x :: xs, hx, u, v, hu, hv, u0, v0, e => by
    have x0 := hx x (by simp)
    have hl := (lin_dg x0).ne
    have e' : u * v = lin x * rootP xs := e
    rcases dg_root x0 hu hv (isP_root xs) e' with ⟨q, hq, eq⟩ | ⟨q, hq, eq⟩
    · have e2 : q * v = rootP xs := mul_left_cancel (isP_lin x) (isP_mul hq hv) (isP_root xs) hl (by rw [← e', eq]; grind)
      have q0 : q.c 0 = 1 := by
        rw [eq, mul0_c, lin_0] at u0
        rw [← u0]; grind
      obtain ⟨ys, zs, h1, h2, h3, h4, h5⟩ := root_split xs (fun y hy => hx y (by simp [hy])) q v hq hv q0 v0 e2
      refine ⟨x :: ys, zs, fun y hy => ?_, fun z hz => by simp [h2 z hz], ?_, ?_, h5⟩
      · rcases List.mem_cons.mp hy with hy | hy
        · simp [hy]
        · simp [h1 y hy]
      · rw [List.length_cons, List.length_cons]; omega
      · show u = lin x * rootP ys
        rw [eq, h4]; grind
    · have e2 : u * q = rootP xs := mul_left_cancel (isP_lin x) (isP_mul hu hq) (isP_root xs) hl (by rw [← e', eq]; grind)
      have q0 : q.c 0 = 1 := by
        rw [eq, mul0_c, lin_0] at v0
        rw [← v0]; grind
      obtain ⟨ys, zs, h1, h2, h3, h4, h5⟩ := root_split xs (fun y hy => hx y (by simp [hy])) u q hu hq u0 q0 e2
      refine ⟨ys, x :: zs, fun y hy => by simp [h1 y hy], fun z hz => ?_, ?_, h4, ?_⟩
      · rcases List.mem_cons.mp hz with hz | hz
        · simp [hz]
        · simp [h2 z hz]
      · rw [List.length_cons, List.length_cons]; omega
      · show v = lin x * rootP zs
        rw [eq, h5]; grind
/-! ### heights -/
def Hv (n m : Nat) (f : Nat → G) : Prop := ∃ g : G, g ≠ 0 ∧ Gb m g ∧ ∀ k, Gb n (g * f k)
theorem Hv.mono {n m n' m' : Nat} {f : Nat → G} (H : Hv n m f) (a : n ≤ n') (b : m ≤ m') : Hv n' m' f := by
  obtain ⟨g, q1, q2, q3⟩ := H
  exact ⟨g, q1, q2.mono b, fun k => (q3 k).mono a⟩
theorem Hv.hs {n m h d : Nat} {f : Nat → G} (H : Hv n m f) (a : n ≤ 2 ^ h) (b : m ≤ 2 ^ d) : Hs h d f := H.mono a b
theorem Hv.mulS {n m n' m' c : Nat} {f g : Ser} (H : Hv n m f.c) (H' : Hv n' m' g.c) (hc : Dl c f) : Hv (c * (n * n')) (m * m') (f * g).c := by
  obtain ⟨a, q1, q2, q3⟩ := H
  obtain ⟨b, r1, r2, r3⟩ := H'
  refine ⟨a * b, ne_mul q1 r1, q2.mul r2, fun k => ?_⟩
  have e : a * b * (f * g).c k = mulC k (fun j => a * f.c j) (fun j => b * g.c j) := by
    rw [mul_c, smul_mulC, mulC_comm k f.c (fun j => b * g.c j), smul_mulC, mulC_comm k g.c f.c]; grind
  rw [e]
  exact gb_mulC k c n n' _ _ q3 r3 fun j hj => by rw [hc j hj]; grind
theorem Hv.add {n m n' m' : Nat} {f g : Ser} (H : Hv n m f.c) (H' : Hv n' m' g.c) : Hv (n * m' + n' * m) (m * m') (f + g).c := by
  obtain ⟨a, q1, q2, q3⟩ := H
  obtain ⟨b, r1, r2, r3⟩ := H'
  refine ⟨a * b, ne_mul q1 r1, q2.mul r2, fun k => ?_⟩
  rw [add_c, show a * b * (f.c k + g.c k) = (a * f.c k) * b + (b * g.c k) * a by grind]
  exact ((q3 k).mul r2).add ((r3 k).mul q2)
theorem Hv.neg {n m : Nat} {f g : Ser} (H : Hv n m f.c) (e : g = -f) : Hv n m g.c := by
  obtain ⟨a, q1, q2, q3⟩ := H
  refine ⟨a, q1, q2, fun k => ?_⟩
  rw [e, show a * (-f).c k = -(a * f.c k) by rw [neg_c]; grind]
  exact (q3 k).neg
theorem Hv.sub {n m n' m' : Nat} {f g : Ser} (H : Hv n m f.c) (H' : Hv n' m' g.c) : Hv (n * m' + n' * m) (m * m') (f - g).c := by
  have : f - g = f + -g := by grind
  rw [this]
  exact H.add (H'.neg rfl)
theorem hv_lin {x : G} (hx : x ≠ 0) (h : Dn 3 2 x) : ∃ p : G, p ≠ 0 ∧ Gb 6 p ∧ Gb 2 (p * (gi (0 - 1) 0 / x)) := by
  obtain ⟨a, b, d, k1, k2, k3, k4, e⟩ := h.gb
  have hd := ci_ne (show ((d : Nat) : Int) ≠ 0 by omega)
  refine ⟨ci d * x, ne_mul hd hx, by rw [e]; exact gb_gi (by omega), ?_⟩
  rw [show ci d * x * (gi (0 - 1) 0 / x) = ci d * gi (0 - 1) 0 by grind]
  exact (gb_ci (n := 2) (by omega)).mul (gb_gi (n := 1) (by decide))
theorem hv_root : ∀ xs : List G, Roots xs → Hv (8 ^ xs.length) (6 ^ xs.length) (rootP xs).c
  | [], _ => ⟨1, by intro e; grind, gb_one, fun k => by
    show Gb 1 (1 * (1 : Ser).c k)
    cases k with
    | zero => rw [one_c0, show (1 : G) * 1 = 1 by grind]; exact gb_one
    | succ k =>
      have : (1 : Ser).c (k + 1) = 0 := dl_con 1 (k + 1) (by omega)
      rw [this, show (1 : G) * 0 = 0 by grind]; exact gb_zero _⟩
  | x :: xs, h => by
    obtain ⟨g, q1, q2, q3⟩ := hv_root xs fun y hy => h y (by simp [hy])
    obtain ⟨x0, hd⟩ := h x (by simp)
    obtain ⟨p, p1, p2, p3⟩ := hv_lin x0 hd
    refine ⟨p * g, ne_mul p1 q1, ?_, fun k => ?_⟩
    · rw [List.length_cons, Nat.pow_succ, Nat.mul_comm]; exact p2.mul q2
    · show Gb (8 ^ (x :: xs).length) (p * g * (lin x * rootP xs).c k)
      rw [List.length_cons, Nat.pow_succ]
      have el : lin x = mono 0 1 + mono 1 (gi (0 - 1) 0 / x) := Ser.ext' fun j => by
        rw [add_c]
        show _ = (if j = 0 then (1 : G) else 0) + if j = 1 then gi (0 - 1) 0 / x else 0
        match j with
        | 0 => rw [lin_0, if_pos rfl, if_neg (by decide)]; grind
        | 1 => rw [lin_1, if_neg (by decide), if_pos rfl]; grind
        | j + 2 => rw [lin_dl x (j + 2) (by omega), if_neg (by omega), if_neg (by omega)]; grind
      rw [el, show (mono 0 1 + mono 1 (gi (0 - 1) 0 / x)) * rootP xs = mono 0 1 * rootP xs + mono 1 (gi (0 - 1) 0 / x) * rootP xs by grind, add_c, mono_mul, mono_mul, if_pos (Nat.zero_le _)]
      have A : Gb (8 ^ xs.length * 6) (p * g * (1 * (rootP xs).c (k - 0))) := by
        rw [show p * g * (1 * (rootP xs).c (k - 0)) = (g * (rootP xs).c (k - 0)) * p by grind]
        exact (q3 _).mul p2
      by_cases hk : 1 ≤ k
      · rw [if_pos hk, show ∀ y z : G, p * g * (y + z) = p * g * y + p * g * z by intro y z; grind]
        have B : Gb (8 ^ xs.length * 2) (p * g * (gi (0 - 1) 0 / x * (rootP xs).c (k - 1))) := by
          rw [show p * g * (gi (0 - 1) 0 / x * (rootP xs).c (k - 1)) = (g * (rootP xs).c (k - 1)) * (p * (gi (0 - 1) 0 / x)) by grind]
          exact (q3 _).mul p3
        exact (A.add B).mono (by omega)
      · rw [if_neg hk, show ∀ y : G, p * g * (y + 0) = p * g * y by intro y; grind]
        exact A.mono (by omega)
theorem hv_dn {r : List G} (h : ∀ k, Dn 4 3 ((sr r).c k)) : Hv 48 6 (sr r).c := by
  refine ⟨ci 6, ci_ne (by decide), gb_ci (by decide), fun k => ?_⟩
  obtain ⟨a, b, d, k1, k2, k3, k4, e⟩ := (h k).gb
  have key : ∀ m : Int, m * (d : Int) = 6 → Gb 48 (ci 6 * (sr r).c k) := fun m hm => by
    have hm6 : m.natAbs ≤ 6 := by
      have := congrArg Int.natAbs hm
      rw [Int.natAbs_mul] at this
      have h2 : m.natAbs * 1 ≤ m.natAbs * (d : Int).natAbs := Nat.mul_le_mul_left _ (by omega)
      have h3 : (6 : Int).natAbs = 6 := rfl
      omega
    rw [← hm, ci_mul, show ci m * ci d * (sr r).c k = ci m * (ci d * (sr r).c k) by grind, e]
    exact ((gb_ci hm6).mul (gb_gi (n := 8) (by omega))).mono (by decide)
  have : d = 1 ∨ d = 2 ∨ d = 3 := by omega
  rcases this with rfl | rfl | rfl
  · exact key 6 rfl
  · exact key 3 rfl
  · exact key 2 rfl
end K12
namespace K12
open PySem PySem.Spec PyProof.Rows L2 DL
open Ser
/-- what is told of a drawn pair -/
structure PairK (t u : List G) : Prop where
  tt : Tr t
  tu : Tr u
  one : (sr u).c 0 = 1
  cop : Cop (sr t) (sr u)
  l1 : t.length ≤ 3
  l2 : u.length ≤ 3
  Hu : Hv 64 36 (sr u).c
  Ht : (t.length ≤ 2 ∧ Hv 288 12 (sr t).c) ∨ Hv 48 6 (sr t).c
def sp_law_drawn_pair : FS := fun rs P => rs = [.pl] ∧ ∀ t u xs, PairK t u → Roots xs → xs.length ≤ 2 → P (.dat (.tuple [.tuple [encL t, encL u], encL xs]))
theorem enc_1 : encT 1 = .tuple [.int 1, .int 0, .int 1] := (tri_enc ⟨by decide, by decide, by show (1 : Rat) * _ = _; push_cast; grind, by show (0 : Rat) * _ = _; push_cast; grind⟩).symm
/-- the reducing of a row by roots -/
theorem red_split {xs r U t u : List G} (hr : Roots xs) (eU : sr U = rootP xs) (rd : Red (sr r) (sr U) t u) : ∃ ys zs : List G, Roots ys ∧ Roots zs ∧ ys.length + zs.length = xs.length ∧ sr u = rootP ys ∧ sr r = sr t * rootP zs := by
  obtain ⟨s, w, hs, hw, e⟩ := rd.cop
  have eq := rd.eq
  have eU2 : sr U = sr u * (s * sr r + w * sr U) := by
    have : sr U = (s * sr t + w * sr u) * sr U := by rw [e]; grind
    have h2 : (s * sr t + w * sr u) * sr U = s * (sr t * sr U) + w * sr u * sr U := by grind
    rw [this]
    rw [h2, eq]; grind
  have hv : IsP (s * sr r + w * sr U) := isP_add (isP_mul hs (isP_sr r)) (isP_mul hw (isP_sr U))
  generalize s * sr r + w * sr U = v at *
  have v0 : v.c 0 = 1 := by
    have h1 : (sr U).c 0 = 1 := by rw [eU]; exact root_0 xs
    rw [eU2, mul0_c, rd.one] at h1
    rw [← h1]; grind
  obtain ⟨ys, zs, h1, h2, h3, h4, h5⟩ := root_split xs (fun x hx => (hr x hx).1) _ v (isP_sr u) hv rd.one v0 (by rw [← eU2, eU])
  refine ⟨ys, zs, fun y hy => hr y (h1 y hy), fun z hz => hr z (h2 z hz), h3, h4, ?_⟩
  rw [← h5]
  refine mul_left_cancel (isP_sr u) (isP_sr r) (isP_mul (isP_sr t) hv) rd.une ?_
  rw [← eq, eU2]; grind
theorem lin_mul (x : G) (f : Ser) (k : Nat) : (f * lin x).c (k + 1) = f.c (k + 1) + gi (0 - 1) 0 / x * f.c k := by
  have el : lin x = mono 0 1 + mono 1 (gi (0 - 1) 0 / x) := Ser.ext' fun j => by
    rw [add_c]
    show _ = (if j = 0 then (1 : G) else 0) + if j = 1 then gi (0 - 1) 0 / x else 0
    match j with
    | 0 => rw [lin_0, if_pos rfl, if_neg (by decide)]; grind
    | 1 => rw [lin_1, if_neg (by decide), if_pos rfl]; grind
    | j + 2 => rw [lin_dl x (j + 2) (by omega), if_neg (by omega), if_neg (by omega)]; grind
  rw [show f * lin x = lin x * f by grind, el, show (mono 0 1 + mono 1 (gi (0 - 1) 0 / x)) * f = mono 0 1 * f + mono 1 (gi (0 - 1) 0 / x) * f by grind, add_c, mono_mul, mono_mul, if_pos (Nat.zero_le _), if_pos (by omega)]
  rw [Nat.sub_zero, Nat.add_sub_cancel]; grind
theorem pair_of {xs r U t u : List G} (hr : Roots xs) (lx : xs.length ≤ 2) (tr : Tr r) (lr : r.length ≤ 3) (dr : ∀ k, Dn 4 3 ((sr r).c k)) (eU : sr U = rootP xs) (rd : Red (sr r) (sr U) t u) : PairK t u := by
  obtain ⟨ys, zs, h1, h2, h3, h4, h5⟩ := red_split hr eU rd
  have Hr := hv_dn dr
  have pw : ∀ {a n m : Nat}, n ≤ m → a > 0 → a ^ n ≤ a ^ m := fun h p => Nat.pow_le_pow_right p h
  have lu : u.length ≤ 3 := by
    have := rd.tu.len_le (n := ys.length + 1) (by rw [h4]; exact root_dl ys)
    omega
  have Hu : Hv 64 36 (sr u).c := by
    rw [h4]
    exact (hv_root ys h1).mono (pw (m := 2) (by omega) (by decide)) (pw (m := 2) (by omega) (by decide))
  have mk : t.length ≤ 3 → ((t.length ≤ 2 ∧ Hv 288 12 (sr t).c) ∨ Hv 48 6 (sr t).c) → PairK t u := fun a b => ⟨rd.tt, rd.tu, rd.one, rd.cop, a, lu, Hu, b⟩
  by_cases t0 : t = []
  · refine mk (by rw [t0]; exact Nat.zero_le _) (.inr ?_)
    rw [t0, sr_nil]
    exact ⟨1, by intro e; grind, gb_one.mono (by decide), fun k => by rw [zero_c, show (1 : G) * 0 = 0 by grind]; exact gb_zero _⟩
  have dt := rd.tt.dg t0
  have tp := List.length_pos_iff.mpr t0
  have hz0 : (sr t).c 0 = (sr r).c 0 := by
    rw [h5, mul0_c, root_0]; grind
  match zs, h2, h3, h5 with
  | [], _, _, h5 =>
    have e : sr r = sr t := by
      rw [h5]
      show sr t * 1 = sr t
      grind
    have : t = r := tr_ext rd.tt tr e.symm
    exact mk (by rw [this]; exact lr) (.inr (by rw [← e]; exact Hr))
  | [z], h2, _, h5 =>
    obtain ⟨z0, dz⟩ := h2 z (by simp)
    have e : sr r = sr t * lin z := by
      rw [h5]
      show sr t * (lin z * 1) = _
      grind
    have hd := dt.mul (lin_dg z0)
    rw [← e] at hd
    have hl := tr.len_of hd
    have tl : t.length ≤ 2 := by omega
    refine mk (by omega) (.inl ⟨tl, ?_⟩)
    obtain ⟨g, q1, q2, q3⟩ := Hr
    obtain ⟨a, b, d, k1, k2, k3, k4, ez⟩ := dz.gb
    refine ⟨g * ci d, ne_mul q1 (ci_ne (by omega)), (q2.mul (gb_ci (n := 2) (by omega))).mono (by decide), fun k => ?_⟩
    match k with
    | 0 =>
      rw [hz0, show g * ci d * (sr r).c 0 = (g * (sr r).c 0) * ci d by grind]
      exact ((q3 0).mul (gb_ci (n := 2) (by omega))).mono (by decide)
    | 1 =>
      have h2c : (sr r).c 2 = gi (0 - 1) 0 / z * (sr t).c 1 := by
        rw [e, lin_mul, dl_sr t 2 tl]; grind
      rw [show g * ci d * (sr t).c 1 = -((g * (sr r).c 2) * (ci d * z)) by rw [h2c, m1_eq]; grind]
      refine Gb.neg ((Gb.mul (m := 6) (q3 2) ?_).mono (by decide))
      rw [ez]
      exact gb_gi (n := 6) (by omega)
    | k + 2 =>
      rw [dl_sr t (k + 2) (by omega), show g * ci d * 0 = 0 by grind]; exact gb_zero _
  | [z, y], h2, _, h5 =>
    obtain ⟨z0, _⟩ := h2 z (by simp)
    obtain ⟨y0, _⟩ := h2 y (by simp)
    have e : sr r = sr t * lin z * lin y := by
      rw [h5]
      show sr t * (lin z * (lin y * 1)) = _
      grind
    have hd := (dt.mul (lin_dg z0)).mul (lin_dg y0)
    rw [← e] at hd
    have hl := tr.len_of hd
    refine mk (by omega) (.inr ?_)
    obtain ⟨g, q1, q2, q3⟩ := Hr
    refine ⟨g, q1, q2, fun k => ?_⟩
    match k with
    | 0 => rw [hz0]; exact q3 0
    | k + 1 => rw [dl_sr t (k + 1) (by omega), show g * 0 = 0 by grind]; exact gb_zero _
  | _ :: _ :: _ :: _, _, h3, _ =>
    simp only [List.length_cons] at h3
    omega
theorem nored_root {xs r U : List G} (eU : sr U = rootP xs) (h : NoRed (sr r) (sr U)) : False := by
  obtain ⟨t, u, ht, hu, u0, c, z, e⟩ := h
  obtain ⟨s, w, hs, hw, e1⟩ := c
  have : sr U = u * (s * sr r + w * sr U) := by
    have h1 : sr U = (s * t + w * u) * sr U := by rw [e1]; grind
    have h2 : (s * t + w * u) * sr U = s * (t * sr U) + w * u * sr U := by grind
    rw [h1, h2, e]; grind
  have h1 : (sr U).c 0 = 1 := by rw [eU]; exact root_0 xs
  rw [this, mul0_c, z] at h1
  grind
theorem root_tb {xs : List G} (hr : Roots xs) (h : xs.length ≤ 1) (k : Nat) : TB 400 ((rootP xs).c k) := by
  have pw : ∀ {a n m : Nat}, n ≤ m → a > 0 → a ^ n ≤ a ^ m := fun h p => Nat.pow_le_pow_right p h
  have H : Hs 3 3 (rootP xs).c := (hv_root xs hr).hs (Nat.le_trans (pw (m := 1) h (by decide)) (by decide)) (Nat.le_trans (pw (m := 1) h (by decide)) (by decide))
  exact (H.at k).tb (by decide) (by decide)
theorem chk_pair : ∀ a : Fin 4, ∀ b : Fin 4, b.val = 0 ∨ chkL (finL a 6 3 b 6 6) 9 a 6 3 b 6 6 = true := by decide +kernel
theorem lr_pair {xs r U : List G} (hr : Roots xs) (lx : xs.length ≤ 2) (tr : Tr r) (lr : r.length ≤ 3) (dr : ∀ k, Dn 4 3 ((sr r).c k)) (tU : Tr U) (eU : sr U = rootP xs) : LrOk r U := by
  have U0 : U ≠ [] := fun z => by
    have : (sr U).c 0 = 1 := by rw [eU]; exact root_0 xs
    rw [z, sr_nil, zero_c] at this
    grind
  have up := List.length_pos_iff.mpr U0
  have lU : U.length ≤ 3 := by
    have := tU.len_le (n := xs.length + 1) (by rw [eU]; exact root_dl xs)
    omega
  have pw : ∀ {a n m : Nat}, n ≤ m → a > 0 → a ^ n ≤ a ^ m := fun h p => Nat.pow_le_pow_right p h
  refine ⟨9, 6, 3, 6, 6, tr, tU, U0, (hv_dn dr).hs (by decide) (by decide), ?_, ?_⟩
  · rw [eU]
    exact (hv_root xs hr).hs (Nat.le_trans (pw (m := 2) (by omega) (by decide)) (by decide)) (Nat.le_trans (pw (m := 2) (by omega) (by decide)) (by decide))
  · rcases chk_pair ⟨r.length, by omega⟩ ⟨U.length, by omega⟩ with h | h
    · have : U.length = 0 := h
      omega
    · exact h
local macro_rules | `(tactic| walk_at "st") => `(tactic| dsimp -failIfUnchanged only [List.length_cons, List.length_nil, Nat.reduceAdd, Nat.reduceSub, rep0, repS, List.cons_append, List.nil_append, List.set_cons_zero, List.set_cons_succ, gSlot, fNext])
local macro_rules | `(tactic| walk_at "lt2") => `(tactic| first | with_reducible assumption | (with_reducible apply Lt2.mul; walk_at "lt2"; walk_at "lt2") | (with_reducible apply Lt2.neg; walk_at "lt2"))
local macro_rules | `(tactic| walk_at "cm") => `(tactic| (with_reducible apply cm; walk_at "lt2"; walk_at "lt2"; omega))
section
variable {P : Program} {w : World} {K : PySem.W.Frag} {mg : Str → Option Value} {base : Heap} (T : Txt K mg)
include T
theorem g__law_under : Good P w K mg base 5 "_law_under" ["_law_pail_here", "_law_most"] sp_law_under := by
  refine good_mk (T.defs ("_law_under", 80) (by decide)) sc__law_under (fun _ _ _ _ _ _ us hl => match us, hl with | [_, _], _ => rfl) ?_ (fun cdv A outer s H E B f hK hr => ⟨_, (s_cons (s_par 3 4 sc__law_under.nd (da_cons (d_lst da_nil) (da_cons (d_frz (d_lst (da_cons (d_tup (da_cons d_int (da_cons d_int (da_cons d_int da_nil)))) da_nil))) da_nil)))
    (s_cons (s_for (i_range1 (by rfl) T.range_ (da_cons (c_call (g__law_dip T) hK (hr.mono (by decide)) (da_cons (d_var 0) (da_cons (d_bin op_add opd_I0 (d_var 1) d_int) da_nil))) da_nil)) (g_name 2 sc__law_under.nd)
    (s_cons (s_set 5 sc__law_under.nd (c_call (g__law_drawn T) hK (hr.mono (by decide)) (da_cons (d_var 0) (da_cons d_int (da_cons d_int da_nil)))))
    (s_one (s_if (d_cmpT (op_neD (hu64 hr)) (opd_neD hK) (d_cut2 hK (d_var 5)) (d_tup (da_cons d_int (da_cons d_int da_nil))) (nomark _))
    (s_cons (s_appO 3 hK (d_var 5))
    (s_one (s_set 4 sc__law_under.nd (c_call (g__law_row_times T) hK (hr.mono (by decide)) (da_cons (d_var 4) (da_cons (d_frz (d_lst (da_cons (d_tup (da_cons d_int (da_cons d_int (da_cons d_int da_nil)))) (da_cons (c_call (g__law_over T) hK (hr.mono (by decide)) (da_cons (d_tup (da_cons (d_bin op_sub opd_I0 d_int d_int) (da_cons d_int (da_cons d_int da_nil)))) (da_cons (d_var 5) da_nil))) da_nil)))) da_nil))))))
    s_nil))))
    (s_one (s_frz 3 (s_ret (d_tup (da_cons (d_var 3) (da_cons (d_var 4) da_nil)))))))), fun rs P h => ?_⟩)
  · rintro rs P ⟨rfl, _⟩; rfl
  · obtain ⟨rfl, hP⟩ := h
    walk_at "st"
    refine ⟨lb rfl, lb rfl, lb rfl, ?_⟩
    refine ⟨3, rfl, by decide, by decide, fun n hn => ?_⟩
    refine ⟨by omega, by omega, ?_⟩
    show forRun _ _ _ (rgD ((n : Nat) : Int).toNat) _
    rw [Int.toNat_natCast]
    refine for_inv (fun t ρ => ∃ (xs u : List G) (s2 s5 : Sl), ρ = [.pl, .dat (.int 2), s2, .own (xs.map encT), .dat (encL u), s5] ∧ xs.length ≤ t ∧ Roots xs ∧ Tr u ∧ sr u = rootP xs) ⟨[], [1], .un, .un, ?_, Nat.le_refl _, fun x hx => (nomatch hx), ?_, ?_⟩ (fun t a ρ' ha hI D hrt hnx hct => ?_) fun ρ' hI => ?_
    · show _ = [_, _, _, _, Sl.dat (.list [encT 1]), _]
      rw [enc_1]; rfl
    · intro e
      have : (1 : G) = 0 := Option.some.inj e
      grind
    · rw [sr_one]; rfl
    · obtain ⟨xs, u, s2, s5, rfl, hl, hr, tu, eu⟩ := hI
      obtain ⟨rfl, hj⟩ := range_get ha
      walk_at "st"
      refine ⟨3, 2, rfl, by decide, by decide, by decide, fun x hx => ?_⟩
      walk_at "st"
      refine ⟨lb rfl, ?_⟩
      refine ne_go ((sh_2 _ _).shaped rfl) rfl (eqv_2 _) ?_
      refine ⟨fun hz => ?_, fun hz => ?_⟩
      · have x0 : x ≠ 0 := fun z => by
          rw [decide_eq_true z] at hz
          exact nomatch hz
        walk_at "st"
        refine ⟨by rw [List.length_map]; omega, ?_⟩
        walk_at "st"
        refine ⟨lb rfl, lb rfl, gi (0 - 1) 0, x, ?_, ?_, hx.tb (by decide) (by decide) (by decide), x0, lb rfl, ?_⟩
        · rw [enc_int]
        · rw [m1_eq]
          exact ((hn_one 0 0).neg).tb (by decide) (by decide)
        have ux : u.length ≤ 2 := by
          have := tu.len_le (n := xs.length + 1) (by rw [eu]; exact root_dl xs)
          omega
        refine ⟨u, [1, gi (0 - 1) 0 / x], ?_, by omega, lb rfl, ?_, ?_, fun r tr er => ?_⟩
        · show [_, Sl.dat (.list [.tuple [.int 1, .int 0, .int 1], _])] = [_, Sl.dat (.list [encT 1, encT (gi (0 - 1) 0 / x)])]
          rw [enc_1]
        · intro k
          rw [eu]
          exact root_tb hr (by omega) k
        · intro k
          have := root_tb (xs := [x]) (fun y hy => by
            have : y = x := by simpa using hy
            rw [this]; exact ⟨x0, hx⟩) (Nat.le_refl _) k
          rw [show rootP [x] = lin x from by
            show lin x * 1 = lin x
            grind] at this
          exact this
        · refine hnx _ ⟨xs ++ [x], r, .dat (.int (a : Int)), .dat (encT x), ?_, ?_, ?_, tr, ?_⟩
          · rw [List.map_append]; rfl
          · rw [List.length_append, List.length_cons, List.length_nil]; omega
          · intro y hy
            rcases List.mem_append.mp hy with q | q
            · exact hr y q
            · have : y = x := by simpa using q
              rw [this]; exact ⟨x0, hx⟩
          · rw [er, rootP_app, eu]; rfl
      · exact hnx _ ⟨xs, u, _, _, rfl, by omega, hr, tu, eu⟩
    · obtain ⟨xs, u, s2, s5, rfl, hl, hr, tu, eu⟩ := hI
      rw [List.length_range] at hl
      walk_at "st"
      exact ⟨lb rfl, hP xs u (by omega) hr tu eu⟩

theorem g__law_drawn_pair : Good P w K mg base 6 "_law_drawn_pair" ["_law_pail_here"] sp_law_drawn_pair := by
  refine good_mk (T.defs ("_law_drawn_pair", 88) (by decide)) sc__law_drawn_pair (fun _ _ _ _ _ _ us hl => match us, hl with | [_], _ => rfl) ?_ (fun cdv A outer s H E B f hK hr => ⟨_, (s_cons (s_asg (c_call (g__law_under T) hK (hr.mono (by decide)) (da_cons (d_var 0) (da_cons d_int da_nil))) (g_tup (n := 2) hK rfl (gs_cons (g_name 1 sc__law_drawn_pair.nd) (gs_cons (g_name 2 sc__law_drawn_pair.nd) gs_nil ae_name) ae_name) (ae_len _) (ae_find _ rfl)) so_call ss_call ae_one)
    (s_one (s_ret (d_tup (da_cons (c_call (g__law_reduced T) hK (hr.mono (by decide)) (da_cons (c_call (g__law_row T) hK (hr.mono (by decide)) (da_cons (d_var 0) (da_cons d_int da_nil))) (da_cons (d_var 2) da_nil))) (da_cons (d_var 1) da_nil)))))), fun rs P h => ?_⟩)
  · rintro rs P ⟨rfl, _⟩; rfl
  · obtain ⟨rfl, hP⟩ := h
    walk_at "st"
    refine ⟨rfl, fun xs U lx hr tU eU => ?_⟩
    refine ⟨rfl, ?_⟩
    walk_at "st"
    refine ⟨3, rfl, by decide, fun r tr lr dr => ?_⟩
    refine ⟨_, _, rfl, lr_pair hr lx tr lr dr tU eU, fun hn => (nored_root eU hn).elim, fun t u rd _ _ _ _ => ⟨lb rfl, ?_⟩⟩
    exact hP t u xs (pair_of hr lx tr lr dr eU rd) hr lx
end
end K12
/-! What may be shown. -/
namespace K12
open PySem PySem.Spec PyProof.Rows L2 DL Ser
/-- shown with at most n signs -/
structure Sw (n k : Nat) (d : PyData) : Prop where
  sh : d.showable = true
  nd : d.hasDict = false
  de : d.depth ≤ k
  sz : d.shown.length ≤ n
theorem Sw.mono {n k n' k' : Nat} {d : PyData} (h : Sw n k d) (a : n ≤ n') (b : k ≤ k') : Sw n' k' d := ⟨h.sh, h.nd, Nat.le_trans h.de b, Nat.le_trans h.sz a⟩
theorem Sw.ok {n k : Nat} {d : PyData} (h : Sw n k d) (hd : isDisp d = true) (a : Nat.ble n (2 ^ 24) = true) (b : Nat.ble k 60 = true) : ShowOk d := ⟨hd, h.sh, h.nd, Nat.le_trans h.de (Nat.le_of_ble_eq_true b), Nat.le_trans h.sz (Nat.le_of_ble_eq_true a)⟩
theorem sw_int {i : Int} (h : i.natAbs.log2 < 1920) : Sw 1922 0 (.int i) := by
  refine ⟨by rw [PyData.showable]; exact decide_eq_true h, by rw [PyData.hasDict], by rw [PyData.depth]; exact Nat.le_refl _, ?_⟩
  rw [PyData.shown]
  have e := int_text_length_le (k := 1920) (by decide) h
  show (Str.ofString (toString i)).length ≤ 1922
  rw [PySem.ofString_length]; omega
theorem sw_none : Sw 4 0 .none := ⟨by rw [PyData.showable], by rw [PyData.hasDict], by rw [PyData.depth]; exact Nat.le_refl _, by rw [PyData.shown]; decide⟩
theorem sw_bool (b : Bool) : Sw 5 0 (.bool b) := ⟨by rw [PyData.showable], by rw [PyData.hasDict], by rw [PyData.depth]; exact Nat.le_refl _, by rw [PyData.shown]; cases b <;> decide⟩
theorem sw_all {n k : Nat} : ∀ {ds : List PyData}, (∀ d ∈ ds, Sw n k d) → PyData.showableAll ds = true ∧ PyData.hasDictAll ds = false ∧ PyData.depthAll ds ≤ k ∧ piled (PyData.shownAll ds) ≤ ds.length * (n + 2)
  | [], _ => ⟨by rw [PyData.showableAll], by rw [PyData.hasDictAll], by rw [PyData.depthAll]; exact Nat.zero_le _, by rw [PyData.shownAll]; exact Nat.zero_le _⟩
  | d :: ds, h => by
    have a := h d (by simp)
    obtain ⟨b1, b2, b3, b4⟩ := sw_all (ds := ds) fun e he => h e (by simp [he])
    refine ⟨by rw [PyData.showableAll, a.sh, b1]; rfl, by rw [PyData.hasDictAll, a.nd, b2]; rfl, by rw [PyData.depthAll]; exact Nat.max_le.mpr ⟨a.de, b3⟩, ?_⟩
    rw [PyData.shownAll, piled_cons, List.length_cons, Nat.succ_mul]
    have := a.sz
    omega
theorem tuple_text_le (ts : List Str) : (tupleText ts).length ≤ piled ts + 3 := by
  unfold tupleText
  rw [strLen_append, strLen_append]
  have e1 : ((("(" : String) : Str)).length = 1 := rfl
  have e3 : (((if ts.length == 1 then ",)" else ")" : String) : Str)).length ≤ 2 := by split <;> decide
  by_cases h : ts = []
  · subst h
    have : (Str.join ", " []).length = 0 := rfl
    omega
  · have := join_length_add ts h
    omega
theorem text_from_le : ∀ (ts : List Str) (k : Nat) (acc : Str), (textFrom k acc ts).length ≤ acc.length + piled ts
  | [], k, acc => Nat.le_add_right _ _
  | t :: r, k, acc => by
    have h := text_from_le r (k + 1) (acc ++ (if k > 0 then ", " else "" : String) ++ t)
    have e : (acc ++ (if k > 0 then ", " else "" : String) ++ t).length ≤ acc.length + 2 + t.length := by
      rw [strLen_append, strLen_append]
      have : (((if k > 0 then ", " else "" : String) : Str)).length ≤ 2 := by split <;> decide
      omega
    rw [piled_cons]
    show (textFrom (k + 1) _ r).length ≤ _
    omega
theorem list_text_le (ts : List Str) : (listText ts).length ≤ piled ts + 3 := by
  unfold listText
  rw [strLen_append]
  have h := text_from_le ts 0 "["
  have e1 : ((("[" : String) : Str)).length = 1 := rfl
  have e2 : ((("]" : String) : Str)).length = 1 := rfl
  omega
theorem sw_tup {n k : Nat} {ds : List PyData} (h : ∀ d ∈ ds, Sw n k d) : Sw (ds.length * (n + 2) + 3) (k + 1) (.tuple ds) := by
  obtain ⟨b1, b2, b3, b4⟩ := sw_all h
  refine ⟨by rw [PyData.showable]; exact b1, by rw [PyData.hasDict]; exact b2, by rw [PyData.depth]; omega, ?_⟩
  rw [PyData.shown]
  have := tuple_text_le (PyData.shownAll ds)
  omega
theorem sw_lst {n k : Nat} {ds : List PyData} (h : ∀ d ∈ ds, Sw n k d) : Sw (ds.length * (n + 2) + 3) (k + 1) (.list ds) := by
  obtain ⟨b1, b2, b3, b4⟩ := sw_all h
  refine ⟨by rw [PyData.showable]; exact b1, by rw [PyData.hasDict]; exact b2, by rw [PyData.depth]; omega, ?_⟩
  rw [PyData.shown]
  have := list_text_le (PyData.shownAll ds)
  omega
theorem sw_F {q : Rat} (h : Bq 1900 q) : Sw 3851 1 (encF q) := (sw_tup (n := 1922) (k := 0) fun d hd => by
  simp only [List.mem_cons, List.not_mem_nil, or_false] at hd
  rcases hd with rfl | rfl
  · exact sw_int (Nat.lt_trans (log2_lt h.1 (by decide)) (by decide))
  · exact sw_int (Nat.lt_trans (log2_lt h.2 (by decide)) (by decide))).mono (lb rfl) (by decide)
theorem sw_N {x : G} (h : Bd 1900 x) : Sw 7709 2 (encN x) := (sw_tup (n := 3851) (k := 1) fun d hd => by
  simp only [List.mem_cons, List.not_mem_nil, or_false] at hd
  rcases hd with rfl | rfl
  · exact sw_F h.1
  · exact sw_F h.2).mono (lb rfl) (by decide)
theorem BN.mem {l : List G} (h : BN l) {x : G} (hx : x ∈ l) : Bd 1900 x := by
  obtain ⟨k, hk⟩ := List.getElem?_of_mem hx
  have := h k
  rw [sr_get hk] at this; exact this
theorem sw_R {l : List G} (h : BN l) (hl : l.length ≤ 400) : Sw 3084500 3 (encR l) := (sw_tup (n := 7709) (k := 2) fun d hd => by
  obtain ⟨x, hx, rfl⟩ := List.mem_map.mp hd
  exact sw_N (h.mem hx)).mono (by rw [List.length_map]; omega) (by decide)
theorem sw_Rs {l : List G} (h : BN l) (hl : l.length ≤ 9) : Sw 70000 3 (encR l) := (sw_tup (n := 7709) (k := 2) fun d hd => by
  obtain ⟨x, hx, rfl⟩ := List.mem_map.mp hd
  exact sw_N (h.mem hx)).mono (by rw [List.length_map]; omega) (by decide)
theorem sw_Q {t u : List G} (h : BN t) (h' : BN u) (hl : t.length ≤ 9) (hl' : u.length ≤ 9) : Sw 140010 4 (encQ (t, u)) := (sw_tup (n := 70000) (k := 3) fun d hd => by
  simp only [List.mem_cons, List.not_mem_nil, or_false] at hd
  rcases hd with rfl | rfl
  · exact sw_Rs h hl
  · exact sw_Rs h' hl').mono (by show 2 * (70000 + 2) + 3 ≤ 140010; decide) (by decide)
/-- lengths of a reduced pair -/
theorem red_len {l m t u : List G} (tl : Tr l) (tm : Tr m) (m0 : m ≠ []) (r : Red (sr l) (sr m) t u) : t.length ≤ l.length ∧ u.length ≤ m.length := by
  obtain ⟨s, w, hs, hw, e⟩ := r.cop
  have eq := r.eq
  have une := r.une
  -- m = u v, l = t v
  have em : sr m = sr u * (s * sr l + w * sr m) := by
    have h1 : sr m = (s * sr t + w * sr u) * sr m := by rw [e]; grind
    have h2 : (s * sr t + w * sr u) * sr m = s * (sr t * sr m) + w * sr u * sr m := by grind
    rw [h2, eq] at h1
    have h3 : s * (sr u * sr l) + w * sr u * sr m = sr u * (s * sr l + w * sr m) := by grind
    exact h1.trans h3
  have hv : IsP (s * sr l + w * sr m) := isP_add (isP_mul hs (isP_sr l)) (isP_mul hw (isP_sr m))
  generalize s * sr l + w * sr m = v at *
  have v0 : v ≠ 0 := fun z => tm.ne m0 (by rw [em, z]; grind)
  obtain ⟨n, hn⟩ := hv.dg v0
  have el : sr l = sr t * v := by
    refine mul_left_cancel (isP_sr u) (isP_sr l) (isP_mul (isP_sr t) hv) une ?_
    rw [← eq, em]; grind
  refine ⟨?_, ?_⟩
  · by_cases t0 : t = []
    · rw [t0]; exact Nat.zero_le _
    · have := (r.tt.dg t0).mul hn
      rw [← el] at this
      have := tl.len_of this
      omega
  · by_cases u0 : u = []
    · rw [u0]; exact Nat.zero_le _
    · have := (r.tu.dg u0).mul hn
      rw [← em] at this
      have := tm.len_of this
      omega
end K12
/-! Sizes: what the heights give. -/
namespace K12
open PySem PySem.Spec PyProof.Rows L2 DL Ser
def chk55 (h d h' d' : Nat) : Bool := (List.range 6).all fun a => (List.range 6).all fun b => b == 0 || (chkP (finQ a h d b h' d') 13 a h b h' && chkL (finL a h d b h' d') 13 a h d b h' d' && chkP finT 13 a h b h')
/-- two rows with their heights -/
structure Two (h d h' d' : Nat) (l m : List G) : Prop where
  tl : Tr l
  tm : Tr m
  m0 : m ≠ []
  l1 : l.length ≤ 5
  l2 : m.length ≤ 5
  H : Hs h d (sr l).c
  H' : Hs h' d' (sr m).c
theorem chk_get {h d h' d' : Nat} (hc : chk55 h d h' d' = true) {l m : List G} (t : Two h d h' d' l m) : chkP (finQ l.length h d m.length h' d') 13 l.length h m.length h' = true ∧ chkL (finL l.length h d m.length h' d') 13 l.length h d m.length h' d' = true ∧ chkP finT 13 l.length h m.length h' = true := by
  have mp := List.length_pos_iff.mpr t.m0
  have := t.l1
  have := t.l2
  unfold chk55 at hc
  rw [List.all_eq_true] at hc
  have h1 := hc l.length (List.mem_range.mpr (by omega))
  rw [List.all_eq_true] at h1
  have h2 := h1 m.length (List.mem_range.mpr (by omega))
  rw [Bool.or_eq_true, Bool.and_eq_true, Bool.and_eq_true] at h2
  rcases h2 with h2 | h2
  · have : m.length = 0 := by simpa using h2
    omega
  · exact ⟨h2.1.1, h2.1.2, h2.2⟩
theorem Two.qr {h d h' d' : Nat} {l m : List G} (t : Two h d h' d' l m) (hc : chk55 h d h' d' = true) (s : (Nat.ble h 1000 && Nat.ble d 1000 && Nat.ble h' 1000 && Nat.ble d' 1000) = true) : QrOk l m := by
  simp only [Bool.and_eq_true] at s
  obtain ⟨⟨⟨s1, s2⟩, s3⟩, s4⟩ := s
  have s1 := Nat.le_of_ble_eq_true s1
  have s2 := Nat.le_of_ble_eq_true s2
  have s3 := Nat.le_of_ble_eq_true s3
  have s4 := Nat.le_of_ble_eq_true s4
  have := t.l1
  have := t.l2
  exact ⟨13, h, d, h', d', t.tl, t.tm, t.m0, by omega, by omega, t.H, t.H', by omega, by omega, by omega, by omega, by omega, by omega, (chk_get hc t).1⟩
theorem Two.lr {h d h' d' : Nat} {l m : List G} (t : Two h d h' d' l m) (hc : chk55 h d h' d' = true) : LrOk l m := ⟨13, h, d, h', d', t.tl, t.tm, t.m0, t.H, t.H', (chk_get hc t).2.1⟩
theorem Two.dv {h d h' d' : Nat} {l m : List G} (t : Two h d h' d' l m) (hc : chk55 h d h' d' = true) (s : (Nat.ble h 1000 && Nat.ble d 1000 && Nat.ble h' 1000 && Nat.ble d' 1000) = true) : DivOk finT l m := by
  simp only [Bool.and_eq_true] at s
  obtain ⟨⟨⟨s1, s2⟩, s3⟩, s4⟩ := s
  have s1 := Nat.le_of_ble_eq_true s1
  have s2 := Nat.le_of_ble_eq_true s2
  have s3 := Nat.le_of_ble_eq_true s3
  have s4 := Nat.le_of_ble_eq_true s4
  have := t.l1
  have := t.l2
  exact ⟨13, h, d, h', d', t.tl, t.tm, t.m0, by omega, by omega, t.H, t.H', by omega, by omega, by omega, by omega, by omega, by omega, (chk_get hc t).2.2⟩
theorem ck1 : chk55 25 18 14 11 = true := by decide +kernel
theorem ck2 : chk55 18 8 14 11 = true := by decide +kernel
theorem ck3 : chk55 16 9 16 9 = true := by decide +kernel
theorem ck4 : chk55 15 7 14 8 = true := by decide +kernel
theorem ck5 : chk55 6 3 6 3 = true := by decide +kernel
theorem ck6 : chk55 9 4 6 6 = true := by decide +kernel
/-- products of small rows in the program -/
theorem times_ok {h d h' d' : Nat} {l m : List G} (H : Hs h d (sr l).c) (H' : Hs h' d' (sr m).c) (l1 : l.length ≤ 8) (l2 : m.length ≤ 8) (s : (Nat.ble h 200 && Nat.ble d 200 && Nat.ble h' 200 && Nat.ble d' 200) = true) : TimesOk l m := by
  simp only [Bool.and_eq_true] at s
  obtain ⟨⟨⟨s1, s2⟩, s3⟩, s4⟩ := s
  have s1 := Nat.le_of_ble_eq_true s1
  have s2 := Nat.le_of_ble_eq_true s2
  have s3 := Nat.le_of_ble_eq_true s3
  have s4 := Nat.le_of_ble_eq_true s4
  refine ⟨by omega, by omega, fun k => (H.at k).bd (by omega) (by omega), fun k => (H'.at k).bd (by omega) (by omega), fun j k => ((H.at j).mul (H'.at k)).bd (by omega) (by omega), fun j k b _ hj => ?_⟩
  exact part_bd (c := 3) H H' (by omega) (by omega) (by omega) hj b
theorem Hs.ta {h d n : Nat} {l : List G} (H : Hs h d (sr l).c) (h1 : h + d < n) (h2 : d + d < n) : TA n l := fun k => (H.at k).tb h1 h2
theorem Hs.ba {h d : Nat} {l : List G} (H : Hs h d (sr l).c) (h1 : h + d < 2200) (h2 : d + d < 2200) : BA l := fun k => (H.at k).bd h1 h2
theorem len_mul {l m r : List G} (tr : Tr r) (e : sr r = sr l * sr m) {a b : Nat} (h1 : l.length ≤ a + 1) (h2 : m.length ≤ b + 1) : r.length ≤ a + b + 1 := by
  refine tr.len_le ?_
  rw [e]
  exact (mul_top (n := a) (m := b) ((dl_sr l).mono h1) ((dl_sr m).mono h2)).2
theorem len_add {r : List G} {f g : Ser} {n : Nat} (tr : Tr r) (e : sr r = f + g) (h1 : Dl n f) (h2 : Dl n g) : r.length ≤ n := tr.len_le (by rw [e]; exact h1.add h2)
theorem len_sub {r : List G} {f g : Ser} {n : Nat} (tr : Tr r) (e : sr r = f - g) (h1 : Dl n f) (h2 : Dl n g) : r.length ≤ n := tr.len_le (by rw [e]; exact h1.sub h2)
/-! ### pairs -/
section
variable {a b c d : List G}
theorem PairK.ha (p : PairK a b) : Hs 9 4 (sr a).c := p.Ht.elim (fun q => q.2.hs (by decide) (by decide)) fun q => q.hs (by decide) (by decide)
theorem PairK.hb (p : PairK a b) : Hs 6 6 (sr b).c := p.Hu.hs (by decide) (by decide)
theorem PairK.b0 (p : PairK a b) : b ≠ [] := fun z => by
  have := p.one
  rw [z, sr_nil, zero_c] at this
  grind
/-- a d -/
theorem PairK.left (p : PairK a b) (q : PairK c d) : Hv 36864 432 (sr a * sr d).c := by
  rcases p.Ht with ⟨l, H⟩ | H
  · exact (H.mulS q.Hu ((dl_sr a).mono l)).mono (by decide) (by decide)
  · exact (H.mulS q.Hu ((dl_sr a).mono p.l1)).mono (by decide) (by decide)
theorem PairK.low (p : PairK a b) (q : PairK c d) : Hv 12288 1296 (sr b * sr d).c := (p.Hu.mulS q.Hu ((dl_sr b).mono p.l2)).mono (by decide) (by decide)
theorem PairK.prod (p : PairK a b) (q : PairK c d) : Hv 165888 144 (sr a * sr c).c := by
  have hc : Hv 288 12 (sr c).c := q.Ht.elim (fun z => z.2) fun z => z.mono (by decide) (by decide)
  rcases p.Ht with ⟨l, H⟩ | H
  · exact (H.mulS hc ((dl_sr a).mono l)).mono (by decide) (by decide)
  · exact (H.mulS hc ((dl_sr a).mono p.l1)).mono (by decide) (by decide)
theorem mul_ne' {x y : List G} (tx : Tr x) (ty : Tr y) (x0 : x ≠ []) (y0 : y ≠ []) : sr x * sr y ≠ 0 := fun e => by
  have := ((tx.dg x0).mul (ty.dg y0)).ne
  exact this e
theorem ne_of_mul {x y r : List G} (tx : Tr x) (ty : Tr y) (x0 : x ≠ []) (y0 : y ≠ []) (e : sr r = sr x * sr y) : r ≠ [] := fun z => mul_ne' tx ty x0 y0 (by rw [← e, z, sr_nil])
theorem dl5 {x y : List G} (h1 : x.length ≤ 3) (h2 : y.length ≤ 3) : Dl 5 (sr x * sr y) := (mul_top (n := 2) (m := 2) ((dl_sr x).mono h1) ((dl_sr y).mono h2)).2
theorem PairK.two_sum (p : PairK a b) (q : PairK c d) {x y : List G} (tx : Tr x) (ty : Tr y) (ex : sr x = sr a * sr d + sr c * sr b) (ey : sr y = sr b * sr d) : Two 25 18 14 11 x y := by
  refine ⟨tx, ty, ne_of_mul p.tu q.tu p.b0 q.b0 ey, len_add tx ex (dl5 p.l1 q.l2) (dl5 q.l1 p.l2), len_mul (a := 2) (b := 2) ty ey p.l2 q.l2, ?_, ?_⟩
  · rw [ex]; exact ((p.left q).add (q.left p)).hs (by decide) (by decide)
  · rw [ey]; exact (p.low q).hs (by decide) (by decide)
theorem PairK.two_less (p : PairK a b) (q : PairK c d) {x y : List G} (tx : Tr x) (ty : Tr y) (ex : sr x = sr a * sr d - sr c * sr b) (ey : sr y = sr b * sr d) : Two 25 18 14 11 x y := by
  refine ⟨tx, ty, ne_of_mul p.tu q.tu p.b0 q.b0 ey, len_sub tx ex (dl5 p.l1 q.l2) (dl5 q.l1 p.l2), len_mul (a := 2) (b := 2) ty ey p.l2 q.l2, ?_, ?_⟩
  · rw [ex]; exact ((p.left q).sub (q.left p)).hs (by decide) (by decide)
  · rw [ey]; exact (p.low q).hs (by decide) (by decide)
theorem PairK.two_prod (p : PairK a b) (q : PairK c d) {x y : List G} (tx : Tr x) (ty : Tr y) (ex : sr x = sr a * sr c) (ey : sr y = sr b * sr d) : Two 18 8 14 11 x y := by
  refine ⟨tx, ty, ne_of_mul p.tu q.tu p.b0 q.b0 ey, len_mul (a := 2) (b := 2) tx ex p.l1 q.l1, len_mul (a := 2) (b := 2) ty ey p.l2 q.l2, ?_, ?_⟩
  · rw [ex]; exact (p.prod q).hs (by decide) (by decide)
  · rw [ey]; exact (p.low q).hs (by decide) (by decide)
theorem PairK.two_over (p : PairK a b) (q : PairK c d) (c0 : c ≠ []) {x y : List G} (tx : Tr x) (ty : Tr y) (ex : sr x = sr a * sr d) (ey : sr y = sr b * sr c) : Two 16 9 16 9 x y := by
  refine ⟨tx, ty, ne_of_mul p.tu q.tt p.b0 c0 ey, len_mul (a := 2) (b := 2) tx ex p.l1 q.l2, len_mul (a := 2) (b := 2) ty ey p.l2 q.l1, ?_, ?_⟩
  · rw [ex]; exact (p.left q).hs (by decide) (by decide)
  · rw [ey, show sr b * sr c = sr c * sr b by grind]; exact (q.left p).hs (by decide) (by decide)
theorem PairK.two (p : PairK a b) : Two 9 4 6 6 a b := ⟨p.tt, p.tu, p.b0, by have := p.l1; omega, by have := p.l2; omega, p.ha, p.hb⟩
theorem PairK.iq (p : PairK a b) : IQ (encQ (a, b)) true := .cop p.one (p.two.dv ck6 rfl) p.cop
theorem PairK.red (p : PairK a b) {γ : Ser} {l m : Ser} (e1 : l = sr a * γ) (e2 : m = sr b * γ) : Red l m a b := ⟨p.tt, p.tu, p.one, p.cop, by rw [e1, e2]; grind⟩
theorem PairK.bn (p : PairK a b) : BN a ∧ BN b := ⟨fun k => (p.ha.at k).bd (by decide) (by decide), fun k => (p.hb.at k).bd (by decide) (by decide)⟩
theorem PairK.sumOk (p : PairK a b) (q : PairK c d) : SumOk (fun x y => x + y) a b c d := by
  have l3 : ∀ {z : List G}, z.length ≤ 3 → z.length ≤ 8 := fun h => by omega
  refine ⟨p.tt, p.tu, q.tt, q.tu, times_ok p.ha q.hb (l3 p.l1) (l3 q.l2) rfl, times_ok q.ha p.hb (l3 q.l1) (l3 p.l2) rfl, times_ok p.hb q.hb (l3 p.l2) (l3 q.l2) rfl, fun x y tx ty ex ey => ?_, fun x y tx ty ex ey => (p.two_sum q tx ty ex ey).qr ck1 rfl⟩
  have k1 := len_mul (a := 2) (b := 2) tx ex p.l1 q.l2
  have k2 := len_mul (a := 2) (b := 2) ty ey q.l1 p.l2
  have H1 : Hs 16 9 (sr x).c := by rw [ex]; exact (p.left q).hs (by decide) (by decide)
  have H2 : Hs 16 9 (sr y).c := by rw [ey]; exact (q.left p).hs (by decide) (by decide)
  exact ⟨by omega, by omega, H1.ba (by decide) (by decide), H2.ba (by decide) (by decide)⟩
theorem PairK.lessOk (p : PairK a b) (q : PairK c d) : SumOk (fun x y => x - y) a b c d := by
  obtain ⟨h1, h2, h3, h4, h5, h6, h7, h8, _⟩ := p.sumOk q
  exact ⟨h1, h2, h3, h4, h5, h6, h7, h8, fun x y tx ty ex ey => (p.two_less q tx ty ex ey).qr ck1 rfl⟩
theorem PairK.prodOk (p : PairK a b) (q : PairK c d) : ProdOk a b c d := by
  have l3 : ∀ {z : List G}, z.length ≤ 3 → z.length ≤ 8 := fun h => by omega
  exact ⟨p.tt, p.tu, q.tt, q.tu, times_ok p.ha q.ha (l3 p.l1) (l3 q.l1) rfl, times_ok p.hb q.hb (l3 p.l2) (l3 q.l2) rfl, fun x y tx ty ex ey => (p.two_prod q tx ty ex ey).qr ck2 rfl⟩
theorem PairK.overOk (p : PairK a b) (q : PairK c d) (c0 : c ≠ []) : ProdOk a b d c := by
  have l3 : ∀ {z : List G}, z.length ≤ 3 → z.length ≤ 8 := fun h => by omega
  exact ⟨p.tt, p.tu, q.tu, q.tt, times_ok p.ha q.hb (l3 p.l1) (l3 q.l2) rfl, times_ok p.hb q.ha (l3 p.l2) (l3 q.l1) rfl, fun x y tx ty ex ey => (p.two_over q c0 tx ty ex ey).qr ck3 rfl⟩
end
end K12
namespace K12
open PySem PySem.Spec PyProof.Rows L2 DL
open Ser
def sp_law_made : FS := fun rs P => ∃ l m : List G, rs = [.dat (encR l), .dat (encR m)] ∧ Tr l ∧ Tr m ∧ m ≠ [] ∧ QrOk l m ∧ (NoRed (sr l) (sr m) → P (.dat .none)) ∧ ∀ t u, Red (sr l) (sr m) t u → BN t → BN u → P (.dat (encQ (t, u)))
def sp_law_parted : FS := fun rs P => ∃ a b c d : List G, rs = [.dat (encQ (a, b)), .dat (encQ (c, d))] ∧ IQ (encQ (a, b)) true ∧ IQ (encQ (c, d)) true ∧ c ≠ [] ∧ ProdOk a b d c ∧ (NoRed (sr a * sr d) (sr b * sr c) → P (.dat .none)) ∧ ∀ t u, Red (sr a * sr d) (sr b * sr c) t u → BN t → BN u → P (.dat (encQ (t, u)))
theorem kb_quotient_sum : KB2 "quotient_sum" (topS 57) "quotient" "other" := fun _ _ _ _ _ _ => ⟨fun _ _ => rfl, fun _ _ => rfl, fun _ _ => rfl⟩
theorem kb_quotient_less : KB2 "quotient_less" (topS 58) "quotient" "other" := fun _ _ _ _ _ _ => ⟨fun _ _ => rfl, fun _ _ => rfl, fun _ _ => rfl⟩
theorem kb_quotient_product : KB2 "quotient_product" (topS 59) "quotient" "other" := fun _ _ _ _ _ _ => ⟨fun _ _ => rfl, fun _ _ => rfl, fun _ _ => rfl⟩
theorem kb_quotient_of : KB2 "quotient_of" (topS 55) "top" "under" := fun _ _ _ _ _ _ => ⟨fun _ _ => rfl, fun _ _ => rfl, fun _ _ => rfl⟩
theorem kb_quotient_value : KB2 "quotient_value" (topS 61) "quotient" "number" := fun _ _ _ _ _ _ => ⟨fun _ _ => rfl, fun _ _ => rfl, fun _ _ => rfl⟩
theorem kb_quotient_degree : KB1 "quotient_degree" (topS 56) "quotient" := fun _ _ _ _ _ _ => ⟨fun _ => rfl, fun _ => rfl⟩
local macro_rules | `(tactic| walk_at "st") => `(tactic| dsimp -failIfUnchanged only [List.length_cons, List.length_nil, Nat.reduceAdd, Nat.reduceSub, rep0, repS, List.cons_append, List.nil_append, List.set_cons_zero, List.set_cons_succ, gSlot, fNext])
local macro_rules | `(tactic| walk_at "lt2") => `(tactic| first | with_reducible assumption | (with_reducible apply Lt2.mul; walk_at "lt2"; walk_at "lt2") | (with_reducible apply Lt2.neg; walk_at "lt2"))
local macro_rules | `(tactic| walk_at "cm") => `(tactic| (with_reducible apply cm; walk_at "lt2"; walk_at "lt2"; omega))
section
variable {P : Program} {w : World} {K : PySem.W.Frag} {mg : Str → Option Value} {base : Heap} (T : Txt K mg)
include T
theorem g__law_made : Good P w K mg base 10 "_law_made" ["_law_top", "_law_under_here"] sp_law_made := by
  obtain ⟨C, hC⟩ := T.nos
  refine good_mk (T.defs ("_law_made", 85) (by decide)) sc__law_made (fun _ _ _ _ _ _ us hl => match us, hl with | [_, _], _ => rfl) ?_ (fun cdv A outer s H E B f hK hr => ⟨_, (s_cons (s_set 2 sc__law_made.nd d_non)
    (s_cons (s_try 2 sc__law_made.nd hK (g_quotient_of T hC) (hr.mono (by decide)) hC (fun _ _ => (da_cons (d_var 0) (da_cons (d_var 1) da_nil))) rfl rfl rfl rfl rfl rfl rfl rfl rfl rfl rfl rfl)
    (s_one (s_ret (d_var 2))))), fun rs P h => ?_⟩)
  · rintro rs P ⟨l, m, rfl, _⟩; rfl
  · obtain ⟨l, m, rfl, tl, tm, m0, ok, hN, hR⟩ := h
    walk_at "st"
    refine ⟨_, _, rfl, tl, tm, m0, ok, fun hn => ?_, fun t u red b1 b2 => ?_⟩
    · exact hN hn
    · exact hR t u red b1 b2

theorem g__law_parted : Good P w K mg base 10 "_law_parted" ["_law_one", "_law_two"] sp_law_parted := by
  obtain ⟨C, hC⟩ := T.nos
  refine good_mk (T.defs ("_law_parted", 86) (by decide)) sc__law_parted (fun _ _ _ _ _ _ us hl => match us, hl with | [_, _], _ => rfl) ?_ (fun cdv A outer s H E B f hK hr => ⟨_, (s_cons (s_set 2 sc__law_parted.nd d_non)
    (s_cons (s_try 2 sc__law_parted.nd hK (g_quotient_over T hC) (hr.mono (by decide)) hC (fun _ _ => (da_cons (d_var 0) (da_cons (d_var 1) da_nil))) rfl rfl rfl rfl rfl rfl rfl rfl rfl rfl rfl rfl)
    (s_one (s_ret (d_var 2))))), fun rs P h => ?_⟩)
  · rintro rs P ⟨a, b, c, d, rfl, _⟩; rfl
  · obtain ⟨a, b, c, d, rfl, q1, q2, c0, ok, hN, hR⟩ := h
    walk_at "st"
    refine ⟨_, _, _, _, rfl, q1, q2, c0, ok, fun hn => ?_, fun t u red b1 b2 => ?_⟩
    · exact hN hn
    · exact hR t u red b1 b2
end
end K12
namespace K12
open PySem PySem.Spec PyProof.Rows L2 DL
open Ser
def encP (p : List G × List G) : PyData := .tuple [encL p.1, encL p.2]
def sp_law_sums : FS := fun rs P => ∃ a b c d : List G, rs = [.dat (encP (a, b)), .dat (encP (c, d))] ∧ PairK a b ∧ PairK c d ∧ P (.dat (.bool true))
theorem nored_one {l m : Ser} (h1 : m.c 0 = 1) (h : NoRed l m) : False := by
  obtain ⟨t, u, ht, hu, u0, c, z, e⟩ := h
  obtain ⟨s, w, hs, hw, e1⟩ := c
  have : m = u * (s * l + w * m) := by
    have h1 : m = (s * t + w * u) * m := by rw [e1]; grind
    have h2 : (s * t + w * u) * m = s * (t * m) + w * u * m := by grind
    have h3 : s * (u * l) + w * u * m = u * (s * l + w * m) := by grind
    rw [h2, e] at h1
    exact h1.trans h3
  rw [this, mul0_c, z] at h1
  grind
theorem redK_go {l m l' m' : Ser} {t u : List G} {P : Sl → Prop} (hl : IsP l) (hm : IsP m) (m0 : m ≠ 0) (r : Red l m t u) (e1 : l' = l) (e2 : m' = m) (no : NoRed l m → False) (h : BN t → BN u → P (.dat (encQ (t, u)))) : RedK l' m' P := by
  subst e1 e2
  refine ⟨fun hn => (no hn).elim, fun t' u' r' b1 b2 => ?_⟩
  obtain ⟨rfl, rfl⟩ := r.uniq hl hm m0 r'
  exact h b1 b2
theorem m1_enc : PyData.list [.tuple [.int (0 - 1), .int 0, .int 1]] = encL [gi (0 - 1) 0] := by
  unfold encL
  rw [List.map_cons, List.map_nil, enc_int]
theorem m1_ta : TA 400 [gi (0 - 1) 0] := fun k => by
  match k with
  | 0 =>
    show TB 400 (gi (0 - 1) 0)
    rw [m1_eq]
    exact ((hn_one 0 0).neg).tb (by decide) (by decide)
  | k + 1 =>
    show TB 400 0
    exact (hn_zero 0 0).tb (by decide) (by decide)
theorem m1_mul (f : Ser) : sr [gi (0 - 1) 0] * f = -f := by
  rw [sr_one, m1_eq]
  refine Ser.ext' fun k => ?_
  rw [con_mul, neg_c]; grind
local macro_rules | `(tactic| walk_at "st") => `(tactic| dsimp -failIfUnchanged only [List.length_cons, List.length_nil, Nat.reduceAdd, Nat.reduceSub, rep0, repS, List.cons_append, List.nil_append, List.set_cons_zero, List.set_cons_succ, gSlot, fNext])
local macro_rules | `(tactic| walk_at "lt2") => `(tactic| first | with_reducible assumption | (with_reducible apply Lt2.mul; walk_at "lt2"; walk_at "lt2") | (with_reducible apply Lt2.neg; walk_at "lt2"))
local macro_rules | `(tactic| walk_at "cm") => `(tactic| (with_reducible apply cm; walk_at "lt2"; walk_at "lt2"; omega))
section
variable {P : Program} {w : World} {K : PySem.W.Frag} {mg : Str → Option Value} {base : Heap} (T : Txt K mg)
include T
theorem g__law_sums : GoodG P w K mg base 11 "_law_sums" ["_law_first", "_law_second"] sp_law_sums := by
  refine good_mkG (T.defs ("_law_sums", 89) (by decide)) sc__law_sums (fun _ _ _ _ _ _ us hl => match us, hl with | [_, _], _ => rfl) ?_ (fun cdv A outer s H E B f hK hG hr => ⟨_, (s_cons (s_asg (d_tup (da_cons (d_ix hK (d_var 0) d_int) (da_cons (d_ix hK (d_var 0) d_int) (da_cons (d_ix hK (d_var 1) d_int) (da_cons (d_ix hK (d_var 1) d_int) da_nil))))) (g_tup (n := 4) hK rfl (gs_cons (g_name 4 sc__law_sums.nd) (gs_cons (g_name 5 sc__law_sums.nd) (gs_cons (g_name 6 sc__law_sums.nd) (gs_cons (g_name 7 sc__law_sums.nd) gs_nil ae_name) ae_name) ae_name) ae_name) (ae_len _) (ae_find _ rfl)) so_tup ss_tup4 ae_one)
    (s_cons (s_par 8 9 sc__law_sums.nd (da_cons (c_call (g__law_told_quotient T) hK (hr.mono (by decide)) (da_cons (d_var 0) da_nil)) (da_cons (c_call (g__law_told_quotient T) hK (hr.mono (by decide)) (da_cons (d_var 1) da_nil)) da_nil)))
    (s_cons (s_par3 10 11 12 sc__law_sums.nd (da_cons (c_call (g__law_row_times T) hK (hr.mono (by decide)) (da_cons (d_var 5) (da_cons (d_var 7) da_nil))) (da_cons (c_call (g__law_row_times T) hK (hr.mono (by decide)) (da_cons (d_var 4) (da_cons (d_var 7) da_nil))) (da_cons (c_call (g__law_row_times T) hK (hr.mono (by decide)) (da_cons (d_var 6) (da_cons (d_var 5) da_nil))) da_nil))))
    (s_cons (s_set 2 sc__law_sums.nd (d_lst (da_cons (c_call (g__law_due T) hK (hr.mono (by decide)) (da_cons (c_call (g__law_row_sum T) hK (hr.mono (by decide)) (da_cons (d_var 11) (da_cons (d_var 12) da_nil))) (da_cons (d_var 10) da_nil))) da_nil)))
    (s_cons (s_appO 2 hK (c_call (g__law_due T) hK (hr.mono (by decide)) (da_cons (c_call (g__law_row_sum T) hK (hr.mono (by decide)) (da_cons (d_var 11) (da_cons (c_call (g__law_row_times T) hK (hr.mono (by decide)) (da_cons (d_frz (d_lst (da_cons (d_tup (da_cons (d_bin op_sub opd_I0 d_int d_int) (da_cons d_int (da_cons d_int da_nil)))) da_nil))) (da_cons (d_var 12) da_nil))) da_nil))) (da_cons (d_var 10) da_nil))))
    (s_cons (s_appO 2 hK (c_call (g__law_due T) hK (hr.mono (by decide)) (da_cons (c_call (g__law_row_times T) hK (hr.mono (by decide)) (da_cons (d_var 4) (da_cons (d_var 6) da_nil))) (da_cons (d_var 10) da_nil))))
    (s_cons (s_frz 2 (s_if (d_cmpT op_ne opd_neS (d_callB (call_reprD hG (hu64 hr)) (cd_repr hK) (by rfl) T.repr_ (by decide +kernel) (da_cons (d_frz (d_lst (da_cons (c_call (g_quotient_sum T) hK (hr.mono (by decide)) (da_cons (d_var 8) (da_cons (d_var 9) da_nil))) (da_cons (c_call (g_quotient_less T) hK (hr.mono (by decide)) (da_cons (d_var 8) (da_cons (d_var 9) da_nil))) (da_cons (c_call (g_quotient_product T) hK (hr.mono (by decide)) (da_cons (d_var 8) (da_cons (d_var 9) da_nil))) da_nil))))) da_nil)) (d_callB (call_reprD hG (hu64 hr)) (cd_repr hK) (by rfl) T.repr_ (by decide +kernel) (da_cons (d_var 2) da_nil)) (nomark _))
    (s_one (s_ret d_bl))
    s_nil))
    (s_cons (s_set 3 sc__law_sums.nd (d_frz (d_lst (da_cons (c_callK2 (g_quotient_sum T) (T.defs ("quotient_sum", 57) (by decide)) kb_quotient_sum hK (hr.mono (by decide)) (dk_cons (d_var 8) (dk_cons (d_var 9) dk_nil))) (da_cons (c_callK2 (g_quotient_less T) (T.defs ("quotient_less", 58) (by decide)) kb_quotient_less hK (hr.mono (by decide)) (dk_cons (d_var 9) (dk_cons (d_var 8) dk_nil))) da_nil)))))
    (s_cons (s_if (d_cmpT op_ne opd_neS (d_callB (call_reprD hG (hu64 hr)) (cd_repr hK) (by rfl) T.repr_ (by decide +kernel) (da_cons (d_frz (d_bin op_catR opd_cat (d_var 3) (d_frz (d_lst (da_cons (c_callK2 (g_quotient_product T) (T.defs ("quotient_product", 59) (by decide)) kb_quotient_product hK (hr.mono (by decide)) (dk_cons (d_var 8) (dk_cons (d_var 9) dk_nil))) da_nil))))) da_nil)) (d_callB (call_reprD hG (hu64 hr)) (cd_repr hK) (by rfl) T.repr_ (by decide +kernel) (da_cons (d_var 2) da_nil)) (nomark _))
    (s_one (s_ret d_bl))
    s_nil)
    (s_one (s_ret (d_orV (d_cmp (op_eqD (hu64 hr)) (opd_eqD hK) (d_var 6) (d_frz (d_lst da_nil)) (nomark _)) (d_oneV (d_cmp op_eq opd_eqS (d_callB (call_reprD hG (hu64 hr)) (cd_repr hK) (by rfl) T.repr_ (by decide +kernel) (da_cons (c_call (g__law_parted T) hK (hr.mono (by decide)) (da_cons (d_var 8) (da_cons (d_var 9) da_nil))) da_nil)) (d_callB (call_reprD hG (hu64 hr)) (cd_repr hK) (by rfl) T.repr_ (by decide +kernel) (da_cons (c_call (g__law_due T) hK (hr.mono (by decide)) (da_cons (d_var 11) (da_cons (d_var 12) da_nil))) da_nil)) (nomark _))))))))))))))), fun rs P h => ?_⟩)
  · rintro rs P ⟨a, b, c, d, rfl, _⟩; rfl
  · obtain ⟨a, b, c, d, rfl, p, q, hP⟩ := h
    have la := p.l1
    have lb' := p.l2
    have lc := q.l1
    have ld := q.l2
    have ta : TA 400 a := p.ha.ta (by decide) (by decide)
    have tb : TA 400 b := p.hb.ta (by decide) (by decide)
    have tc : TA 400 c := q.ha.ta (by decide) (by decide)
    have td : TA 400 d := q.hb.ta (by decide) (by decide)
    walk_at "st"
    refine ⟨lb rfl, rfl, ?_⟩
    walk_at "st"
    refine ⟨a, b, rfl, by omega, by omega, ta.td (by decide), tb.td (by decide), fun r s hr' hs e1 e2 => ?_⟩
    rw [tr_ext hr' p.tt e1, tr_ext hs p.tu e2]
    refine ⟨c, d, rfl, by omega, by omega, tc.td (by decide), td.td (by decide), fun r s hr' hs e1 e2 => ?_⟩
    rw [tr_ext hr' q.tt e1, tr_ext hs q.tu e2]
    clear r s hr' hs e1 e2
    walk_at "st"
    refine ⟨b, d, rfl, by omega, by omega, tb, td, fun lo tlo elo => ?_⟩
    refine ⟨a, d, rfl, by omega, by omega, ta, td, fun le tle ele => ?_⟩
    refine ⟨c, b, rfl, by omega, by omega, tc, tb, fun ri tri' eri => ?_⟩
    walk_at "st"
    have Hle : Hs 16 9 (sr le).c := by rw [ele]; exact (p.left q).hs (by decide) (by decide)
    have Hri : Hs 16 9 (sr ri).c := by rw [eri]; exact (q.left p).hs (by decide) (by decide)
    have kle := len_mul (a := 2) (b := 2) tle ele p.l1 q.l2
    have kri := len_mul (a := 2) (b := 2) tri' eri q.l1 p.l2
    have klo := len_mul (a := 2) (b := 2) tlo elo p.l2 q.l2
    have one : (sr b * sr d).c 0 = 1 := by rw [mul0_c, p.one, q.one]; grind
    have low0 : sr b * sr d ≠ 0 := fun z => by
      rw [z, zero_c] at one
      grind
    have hm : IsP (sr b * sr d) := isP_mul (isP_sr _) (isP_sr _)
    have no : ∀ {l : Ser}, NoRed l (sr lo) → False := fun h => nored_one (by rw [elo]; exact one) h
    refine ⟨le, ri, rfl, by omega, by omega, Hle.ta (by decide) (by decide), Hri.ta (by decide) (by decide), fun x1 tx1 ex1 => ?_⟩
    rw [ele, eri] at ex1
    refine ⟨x1, lo, rfl, (p.two_sum q tx1 tlo ex1 elo).lr ck1, fun h => (no h).elim, fun t1 u1 r1 => ?_⟩
    refine ⟨lb rfl, ?_⟩
    walk_at "st"
    refine ⟨lb rfl, lb rfl, [gi (0 - 1) 0], ri, ?_, lb rfl, by omega, m1_ta, Hri.ta (by decide) (by decide), fun n tn en => ?_⟩
    · rw [← m1_enc]; rfl
    rw [m1_mul] at en
    have Hn' : Hs 16 9 (sr n).c := by
      have hv : Hv 36864 432 (sr ri).c := by rw [eri]; exact q.left p
      exact (hv.neg en).hs (by decide) (by decide)
    have kn : n.length ≤ 5 := tn.len_le (by
      rw [en]
      intro k hk
      rw [neg_c, dl_sr ri k (by omega)]; grind)
    refine ⟨le, n, rfl, by omega, by omega, Hle.ta (by decide) (by decide), Hn'.ta (by decide) (by decide), fun x2 tx2 ex2 => ?_⟩
    have ex2' : sr x2 = sr a * sr d - sr c * sr b := by rw [ex2, en, ele, eri]; grind
    refine ⟨x2, lo, rfl, (p.two_less q tx2 tlo ex2' elo).lr ck1, fun h => (no h).elim, fun t2 u2 r2 => ?_⟩
    refine ⟨lb rfl, ?_⟩
    walk_at "st"
    refine ⟨a, c, rfl, by omega, by omega, ta, tc, fun x3 tx3 ex3 => ?_⟩
    refine ⟨x3, lo, rfl, (p.two_prod q tx3 tlo ex3 elo).lr ck2, fun h => (no h).elim, fun t3 u3 r3 => ?_⟩
    refine ⟨lb rfl, ?_⟩
    have k1 := red_len tx1 tlo (p.two_sum q tx1 tlo ex1 elo).m0 r1
    have k2 := red_len tx2 tlo (p.two_sum q tx1 tlo ex1 elo).m0 r2
    have k3 := red_len tx3 tlo (p.two_sum q tx1 tlo ex1 elo).m0 r3
    have j1 := (p.two_sum q tx1 tlo ex1 elo).l1
    have j2 := (p.two_less q tx2 tlo ex2' elo).l1
    have j3 := (p.two_prod q tx3 tlo ex3 elo).l1
    rw [ex1, elo] at r1
    rw [ex2', elo] at r2
    rw [ex3, elo] at r3
    have no1 : ∀ {l : Ser}, NoRed l (sr b * sr d) → False := fun h => nored_one one h
    walk_at "st"
    refine ⟨a, b, c, d, rfl, p.iq, q.iq, p.sumOk q, redK_go (isP_add (isP_mul (isP_sr _) (isP_sr _)) (isP_mul (isP_sr _) (isP_sr _))) hm low0 r1 rfl rfl no1 fun b1 b1' => ?_⟩
    refine ⟨a, b, c, d, rfl, p.iq, q.iq, p.lessOk q, redK_go (isP_sub (isP_mul (isP_sr _) (isP_sr _)) (isP_mul (isP_sr _) (isP_sr _))) hm low0 r2 rfl rfl no1 fun b2 b2' => ?_⟩
    refine ⟨a, b, c, d, rfl, p.iq, q.iq, p.prodOk q, redK_go (isP_mul (isP_sr _) (isP_sr _)) hm low0 r3 rfl rfl no1 fun b3 b3' => ?_⟩
    refine ⟨lb rfl, ?_⟩
    have sw : ShowOk (.list [encQ (t1, u1), encQ (t2, u2), encQ (t3, u3)]) := (sw_lst (n := 140010) (k := 4) fun z hz => by
      simp only [List.mem_cons, List.not_mem_nil, or_false] at hz
      rcases hz with rfl | rfl | rfl
      · exact sw_Q b1 b1' (by omega) (by omega)
      · exact sw_Q b2 b2' (by omega) (by omega)
      · exact sw_Q b3 b3' (by omega) (by omega)).mono (n' := 500000) (by show 3 * (140010 + 2) + 3 ≤ 500000; decide) (Nat.le_refl _) |>.ok rfl (by decide) (by decide)
    refine repr_go sw ?_
    refine repr_go sw ?_
    refine str_go ?_
    refine ⟨fun z => (nomatch z), fun _ => ?_⟩
    walk_at "st"
    have f1 : sr c * sr b + sr a * sr d = sr a * sr d + sr c * sr b := by grind
    have f2 : sr d * sr b = sr b * sr d := by grind
    have f3 : sr c * sr a = sr a * sr c := by grind
    refine ⟨c, d, a, b, rfl, q.iq, p.iq, q.sumOk p, redK_go (isP_add (isP_mul (isP_sr _) (isP_sr _)) (isP_mul (isP_sr _) (isP_sr _))) hm low0 r1 f1 f2 no1 fun _ _ => ?_⟩
    refine ⟨a, b, c, d, rfl, p.iq, q.iq, p.lessOk q, redK_go (isP_sub (isP_mul (isP_sr _) (isP_sr _)) (isP_mul (isP_sr _) (isP_sr _))) hm low0 r2 rfl rfl no1 fun _ _ => ?_⟩
    refine ⟨lb rfl, ?_⟩
    walk_at "st"
    refine ⟨c, d, a, b, rfl, q.iq, p.iq, q.prodOk p, redK_go (isP_mul (isP_sr _) (isP_sr _)) hm low0 r3 f3 f2 no1 fun _ _ => ?_⟩
    refine ⟨lb rfl, ?_⟩
    refine ⟨lb rfl, ?_⟩
    refine repr_go sw ?_
    refine repr_go sw ?_
    refine str_go ?_
    refine ⟨fun z => (nomatch z), fun _ => ?_⟩
    walk_at "st"
    refine ⟨lb rfl, ?_⟩
    refine eq_go ((sh_L c).shaped rfl) rfl (eqv_L0 c) ?_
    refine ⟨fun _ => hP, fun hc => ?_⟩
    have c0 : c ≠ [] := of_decide_eq_false hc
    have ov := p.two_over q c0 tle tri' ele (by rw [eri]; grind)
    have eri' : sr ri = sr b * sr c := by rw [eri]; grind
    refine ⟨a, b, c, d, rfl, p.iq, q.iq, c0, p.overOk q c0, fun hn => ?_, fun t u r b1 b1' => ?_⟩
    · refine repr_go (sw_none.ok rfl (by decide) (by decide)) ?_
      refine ⟨le, ri, rfl, ov.lr ck3, fun _ => ?_, fun t u r => ?_⟩
      · refine repr_go (sw_none.ok rfl (by decide) (by decide)) ?_
        exact str_go hP
      · rw [ele, eri'] at r
        exact (r.no (isP_mul (isP_sr _) (isP_sr _)) (isP_mul (isP_sr _) (isP_sr _)) (mul_ne' p.tu q.tt p.b0 c0) hn).elim
    · have kk := red_len tle tri' ov.m0 (by rw [ele, eri']; exact r)
      have sq := (sw_Q b1 b1' (by omega) (by omega)).ok rfl (by decide) (by decide)
      refine repr_go sq ?_
      refine ⟨le, ri, rfl, ov.lr ck3, fun hn => ?_, fun t' u' r' => ?_⟩
      · rw [ele, eri'] at hn
        exact (r.no (isP_mul (isP_sr _) (isP_sr _)) (isP_mul (isP_sr _) (isP_sr _)) (mul_ne' p.tu q.tt p.b0 c0) hn).elim
      · rw [ele, eri'] at r'
        obtain ⟨rfl, rfl⟩ := r.uniq (isP_mul (isP_sr _) (isP_sr _)) (isP_mul (isP_sr _) (isP_sr _)) (mul_ne' p.tu q.tt p.b0 c0) r'
        refine repr_go sq ?_
        exact str_go hP
end
end K12
/-! Sizes and truths for the last def of the law. -/
namespace K12
open PySem PySem.Spec PyProof.Rows L2 DL Ser
theorem app_c (l m : List G) (k : Nat) : (sr (l ++ m)).c k = if k < l.length then (sr l).c k else (sr m).c (k - l.length) := by
  rw [sr_c, sr_c, sr_c, List.getD_eq_getElem?_getD, List.getD_eq_getElem?_getD, List.getD_eq_getElem?_getD]
  by_cases h : k < l.length
  · rw [if_pos h, List.getElem?_append_left h]
  · rw [if_neg h, List.getElem?_append_right (by omega)]
def DA (l : List G) : Prop := ∀ k, Dn 4 3 ((sr l).c k)
theorem DA.app {l m : List G} (h : DA l) (h' : DA m) : DA (l ++ m) := fun k => by
  rw [app_c]
  split
  · exact h k
  · exact h' _
theorem da_one {x : G} (h : Dn 4 3 x) : DA [x] := fun k => by
  match k with
  | 0 => exact h
  | k + 1 => exact dn_0 (by decide)
theorem dn_int {a b : Int} (ha : a.natAbs ≤ 4) (hb : b.natAbs ≤ 4) : Dn 4 3 (gi a b) := ⟨a, b, 1, ha, hb, by decide, by decide, by show (a : Rat) * _ = _; push_cast; grind, by show (b : Rat) * _ = _; push_cast; grind⟩
theorem dn_1 : Dn 4 3 1 := dn_int (a := 1) (b := 0) (by decide) (by decide)
theorem da_rep (n : Nat) : DA (toL n fun _ => 0) := fun k => by
  by_cases h : k < n
  · rw [toL_c h]; exact dn_0 (by decide)
  · rw [toL_ge (by omega)]; exact dn_0 (by decide)
theorem tr_app {l : List G} {x : G} (h : x ≠ 0) : Tr (l ++ [x]) := fun e => by
  rw [List.getLast?_append] at e
  exact h (Option.some.inj e)
theorem enc_21 : encT (gi 2 1) = .tuple [.int 2, .int 1, .int 1] := (tri_enc ⟨by decide, by decide, by show ((2 : Int) : Rat) * _ = _; push_cast; grind, by show ((1 : Int) : Rat) * _ = _; push_cast; grind⟩).symm
theorem gi_ne {a b : Int} (h : a ≠ 0) : gi a b ≠ 0 := fun e => h (by
  have : (a : Rat) = (0 : Rat) := congrArg G.re e
  exact cast_inj' (by rw [this]; rfl))
theorem g2_ne1 : gi 2 0 ≠ 1 := fun e => by
  have : ((2 : Int) : Rat) = (1 : Rat) := congrArg G.re e
  have := cast_inj' (a := 2) (b := 1) (by rw [this]; rfl)
  omega
theorem g21_ne1 : gi 2 1 ≠ 1 := fun e => by
  have : ((2 : Int) : Rat) = (1 : Rat) := congrArg G.re e
  have := cast_inj' (a := 2) (b := 1) (by rw [this]; rfl)
  omega
section
variable {a b br top un : List G}
/-- a pair and one row in both -/
theorem PairK.two_both (p : PairK a b) (d : DA br) (tb : Tr br) (b0 : br ≠ []) (lb : br.length ≤ 3) (t1 : Tr top) (t2 : Tr un) (e1 : sr top = sr a * sr br) (e2 : sr un = sr b * sr br) : Two 15 7 14 8 top un := by
  refine ⟨t1, t2, ne_of_mul p.tu tb p.b0 b0 e2, len_mul (a := 2) (b := 2) t1 e1 p.l1 lb, len_mul (a := 2) (b := 2) t2 e2 p.l2 lb, ?_, ?_⟩
  · rw [e1]
    rcases p.Ht with ⟨l, H⟩ | H
    · exact (H.mulS (hv_dn d) ((dl_sr a).mono l)).hs (by decide) (by decide)
    · exact (H.mulS (hv_dn d) ((dl_sr a).mono p.l1)).hs (by decide) (by decide)
  · rw [e2]
    exact (p.Hu.mulS (hv_dn d) ((dl_sr b).mono p.l2)).hs (by decide) (by decide)
/-- a loose pair is no quotient -/
theorem PairK.loose (p : PairK a b) {r : List G} (d : DA (r ++ [gi 2 1])) (lr : r.length ≤ 2) (t1 : Tr top) (t2 : Tr un) (e1 : sr top = sr a * sr (r ++ [gi 2 1])) (e2 : sr un = sr b * sr (r ++ [gi 2 1])) : IQ (encQ (top, un)) false ∧ decide ((top, un) = (a, b)) = false := by
  have tb : Tr (r ++ [gi 2 1]) := tr_app (gi_ne (by decide))
  have b0 : r ++ [gi 2 1] ≠ [] := by simp
  have lb : (r ++ [gi 2 1]).length ≤ 3 := by rw [List.length_append, List.length_cons, List.length_nil]; omega
  have two := p.two_both d tb b0 lb t1 t2 e1 e2
  have u0 : (sr un).c 0 = (sr (r ++ [gi 2 1])).c 0 := by
    rw [e2, mul0_c, p.one]; grind
  have dg := tb.dg b0
  by_cases h1 : (sr un).c 0 = 1
  · have r0 : r ≠ [] := fun z => by
      rw [u0, z] at h1
      exact g21_ne1 h1
    have rp := List.length_pos_iff.mpr r0
    obtain ⟨n, hn⟩ : ∃ n, (r ++ [gi 2 1]).length - 1 = n + 1 := ⟨r.length - 1, by rw [List.length_append, List.length_cons, List.length_nil]; omega⟩
    rw [hn] at dg
    refine ⟨.nco h1 (two.dv ck4 rfl) (isP_sr a) (isP_sr b) dg e1 e2, decide_eq_false fun e => ?_⟩
    have eb : un = b := congrArg Prod.snd e
    have db := p.tu.dg p.b0
    have := db.mul dg
    rw [← e2, eb] at this
    have := this.uniq db
    omega
  · refine ⟨.u0 t1 t2 two.m0 h1, decide_eq_false fun e => ?_⟩
    have eb : un = b := congrArg Prod.snd e
    exact h1 (by rw [eb]; exact p.one)
end
theorem two_rows {r w : List G} (d : DA r) (d' : DA w) (t : Tr r) (t' : Tr w) (w0 : w ≠ []) (l : r.length ≤ 3) (l' : w.length ≤ 4) : Two 6 3 6 3 r w := ⟨t, t', w0, by omega, by omega, (hv_dn d).hs (by decide) (by decide), (hv_dn d').hs (by decide) (by decide)⟩
theorem DA.ta {l : List G} (d : DA l) : TA 400 l := (show Hs 6 3 (sr l).c from (hv_dn d).hs (by decide) (by decide)).ta (by decide) (by decide)
/-- by two -/
theorem hs_two {h d : Nat} {l m : List G} (H : Hs h d (sr l).c) (e : sr m = sr l * sr [gi 2 0]) : Hs (1 + h) (0 + d) (sr m).c := by
  have h2 : Hn 1 0 (gi 2 0) := ⟨1, by intro z; grind, gb_one, by rw [show (1 : G) * gi 2 0 = gi 2 0 by grind]; exact gb_gi (by decide)⟩
  have := Hs.scale h2 H
  have e2 : (sr m).c = fun k => gi 2 0 * (sr l).c k := by
    funext k
    rw [e, sr_one, show sr l * con (gi 2 0) = con (gi 2 0) * sr l by grind, con_mul]
  rw [e2]; exact this
theorem ta_2 : TA 400 [gi 2 0] := (da_one (dn_int (by decide) (by decide))).ta
/-! ### values -/
theorem ev_hn {x : G} (hx : Hn 3 2 x) : ∀ l : List G, (∀ y ∈ l, Hn 9 6 y) → Hn (12 * l.length) (8 * l.length) (ev l x)
  | [], _ => hn_zero _ _
  | y :: l, h => by
    have ih := ev_hn hx l fun z hz => h z (by simp [hz])
    have := (ih.mul hx).add (h y (by simp))
    rw [List.length_cons]
    refine this.mono ?_ (by omega)
    have : max (12 * l.length + 3 + 6) (9 + (8 * l.length + 2)) ≤ 12 * l.length + 11 := Nat.max_le.mpr ⟨by omega, by omega⟩
    omega
theorem mem_hn {l : List G} {h d : Nat} (H : Hs h d (sr l).c) {y : G} (hy : y ∈ l) : Hn h d y := by
  obtain ⟨k, hk⟩ := List.getElem?_of_mem hy
  have := H.at k
  rw [sr_get hk] at this; exact this
theorem ev_sz {x : G} (hx : Hn 3 2 x) {l : List G} (H : Hs 9 6 (sr l).c) (hl : l.length ≤ 3) (t : Nat) : Hn 36 24 (ev (l.drop t) x) ∧ Hn 39 26 (ev (l.drop t) x * x) := by
  have h1 := ev_hn hx (l.drop t) fun y hy => mem_hn H (List.mem_of_mem_drop hy)
  have : (l.drop t).length ≤ 3 := by rw [List.length_drop]; omega
  have h2 := h1.mono (h' := 36) (d' := 24) (by omega) (by omega)
  exact ⟨h2, h2.mul hx⟩
theorem evT {x : G} (hx : Hn 3 2 x) {l : List G} (H : Hs 9 6 (sr l).c) (hl : l.length ≤ 3) : EvT l x := ⟨H.ta (by decide) (by decide), hx.tb (by decide) (by decide), fun t => (ev_sz hx H hl t).1.tb (by decide) (by decide), fun t => (ev_sz hx H hl t).2.tb (by decide) (by decide)⟩
theorem evO {x : G} (hx : Hn 3 2 x) {l : List G} (H : Hs 9 6 (sr l).c) (hl : l.length ≤ 3) : EvOk l x := ⟨H.ba (by decide) (by decide), hx.bd (by decide) (by decide), fun t => (ev_sz hx H hl t).1.bd (by decide) (by decide), fun t => (ev_sz hx H hl t).2.bd (by decide) (by decide)⟩
theorem ev_0 {x : G} (hx : Hn 3 2 x) {l : List G} (H : Hs 9 6 (sr l).c) (hl : l.length ≤ 3) : Hn 36 24 (ev l x) := (ev_sz hx H hl 0).1
theorem ev_div {x : G} (hx : Hn 3 2 x) {l m : List G} (H : Hs 9 6 (sr l).c) (hl : l.length ≤ 3) (H' : Hs 9 6 (sr m).c) (hl' : m.length ≤ 3) (h0 : ev m x ≠ 0) : Hn 60 60 (ev l x / ev m x) := (ev_0 hx H hl).div (ev_0 hx H' hl') h0
end K12
namespace K12
open PySem PySem.Spec PyProof.Rows L2 DL
open Ser
theorem PairK.neg {a b r : List G} (p : PairK a b) (tr : Tr r) (er : sr r = -sr a) : PairK r b := by
  have hl : r.length ≤ a.length := tr.len_le (by
    rw [er]
    intro k hk
    rw [neg_c, dl_sr a k hk]; grind)
  have l1 := p.l1
  refine ⟨tr, p.tu, p.one, ?_, by omega, p.l2, p.Hu, ?_⟩
  · obtain ⟨s, t, hs, ht, e⟩ := p.cop
    refine ⟨0 - s, t, isP_sub isP_zero hs, ht, ?_⟩
    rw [er, ← e]; grind
  · rcases p.Ht with ⟨l, H⟩ | H
    · exact .inl ⟨by omega, H.neg er⟩
    · exact .inr (H.neg er)
theorem two_enc : PyData.list [.tuple [.int 2, .int 0, .int 1]] = encL [gi 2 0] := by
  unfold encL
  rw [List.map_cons, List.map_nil, enc_int]
/-- the things that are asked about, and what is due -/
def thg (a b z1 z2 top un : List G) : List (PyData × Bool) := [(encQ (a, b), true), (.list [encR a, encR b], false), (.tuple [encR z1, encR z2], false), (.tuple [.tuple [], .tuple [.tuple [.tuple [.int 1, .int 1], .tuple [.int 0, .int 1]]]], true), (.tuple [encR a], false), (.tuple [.tuple [], .tuple []], false), (.none, false), (.tuple [encR b, .tuple []], false), (.tuple [encR a, encR b, .tuple []], false), (.tuple [encR top, encR un], false)]
theorem thg_eq (a b z1 z2 top un : List G) : [encQ (a, b), PyData.list [encR a, encR b], PyData.tuple [encR z1, encR z2], .tuple [.tuple [], .tuple [.tuple [.tuple [.int 1, .int 1], .tuple [.int 0, .int 1]]]], .tuple [encR a], .tuple [.tuple [], .tuple []], .none, .tuple [encR b, .tuple []], .tuple [encR a, encR b, .tuple []], .tuple [encR top, encR un]] = (thg a b z1 z2 top un).map (fun x => x.1) := rfl
theorem lit_one : PyData.tuple [.tuple [], .tuple [.tuple [.tuple [.int 1, .int 1], .tuple [.int 0, .int 1]]]] = encQ ([], [1]) := by
  rw [← encN_1]; rfl
theorem iq_one : IQ (encQ ([], [1])) true := by
  have t1 : Tr [(1 : G)] := tr_app (l := []) (by intro z; grind)
  refine .cop rfl ((two_rows (r := []) (w := [1]) (fun k => dn_0 (by decide)) (da_one dn_1) tr_nil t1 (by simp) (by decide) (by decide)).dv ck5 rfl) ⟨0, 1, isP_zero, isP_one, ?_⟩
  rw [sr_one]
  show 0 * sr [] + 1 * 1 = 1
  grind
theorem thg_iq {a b z1 z2 top un : List G} (p : PairK a b) (t1 : Tr z1) (t2 : Tr z2) (z0 : z2 ≠ []) (z1' : (sr z2).c 0 ≠ 1) (lo : IQ (encQ (top, un)) false) : ∀ x ∈ thg a b z1 z2 top un, IQ x.1 x.2 := by
  intro x hx
  simp only [thg, List.mem_cons, List.not_mem_nil, or_false] at hx
  rcases hx with rfl | rfl | rfl | rfl | rfl | rfl | rfl | rfl | rfl | rfl
  · exact p.iq
  · exact .nt rfl
  · exact .u0 t1 t2 z0 z1'
  · rw [lit_one]; exact iq_one
  · exact .ln (by simp)
  · exact .em tr_nil
  · exact .nt rfl
  · exact .em p.tu
  · exact .ln (by simp)
  · exact lo
def sp_law_right : FS := fun rs P => rs = [.pl] ∧ P (.dat (.bool true))
local macro_rules | `(tactic| walk_at "st") => `(tactic| dsimp -failIfUnchanged only [List.length_cons, List.length_nil, Nat.reduceAdd, Nat.reduceSub, rep0, repS, List.cons_append, List.nil_append, List.set_cons_zero, List.set_cons_succ, gSlot, fNext])
local macro_rules | `(tactic| walk_at "lt2") => `(tactic| first | with_reducible assumption | (with_reducible apply Lt2.mul; walk_at "lt2"; walk_at "lt2") | (with_reducible apply Lt2.neg; walk_at "lt2"))
local macro_rules | `(tactic| walk_at "cm") => `(tactic| (with_reducible apply cm; walk_at "lt2"; walk_at "lt2"; omega))
section
variable {P : Program} {w : World} {K : PySem.W.Frag} {mg : Str → Option Value} {base : Heap} (T : Txt K mg)
include T
theorem g__law_right : GoodG P w K mg base 12 "_law_right" ["_law_pail_here"] sp_law_right := by
  obtain ⟨C, hC⟩ := T.nos
  refine good_mkG (T.defs ("_law_right", 90) (by decide)) sc__law_right (fun _ _ _ _ _ _ us hl => match us, hl with | [_], _ => rfl) ?_ (fun cdv A outer s H E B f hK hG hr => ⟨_, (s_cons (s_asg (c_call (g__law_drawn_pair T) hK (hr.mono (by decide)) (da_cons (d_var 0) da_nil)) (g_tup (n := 2) hK rfl (gs_cons (g_name 10 sc__law_right.nd) (gs_cons (g_name 11 sc__law_right.nd) gs_nil ae_name) ae_name) (ae_len _) (ae_find _ rfl)) so_call ss_call ae_one)
    (s_cons (s_asg (c_call (g__law_drawn_pair T) hK (hr.mono (by decide)) (da_cons (d_var 0) da_nil)) (g_tup (n := 2) hK rfl (gs_cons (g_name 12 sc__law_right.nd) (gs_cons (g_name 13 sc__law_right.nd) gs_nil ae_name) ae_name) (ae_len _) (ae_find _ rfl)) so_call ss_call ae_one)
    (s_cons (s_set 1 sc__law_right.nd (c_call (g__law_dip T) hK (hr.mono (by decide)) (da_cons (d_var 0) (da_cons d_int da_nil))))
    (s_cons (s_if (d_cmpT op_eq opd_eqI (d_var 1) d_int (nomark _))
    (s_one (s_set 12 sc__law_right.nd (d_var 10)))
    s_nil)
    (s_cons (s_if (d_cmpT op_eq opd_eqI (d_var 1) d_int (nomark _))
    (s_one (s_set 12 sc__law_right.nd (d_tup (da_cons (c_call (g__law_row_times T) hK (hr.mono (by decide)) (da_cons (d_frz (d_lst (da_cons (d_tup (da_cons (d_bin op_sub opd_I0 d_int d_int) (da_cons d_int (da_cons d_int da_nil)))) da_nil))) (da_cons (d_ix hK (d_var 10) d_int) da_nil))) (da_cons (d_ix hK (d_var 10) d_int) da_nil)))))
    s_nil)
    (s_cons (s_set 2 sc__law_right.nd (c_call (g__law_told_quotient T) hK (hr.mono (by decide)) (da_cons (d_var 10) da_nil)))
    (s_cons (s_if (PW.pt (d_or (d_not (d_valT (c_callG (g__law_sums T) hK hG (hr.mono (by decide)) (da_cons (d_var 10) (da_cons (d_var 12) da_nil))))) (d_or1 (d_not (d_valT (c_callG (g__law_sums T) hK hG (hr.mono (by decide)) (da_cons (d_var 12) (da_cons (d_var 10) da_nil))))))))
    (s_one (s_ret d_bl))
    s_nil)
    (s_cons (s_set 3 sc__law_right.nd (d_frz (d_bin op_catR opd_cat (c_call (g__law_row T) hK (hr.mono (by decide)) (da_cons (d_var 0) (da_cons d_int da_nil))) (d_frz (d_lst (da_cons (d_tup (da_cons d_int (da_cons d_int (da_cons d_int da_nil)))) da_nil))))))
    (s_cons (s_par 14 15 sc__law_right.nd (da_cons (c_call (g__law_row_times T) hK (hr.mono (by decide)) (da_cons (d_ix hK (d_var 10) d_int) (da_cons (d_var 3) da_nil))) (da_cons (c_call (g__law_row_times T) hK (hr.mono (by decide)) (da_cons (d_ix hK (d_var 10) d_int) (da_cons (d_var 3) da_nil))) da_nil)))
    (s_cons (s_if (d_cmpT op_ne opd_neS (d_callB (call_reprD hG (hu64 hr)) (cd_repr hK) (by rfl) T.repr_ (by decide +kernel) (da_cons (c_call (g__law_made T) hK (hr.mono (by decide)) (da_cons (c_call (g__law_told_row T) hK (hr.mono (by decide)) (da_cons (d_var 14) da_nil)) (da_cons (c_call (g__law_told_row T) hK (hr.mono (by decide)) (da_cons (d_var 15) da_nil)) da_nil))) da_nil)) (d_callB (call_reprD hG (hu64 hr)) (cd_repr hK) (by rfl) T.repr_ (by decide +kernel) (da_cons (d_var 2) da_nil)) (nomark _))
    (s_one (s_ret d_bl))
    s_nil)
    (s_cons (s_if (d_cmpT op_ne opd_neS (d_callB (call_reprD hG (hu64 hr)) (cd_repr hK) (by rfl) T.repr_ (by decide +kernel) (da_cons (c_callK2 (goodX_good (g_quotient_of T hC)) (T.defs ("quotient_of", 55) (by decide)) kb_quotient_of hK (hr.mono (by decide)) (dk_cons (d_ix hK (d_var 2) d_int) (dk_cons (d_ix hK (d_var 2) d_int) dk_nil))) da_nil)) (d_callB (call_reprD hG (hu64 hr)) (cd_repr hK) (by rfl) T.repr_ (by decide +kernel) (da_cons (d_var 2) da_nil)) (nomark _))
    (s_one (s_ret d_bl))
    s_nil)
    (s_cons (s_par 16 17 sc__law_right.nd (da_cons (c_call (g__law_row T) hK (hr.mono (by decide)) (da_cons (d_var 0) (da_cons d_int da_nil))) (da_cons (d_frz (d_bin op_catR opd_cat (d_frz (d_bin op_catR opd_cat (d_frz (d_bin op_rep opd_rep (d_lst (da_cons (d_tup (da_cons d_int (da_cons d_int (da_cons d_int da_nil)))) da_nil)) (c_call (g__law_dip T) hK (hr.mono (by decide)) (da_cons (d_var 0) (da_cons d_int da_nil))))) (c_call (g__law_row T) hK (hr.mono (by decide)) (da_cons (d_var 0) (da_cons d_int da_nil))))) (d_frz (d_lst (da_cons (d_tup (da_cons d_int (da_cons d_int (da_cons d_int da_nil)))) da_nil))))) da_nil)))
    (s_cons (s_if (d_cmpT op_ne opd_neS (d_callB (call_reprD hG (hu64 hr)) (cd_repr hK) (by rfl) T.repr_ (by decide +kernel) (da_cons (c_call (g__law_made T) hK (hr.mono (by decide)) (da_cons (c_call (g__law_told_row T) hK (hr.mono (by decide)) (da_cons (d_var 16) da_nil)) (da_cons (c_call (g__law_told_row T) hK (hr.mono (by decide)) (da_cons (d_var 17) da_nil)) da_nil))) da_nil)) (d_callB (call_reprD hG (hu64 hr)) (cd_repr hK) (by rfl) T.repr_ (by decide +kernel) (da_cons (c_call (g__law_due T) hK (hr.mono (by decide)) (da_cons (d_var 16) (da_cons (d_var 17) da_nil))) da_nil)) (nomark _))
    (s_one (s_ret d_bl))
    s_nil)
    (s_cons (s_set 4 sc__law_right.nd (d_tup (da_cons (c_call (g__law_told_row T) hK (hr.mono (by decide)) (da_cons (c_call (g__law_row_times T) hK (hr.mono (by decide)) (da_cons (d_var 14) (da_cons (d_frz (d_lst (da_cons (d_tup (da_cons d_int (da_cons d_int (da_cons d_int da_nil)))) da_nil))) da_nil))) da_nil)) (da_cons (c_call (g__law_told_row T) hK (hr.mono (by decide)) (da_cons (c_call (g__law_row_times T) hK (hr.mono (by decide)) (da_cons (d_ix hK (d_var 10) d_int) (da_cons (d_frz (d_lst (da_cons (d_tup (da_cons d_int (da_cons d_int (da_cons d_int da_nil)))) da_nil))) da_nil))) da_nil)) da_nil))))
    (s_cons (s_set 5 sc__law_right.nd (d_tup (da_cons (c_call (g__law_told_row T) hK (hr.mono (by decide)) (da_cons (d_var 14) da_nil)) (da_cons (c_call (g__law_told_row T) hK (hr.mono (by decide)) (da_cons (d_var 15) da_nil)) da_nil))))
    (s_cons (s_set 6 sc__law_right.nd (d_frz (d_lst (da_cons (d_var 2) (da_cons (d_frz (d_callTy call_list_of (cd_list hK) (by rfl) T.list_ (by decide +kernel) (da_cons (d_var 2) da_nil))) (da_cons (d_var 4) (da_cons (d_tup (da_cons (d_tup da_nil) (da_cons (d_tup (da_cons (d_tup (da_cons (d_tup (da_cons d_int (da_cons d_int da_nil))) (da_cons (d_tup (da_cons d_int (da_cons d_int da_nil))) da_nil))) da_nil)) da_nil))) (da_cons (d_tup (da_cons (d_ix hK (d_var 2) d_int) da_nil)) (da_cons (d_tup (da_cons (d_tup da_nil) (da_cons (d_tup da_nil) da_nil))) (da_cons d_non (da_cons (d_tup (da_cons (d_ix hK (d_var 2) d_int) (da_cons (d_tup da_nil) da_nil))) (da_cons (d_bin op_catT (opd_catT hK) (d_var 2) (d_tup (da_cons (d_tup da_nil) da_nil))) (da_cons (d_var 5) da_nil)))))))))))))
    (s_cons (s_set 7 sc__law_right.nd (d_frz (d_lst (da_cons d_bl (da_cons d_bl (da_cons d_bl (da_cons d_bl (da_cons d_bl (da_cons d_bl (da_cons d_bl (da_cons d_bl (da_cons d_bl (da_cons (d_cmp (op_eqD (hu64 hr)) (opd_eqD hK) (d_var 5) (d_var 2) (nomark _)) da_nil)))))))))))))
    (s_cons (s_if (d_cmpT op_ne opd_neS (d_callB (call_reprD hG (hu64 hr)) (cd_repr hK) (by rfl) T.repr_ (by decide +kernel) (da_cons (d_frz (d_lc 20 sc__law_right.nd (i_list hK (d_var 6)) (blkOk_by (by rfl)) (fun _ _ _ _ _ => pg_name (i := 20) sc__law_right.nd rfl (Or.inl rfl)) (fun _ _ _ _ _ => (c_call (g_is_quotient T) hK (hr.mono (by decide)) (da_cons (d_var 20) da_nil))))) da_nil)) (d_callB (call_reprD hG (hu64 hr)) (cd_repr hK) (by rfl) T.repr_ (by decide +kernel) (da_cons (d_var 7) da_nil)) (nomark _))
    (s_one (s_ret d_bl))
    s_nil)
    (s_cons (s_set 8 sc__law_right.nd (d_bin op_sub opd_I0 (d_callB (call_max2 rfl) cd_max (by rfl) T.max_ (by decide +kernel) (da_cons (d_callB call_len_seq (cd_len hK) (by rfl) T.len_ (by decide +kernel) (da_cons (d_ix hK (d_var 10) d_int) da_nil)) (da_cons (d_callB call_len_seq (cd_len hK) (by rfl) T.len_ (by decide +kernel) (da_cons (d_ix hK (d_var 10) d_int) da_nil)) da_nil))) d_int))
    (s_cons (s_if (d_cmpT op_ne opd_neS (d_callB (call_reprD hG (hu64 hr)) (cd_repr hK) (by rfl) T.repr_ (by decide +kernel) (da_cons (d_frz (d_lst (da_cons (c_call (g_quotient_degree T) hK (hr.mono (by decide)) (da_cons (d_var 2) da_nil)) (da_cons (c_callK1 (g_quotient_degree T) (T.defs ("quotient_degree", 56) (by decide)) kb_quotient_degree hK (hr.mono (by decide)) (dk_cons (d_var 2) dk_nil)) da_nil)))) da_nil)) (d_callB (call_reprD hG (hu64 hr)) (cd_repr hK) (by rfl) T.repr_ (by decide +kernel) (da_cons (d_frz (d_lst (da_cons (d_var 8) (da_cons (d_var 8) da_nil)))) da_nil)) (nomark _))
    (s_one (s_ret d_bl))
    s_nil)
    (s_cons (s_set 9 sc__law_right.nd (c_call (g__law_one_of T) hK (hr.mono (by decide)) (da_cons (d_var 0) (da_cons (d_frz (d_bin op_catR opd_cat (d_var 11) (d_frz (d_lst (da_cons (c_call (g__law_drawn T) hK (hr.mono (by decide)) (da_cons (d_var 0) (da_cons d_int (da_cons d_int da_nil)))) da_nil))))) da_nil))))
    (s_cons (s_par 18 19 sc__law_right.nd (da_cons (c_call (g__law_row_value T) hK (hr.mono (by decide)) (da_cons (d_ix hK (d_var 10) d_int) (da_cons (d_var 9) da_nil))) (da_cons d_non da_nil)))
    (s_cons (s_if (d_cmpT (op_neD (hu64 hr)) (opd_neD hK) (d_cut2 hK (d_var 18)) (d_tup (da_cons d_int (da_cons d_int da_nil))) (nomark _))
    (s_one (s_set 19 sc__law_right.nd (c_call (g__law_told T) hK (hr.mono (by decide)) (da_cons (c_call (g__law_over T) hK (hr.mono (by decide)) (da_cons (c_call (g__law_row_value T) hK (hr.mono (by decide)) (da_cons (d_ix hK (d_var 10) d_int) (da_cons (d_var 9) da_nil))) (da_cons (d_var 18) da_nil))) da_nil))))
    s_nil)
    (s_one (s_ret (d_cmp op_eq opd_eqS (d_callB (call_reprD hG (hu64 hr)) (cd_repr hK) (by rfl) T.repr_ (by decide +kernel) (da_cons (d_frz (d_lst (da_cons (c_call (g_quotient_value T) hK (hr.mono (by decide)) (da_cons (d_var 2) (da_cons (c_call (g__law_told T) hK (hr.mono (by decide)) (da_cons (d_var 9) da_nil)) da_nil))) (da_cons (c_callK2 (g_quotient_value T) (T.defs ("quotient_value", 61) (by decide)) kb_quotient_value hK (hr.mono (by decide)) (dk_cons (c_call (g__law_told T) hK (hr.mono (by decide)) (da_cons (d_var 9) da_nil)) (dk_cons (d_var 2) dk_nil))) da_nil)))) da_nil)) (d_callB (call_reprD hG (hu64 hr)) (cd_repr hK) (by rfl) T.repr_ (by decide +kernel) (da_cons (d_frz (d_lst (da_cons (d_var 19) (da_cons (d_var 19) da_nil)))) da_nil)) (nomark _))))))))))))))))))))))))))), fun rs P h => ?_⟩)
  · rintro rs P ⟨rfl, _⟩; rfl
  · obtain ⟨rfl, hP⟩ := h
    walk_at "st"
    refine ⟨rfl, fun a b xs p hrx lx => ?_⟩
    refine ⟨rfl, ?_⟩
    walk_at "st"
    refine ⟨rfl, fun c0 d0 ys q0 hry ly => ?_⟩
    refine ⟨rfl, ?_⟩
    walk_at "st"
    have la := p.l1
    have lb' := p.l2
    have ta : TA 400 a := p.ha.ta (by decide) (by decide)
    have tb : TA 400 b := p.hb.ta (by decide) (by decide)
    refine ⟨6, rfl, by decide, by decide, fun way hway => ?_⟩
    walk_at "st"
    have e21 : ∀ r : List G, r.map encT ++ [.tuple [.int 2, .int 1, .int 1]] = (r ++ [gi 2 1]).map encT := fun r => by
      rw [List.map_append, ← enc_21]; rfl
    refine seq_join (fun ρ => ∃ c d : List G, PairK c d ∧ ρ = [.pl, .dat (.int (way : Int)), .un, .un, .un, .un, .un, .un, .un, .un, .dat (encP (a, b)), .dat (encL xs), .dat (encP (c, d)), .dat (encL ys), .un, .un, .un, .un, .un, .un, .un]) ?_ fun N hN => ?_
    · rintro ρ ⟨c, d, q, rfl⟩
      refine seq_join (fun ρ => ∃ c d : List G, PairK c d ∧ ρ = [.pl, .dat (.int (way : Int)), .un, .un, .un, .un, .un, .un, .un, .un, .dat (encP (a, b)), .dat (encL xs), .dat (encP (c, d)), .dat (encL ys), .un, .un, .un, .un, .un, .un, .un]) ?_ fun N hN => ?_
      · clear c d q
        rintro ρ ⟨c, d, q, rfl⟩

        walk_at "st"
        refine ⟨a, b, rfl, by omega, by omega, ta.td (by decide), tb.td (by decide), fun r s hr' hs e1 e2 => ?_⟩
        rw [tr_ext hr' p.tt e1, tr_ext hs p.tu e2]
        clear r s hr' hs e1 e2
        walk_at "st"
        refine ⟨a, b, c, d, rfl, p, q, fun z => (nomatch z), fun _ => ?_⟩
        refine ⟨c, d, a, b, rfl, q, p, fun z => (nomatch z), fun _ => ?_⟩
        walk_at "st"
        refine ⟨2, rfl, by decide, fun r1 tr1 lr1 dr1 => ?_⟩
        refine ⟨lb rfl, lb rfl, ?_, ?_⟩
        · rw [List.length_map]
          show r1.length + 1 ≤ 1000
          omega
        walk_at "st"
        rw [e21]
        have dbr : DA (r1 ++ [gi 2 1]) := DA.app dr1 (da_one (dn_int (by decide) (by decide)))
        have tbr : Tr (r1 ++ [gi 2 1]) := tr_app (gi_ne (by decide))
        have br0 : r1 ++ [gi 2 1] ≠ [] := by simp
        have lbr : (r1 ++ [gi 2 1]).length ≤ 3 := by rw [List.length_append, List.length_cons, List.length_nil]; omega
        refine ⟨a, r1 ++ [gi 2 1], rfl, by omega, by omega, ta, dbr.ta, fun top tt et => ?_⟩
        refine ⟨b, r1 ++ [gi 2 1], rfl, by omega, by omega, tb, dbr.ta, fun un tu eu => ?_⟩
        have two := p.two_both dbr tbr br0 lbr tt tu et eu
        have red1 : Red (sr top) (sr un) a b := p.red et eu
        have l1 := two.l1
        have l2 := two.l2
        have ttop : TA 400 top := two.H.ta (by decide) (by decide)
        have tun : TA 400 un := two.H'.ta (by decide) (by decide)
        walk_at "st"
        refine ⟨top, rfl, by omega, ttop.td (by decide), fun r hr' e => ?_⟩
        rw [tr_ext hr' tt e]
        clear r hr' e
        refine ⟨un, rfl, by omega, tun.td (by decide), fun r hr' e => ?_⟩
        rw [tr_ext hr' tu e]
        clear r hr' e
        refine ⟨top, un, rfl, tt, tu, two.m0, two.qr ck4 rfl, fun hn => (red1.no (isP_sr _) (isP_sr _) (tu.ne two.m0) hn).elim, fun t u r b1 b2 => ?_⟩
        obtain ⟨rfl, rfl⟩ := red1.uniq (isP_sr _) (isP_sr _) (tu.ne two.m0) r
        have sq := (sw_Q b1 b2 (by omega) (by omega)).ok rfl (by decide) (by decide)
        refine repr_go sq ?_
        refine repr_go sq ?_
        refine str_go ?_
        refine ⟨fun z => (nomatch z), fun _ => ?_⟩
        walk_at "st"
        refine ⟨a, b, rfl, p.tt, p.tu, p.b0, p.two.qr ck6 rfl, fun hn => ?_, fun t u r _ _ => ?_⟩
        · exact (p.red (γ := 1) (by grind) (by grind)).no (isP_sr _) (isP_sr _) (p.tu.ne p.b0) hn
        obtain ⟨rfl, rfl⟩ := (p.red (γ := 1) (by grind) (by grind)).uniq (isP_sr _) (isP_sr _) (p.tu.ne p.b0) r
        refine repr_go sq ?_
        refine repr_go sq ?_
        refine str_go ?_
        refine ⟨fun z => (nomatch z), fun _ => ?_⟩
        walk_at "st"
        refine ⟨3, rfl, by decide, fun r3 tr3 lr3 dr3 => ?_⟩
        refine ⟨lb rfl, lb rfl, ?_⟩
        refine ⟨2, rfl, by decide, by decide, fun k hk => ?_⟩
        refine ⟨by omega, by omega, lb rfl, ?_⟩
        have e0 : (List.replicate ((k : Int).toNat) [PyData.tuple [.int 0, .int 0, .int 1]]).flatten = (toL k fun _ => 0).map encT := by rw [Int.toNat_natCast, rep_enc]
        rw [e0]
        refine ⟨2, rfl, by decide, fun r2 tr2 lr2 dr2 => ?_⟩
        refine ⟨?_, lb rfl, lb rfl, ?_⟩
        · rw [List.length_map, List.length_map, toL_len]; omega
        rw [← List.map_append]
        refine ⟨?_, ?_⟩
        · rw [List.length_map, List.length_append, toL_len]
          show k + r2.length + 1 ≤ 1000
          omega
        walk_at "st"
        have e1 : ((toL k fun _ => 0) ++ r2).map encT ++ [.tuple [.int 1, .int 0, .int 1]] = ((toL k fun _ => 0) ++ r2 ++ [1]).map encT := by
          simp only [List.map_append, ← enc_1]; rfl
        rw [e1]
        generalize hw : (toL k fun _ => (0 : G)) ++ r2 ++ [1] = wl
        have dw : DA wl := by rw [← hw]; exact ((da_rep k).app dr2).app (da_one dn_1)
        have tw : Tr wl := by rw [← hw]; exact tr_app (by intro z; grind)
        have w0 : wl ≠ [] := by rw [← hw]; simp
        have lw : wl.length ≤ 4 := by rw [← hw, List.length_append, List.length_append, toL_len, List.length_cons, List.length_nil]; omega
        have tw2 := two_rows dr3 dw tr3 tw w0 lr3 lw
        dsimp only [fNil, fParK]
        refine seq_join (fun ρ => ρ = [.pl, .dat (.int (way : Int)), .dat (encQ (a, b)), .dat (encL (r1 ++ [gi 2 1])), .un, .un, .un, .un, .un, .un, .dat (encP (a, b)), .dat (encL xs), .dat (encP (c, d)), .dat (encL ys), .dat (encL top), .dat (encL un), .dat (encL r3), .dat (encL wl), .un, .un, .un]) ?_ fun N hN => ?_
        · rintro ρ rfl
          clear sq
          walk_at "st"
          refine ⟨lb rfl, lb rfl, top, [gi 2 0], ?_, by omega, lb rfl, ttop, ta_2, fun z1 tz1 ez1 => ?_⟩
          · rw [← two_enc]; rfl
          have Hz1 := hs_two two.H ez1
          have lz1 := len_mul (a := 4) (b := 0) tz1 ez1 l1 (Nat.le_refl _)
          refine ⟨z1, rfl, by omega, (Hz1.ta (n := 400) (by decide) (by decide)).td (by decide), fun r hr' e => ?_⟩
          rw [tr_ext hr' tz1 e]
          clear r hr' e
          refine ⟨lb rfl, lb rfl, b, [gi 2 0], ?_, by omega, lb rfl, tb, ta_2, fun z2 tz2 ez2 => ?_⟩
          · rw [← two_enc]; rfl
          have Hz2 := hs_two p.hb ez2
          have lz2 := len_mul (a := 2) (b := 0) tz2 ez2 p.l2 (Nat.le_refl _)
          refine ⟨z2, rfl, by omega, (Hz2.ta (n := 400) (by decide) (by decide)).td (by decide), fun r hr' e => ?_⟩
          rw [tr_ext hr' tz2 e]
          clear r hr' e
          have z20 : (sr z2).c 0 ≠ 1 := by
            rw [ez2, mul0_c, p.one]
            show 1 * gi 2 0 ≠ 1
            rw [show 1 * gi 2 0 = gi 2 0 by grind]
            exact g2_ne1
          have z2n : z2 ≠ [] := ne_of_mul p.tu (tr_app (l := []) (gi_ne (by decide))) p.b0 (by simp) ez2
          refine ⟨lb rfl, ?_⟩
          walk_at "st"
          refine ⟨top, rfl, by omega, ttop.td (by decide), fun r hr' e => ?_⟩
          rw [tr_ext hr' tt e]
          clear r hr' e
          refine ⟨un, rfl, by omega, tun.td (by decide), fun r hr' e => ?_⟩
          rw [tr_ext hr' tu e]
          clear r hr' e
          refine ⟨lb rfl, ?_⟩
          walk_at "st"
          obtain ⟨lo1, lo2⟩ := p.loose dbr lr1 tt tu et eu
          refine ⟨lb rfl, lb rfl, lb rfl, lb rfl, lb rfl, lb rfl, lb rfl, lb rfl, lb rfl, lb rfl, lb rfl, lb rfl, lb rfl, lb rfl, (fun z => nomatch z), (fun z => nomatch z), lb rfl, lb rfl, ?_⟩
          walk_at "st"
          refine eq_go ((sh_Q (top, un)).shaped rfl) ((sh_Q (a, b)).shaped rfl) (eqv_Q (top, un) (a, b)) ?_
          rw [lo2]
          refine ⟨lb rfl, ?_⟩
          walk_at "st"
          refine ⟨rfl, ?_⟩
          dsimp only [Sl.frz, fItL, fVar, Sl.lst, List.getElem?_cons_succ, List.getElem?_cons_zero]
          show lcRun 20 fYes _ _ _ _ []
          rw [thg_eq]
          refine lc_map (f := fun x => .bool x.2) (fun x hx PP hp => ⟨_, _, rfl, thg_iq p tz1 tz2 z2n z20 lo1 x hx, hp⟩) (lb rfl) ?_
          have swb : ShowOk (.list ((thg a b z1 z2 top un).map fun x => PyData.bool x.2)) := ((sw_lst (n := 5) (k := 0) fun z hz => by
            obtain ⟨x, _, rfl⟩ := List.mem_map.mp hz
            exact sw_bool _).mono (n' := 100) (lb rfl) (Nat.le_refl _)).ok rfl (by decide) (by decide)
          refine repr_go swb ?_
          refine repr_go swb ?_
          refine str_go ?_
          refine ⟨fun z => (nomatch z), fun _ => ?_⟩
          walk_at "st"
          have ed : gMax ((a.map encT).length : Int) ((b.map encT).length : Int) - 1 = ((max a.length b.length : Nat) : Int) - 1 := by
            have : gMax ((a.map encT).length : Int) ((b.map encT).length : Int) = ((max a.length b.length : Nat) : Int) := by
              unfold gMax
              rw [List.length_map, List.length_map]
              split <;> omega
            rw [this]
          refine ⟨_, _, rfl, p.iq, ?_⟩
          refine ⟨_, _, rfl, p.iq, ?_⟩
          refine ⟨lb rfl, ?_⟩
          have swi : ShowOk (.list [.int (((max a.length b.length : Nat) : Int) - 1), .int (((max a.length b.length : Nat) : Int) - 1)]) := ((sw_lst (n := 1922) (k := 0) fun z hz => by
            simp only [List.mem_cons, List.not_mem_nil, or_false, or_self] at hz
            rw [hz]
            exact sw_int (Nat.lt_of_lt_of_le (log2_lt (n := 4) (by have := Nat.max_le.mpr ⟨la, lb'⟩; omega) (by decide)) (by decide))).mono (n' := 5000) (lb rfl) (Nat.le_refl _)).ok rfl (by decide) (by decide)
          refine repr_go swi ?_
          refine ⟨lb rfl, ?_⟩
          rw [ed]
          refine repr_go swi ?_
          refine str_go ?_
          refine ⟨fun z => (nomatch z), fun _ => ?_⟩
          walk_at "st"
          refine ⟨3, 2, rfl, by decide, by decide, by decide, fun x0 hx0 => ?_⟩
          refine ⟨lb rfl, ?_, ?_⟩
          · rw [List.length_map]
            show xs.length + 1 ≤ 1000
            omega
          have exs : xs.map encT ++ [encT x0] = (xs ++ [x0]).map encT := by rw [List.map_append]; rfl
          rw [exs]
          refine ⟨xs ++ [x0], rfl, by simp, by rw [List.length_append, List.length_cons, List.length_nil]; omega, fun x hx => ?_⟩
          have dx : Dn 3 2 x := by
            rcases List.mem_append.mp hx with hx | hx
            · exact (hrx x hx).2
            · have : x = x0 := by simpa using hx
              rw [this]; exact hx0
          have hX := dx.hn (by decide) (by decide)
          have tX : Lt2 8999 (tD x) := (hX.tb (n := 6) (by decide) (by decide)).2.2.mono (by decide)
          have Ha : Hs 9 6 (sr a).c := p.ha.mono (by decide) (by decide)
          have Hb : Hs 9 6 (sr b).c := p.hb.mono (by decide) (by decide)
          walk_at "st"
          refine ⟨b, x, rfl, evT hX Hb lb', ?_⟩
          walk_at "st"
          refine ⟨lb rfl, ?_⟩
          refine ne_go ((sh_2 _ _).shaped rfl) rfl (eqv_2 _) ?_
          by_cases h0 : ev b x = 0
          · rw [decide_eq_true h0]
            refine ⟨fun z => (nomatch z), fun _ => ?_⟩
            walk_at "st"
            have sn : ShowOk (.list [.none, .none]) := ((sw_lst (n := 4) (k := 0) fun z hz => by
              simp only [List.mem_cons, List.not_mem_nil, or_false, or_self] at hz
              rw [hz]; exact sw_none).mono (n' := 100) (lb rfl) (Nat.le_refl _)).ok rfl (by decide) (by decide)
            refine ⟨x, rfl, tX, a, b, x, rfl, p.iq, evO hX Ha la, evO hX Hb lb', fun _ => ?_, fun z => absurd h0 z⟩
            refine ⟨x, rfl, tX, a, b, x, rfl, p.iq, evO hX Ha la, evO hX Hb lb', fun _ => ?_, fun z => absurd h0 z⟩
            refine ⟨lb rfl, ?_⟩
            refine repr_go sn ?_
            refine ⟨lb rfl, ?_⟩
            refine repr_go sn ?_
            exact str_go hP
          · rw [decide_eq_false h0]
            refine ⟨fun _ => ?_, fun z => (nomatch z)⟩
            have hv := ev_div hX Ha la Hb lb' h0
            have b1 : Bd 1900 (ev a x / ev b x) := hv.bd (by decide) (by decide)
            walk_at "st"
            refine ⟨a, x, rfl, evT hX Ha la, ?_⟩
            refine ⟨ev a x, ev b x, rfl, (ev_0 hX Ha la).tb (by decide) (by decide), (ev_0 hX Hb lb').tb (by decide) (by decide), h0, ?_⟩
            refine ⟨_, rfl, (hv.tb (n := 200) (by decide) (by decide)).2.2.mono (by decide), ?_⟩
            walk_at "st"
            have sn : ShowOk (.list [encN (ev a x / ev b x), encN (ev a x / ev b x)]) := ((sw_lst (n := 7709) (k := 2) fun z hz => by
              simp only [List.mem_cons, List.not_mem_nil, or_false, or_self] at hz
              rw [hz]; exact sw_N b1).mono (n' := 20000) (lb rfl) (Nat.le_refl _)).ok rfl (by decide) (by decide)
            refine ⟨x, rfl, tX, a, b, x, rfl, p.iq, evO hX Ha la, evO hX Hb lb', fun z => absurd z h0, fun _ => ⟨b1.mono (by decide), ?_⟩⟩
            refine ⟨x, rfl, tX, a, b, x, rfl, p.iq, evO hX Ha la, evO hX Hb lb', fun z => absurd z h0, fun _ => ⟨b1.mono (by decide), ?_⟩⟩
            refine ⟨lb rfl, ?_⟩
            refine repr_go sn ?_
            refine ⟨lb rfl, ?_⟩
            refine repr_go sn ?_
            exact str_go hP
        · refine ⟨r3, rfl, by omega, (show DA r3 from dr3).ta.td (by decide), fun r hr' e => ?_⟩
          rw [tr_ext hr' tr3 e]
          clear r hr' e
          refine ⟨wl, rfl, by omega, dw.ta.td (by decide), fun r hr' e => ?_⟩
          rw [tr_ext hr' tw e]
          clear r hr' e
          refine ⟨r3, wl, rfl, tr3, tw, w0, tw2.qr ck5 rfl, fun hn => ?_, fun t u r b1' b2' => ?_⟩
          · refine repr_go (sw_none.ok rfl (by decide) (by decide)) ?_
            refine ⟨r3, wl, rfl, tw2.lr ck5, fun _ => ?_, fun t u r => ?_⟩
            · refine repr_go (sw_none.ok rfl (by decide) (by decide)) ?_
              refine str_go ?_
              exact ⟨fun z => (nomatch z), fun _ => hN _ rfl⟩
            · exact (r.no (isP_sr _) (isP_sr _) (tw.ne w0) hn).elim
          · have kk := red_len tr3 tw w0 r
            have sq2 := (sw_Q b1' b2' (by omega) (by omega)).ok rfl (by decide) (by decide)
            refine repr_go sq2 ?_
            refine ⟨r3, wl, rfl, tw2.lr ck5, fun hn => ?_, fun t' u' r' => ?_⟩
            · exact (r.no (isP_sr _) (isP_sr _) (tw.ne w0) hn).elim
            · obtain ⟨rfl, rfl⟩ := r.uniq (isP_sr _) (isP_sr _) (tw.ne w0) r'
              refine repr_go sq2 ?_
              refine str_go ?_
              exact ⟨fun z => (nomatch z), fun _ => hN _ rfl⟩
      · refine ⟨fun _ => ?_, fun _ => ?_⟩
        · walk_at "st"
          refine ⟨lb rfl, lb rfl, [gi (0 - 1) 0], a, ?_, lb rfl, by omega, m1_ta, ta, fun r tr er => ?_⟩
          · rw [← m1_enc]; rfl
          rw [m1_mul] at er
          refine ⟨lb rfl, ?_⟩
          exact hN _ ⟨r, b, p.neg tr er, rfl⟩
        · exact hN _ ⟨c, d, q, rfl⟩
    · refine ⟨fun _ => ?_, fun _ => ?_⟩
      · exact hN _ ⟨a, b, p, rfl⟩
      · exact hN _ ⟨c0, d0, q0, rfl⟩
end
end K12
namespace K12
open PySem PySem.Spec PyProof.Rows L2 DL
open Ser
def encI (ns : List Int) : PyData := .list (ns.map PyData.int)
theorem cut_any {ns : List Int} (k : Nat) : cutA (ns.map PyData.int) none (some (k : Int)) = (ns.take (min k ns.length)).map PyData.int := by
  unfold cutA
  rw [HT.sIx_nat, HT.sIx_none, Nat.sub_zero, List.drop_zero, List.length_map, List.map_take]
theorem bools_rep : ∀ n : Nat, bools (List.replicate n (PyData.bool true)) = some (List.replicate n true)
  | 0 => rfl
  | n + 1 => by
    rw [List.replicate_succ, List.replicate_succ]
    show (bools (List.replicate n (PyData.bool true))).map (true :: ·) = _
    rw [bools_rep n]; rfl
def sp_law_pail : FS := fun rs P => ∃ (ns : List Int) (t : Nat), rs = [.dat (encI ns), .dat (.int (t : Int))] ∧ t ≤ 3 ∧ ∀ i j l : Int, P (.own [.int i, .int j, .int l])
def sp_law : FS := fun rs P => ∃ ns : List Int, rs = [.dat (encI ns)] ∧ P (.dat (.bool true))
local macro_rules | `(tactic| walk_at "st") => `(tactic| dsimp -failIfUnchanged only [List.length_cons, List.length_nil, Nat.reduceAdd, Nat.reduceSub, rep0, repS, List.cons_append, List.nil_append, List.set_cons_zero, List.set_cons_succ, gSlot, fNext])
local macro_rules | `(tactic| walk_at "lt2") => `(tactic| first | with_reducible assumption | (with_reducible apply Lt2.mul; walk_at "lt2"; walk_at "lt2") | (with_reducible apply Lt2.neg; walk_at "lt2"))
local macro_rules | `(tactic| walk_at "cm") => `(tactic| (with_reducible apply cm; walk_at "lt2"; walk_at "lt2"; omega))
section
variable {P : Program} {w : World} {K : PySem.W.Frag} {mg : Str → Option Value} {base : Heap} (T : Txt K mg)
include T
theorem g__law_pail : Good P w K mg base 1 "_law_pail" ["_law_script", "_law_turn"] sp_law_pail := by
  refine good_mk (T.defs ("_law_pail", 63) (by decide)) sc__law_pail (fun _ _ _ _ _ _ us hl => match us, hl with | [_, _], _ => rfl) ?_ (fun cdv A outer s H E B f hK hr => ⟨_, (s_cons (s_set 2 sc__law_pail.nd (d_if (d_cmpT op_lt opd_B0 (d_var 1) (d_callB call_len_seq (cd_len hK) (by rfl) T.len_ (by decide +kernel) (da_cons (d_var 0) da_nil)) (nomark _)) (d_callTy call_int1 cd_int (by rfl) T.int_ (by decide +kernel) (da_cons (d_ixS hK (d_var 0) (d_var 1)) da_nil)) (d_bin op_add opd_I0 (d_bin op_mulS opd_I d_int (d_var 1)) d_int)))
    (s_cons (s_set 3 sc__law_pail.nd (d_bin op_add opd_I0 d_int (d_bin op_mulS opd_I d_int (d_var 1))))
    (s_cons (s_for (i_list hK (d_frz (d_cutL (d_var 0) d_int))) (g_name 4 sc__law_pail.nd)
    (s_one (s_set 3 sc__law_pail.nd (d_bin op_modN opd_I (d_callTy call_int1 cd_int (by rfl) T.int_ (by decide +kernel) (da_cons (d_bin op_add opd_I0 (d_bin op_add opd_I0 (d_bin op_mulS opd_I (d_var 3) d_int) (d_bin op_mulS opd_I (d_bin op_modN opd_I (d_callTy call_int1 cd_int (by rfl) T.int_ (by decide +kernel) (da_cons (d_var 4) da_nil)) d_int) d_int)) d_int) da_nil)) d_int))))
    (s_cons (s_set 5 sc__law_pail.nd (d_orV (d_cmp op_lt opd_B0 (d_var 2) d_int (nomark _)) (d_oneV (d_cmp op_ge opd_B0 (d_var 2) (d_bin op_pow opd_I d_int d_int) (nomark _)))))
    (s_one (s_ret (d_lst (da_cons (d_if (d_valT (d_var 5)) (d_callB call_abs cd_abs (by rfl) T.abs_ (by decide +kernel) (da_cons (d_var 2) da_nil)) d_int) (da_cons (d_bin op_modN opd_I (d_callTy call_int1 cd_int (by rfl) T.int_ (by decide +kernel) (da_cons (d_bin op_add opd_I0 (d_bin op_add opd_I0 (d_bin op_mulS opd_I (d_var 3) d_int) (d_bin op_mulS opd_I (d_bin op_modN opd_I (d_callTy call_int1 cd_int (by rfl) T.int_ (by decide +kernel) (da_cons (d_var 2) da_nil)) d_int) d_int)) d_int) da_nil)) d_int) (da_cons d_int da_nil)))))))))), fun rs P h => ?_⟩)
  · rintro rs P ⟨ns, t, rfl, _⟩; rfl
  · obtain ⟨ns, t, rfl, ht, hP⟩ := h
    walk_at "st"
    refine seq_join (fun ρ => ∃ v : Int, ρ = [.dat (encI ns), .dat (.int (t : Int)), .dat (.int v), .un, .un, .un]) ?_ fun N hN => ?_
    · rintro ρ ⟨v, rfl⟩
      walk_at "st"
      refine ⟨.inl (by decide), ?_⟩
      walk_at "st"
      show forRun _ _ _ (cutA (ns.map PyData.int) none (some ((9 : Nat) : Int))) _
      rw [cut_any]
      refine for_inv (fun _ ρ => ∃ (m : Int) (s4 : Sl), ρ = [.dat (encI ns), .dat (.int (t : Int)), .dat (.int v), .dat (.int m), s4, .un]) ⟨_, .un, rfl⟩ (fun j a ρ' ha hI D hrt hnx hct => ?_) fun ρ' hI => ?_
      · obtain ⟨m, s4, rfl⟩ := hI
        walk_at "st"
        refine ⟨.inr (by decide), show (998244353 : Int) ≠ 0 by decide, .inr (by decide), show (2147483629 : Int) ≠ 0 by decide, ?_⟩
        exact hnx _ ⟨_, _, rfl⟩
      · obtain ⟨m, s4, rfl⟩ := hI
        walk_at "st"
        refine seq_join (fun ρ => ∃ c : Bool, ρ = [.dat (encI ns), .dat (.int (t : Int)), .dat (.int v), .dat (.int m), s4, .dat (.bool c)]) ?_ fun N hN => ?_
        · rintro ρ ⟨c, rfl⟩
          refine ⟨fun _ => ?_, fun _ => ?_⟩
          · refine ⟨.inr (by decide), show (998244353 : Int) ≠ 0 by decide, .inr (by decide), show (2147483629 : Int) ≠ 0 by decide, lb rfl, hP _ _ _⟩
          · refine ⟨.inr (by decide), show (998244353 : Int) ≠ 0 by decide, .inr (by decide), show (2147483629 : Int) ≠ 0 by decide, lb rfl, hP _ _ _⟩
        · refine ⟨fun _ => hN _ ⟨true, rfl⟩, fun _ => ?_⟩
          exact ⟨⟨by decide, by decide, by decide⟩, hN _ ⟨_, rfl⟩⟩
    · refine ⟨fun h => ?_, fun h => ?_⟩
      · have hl : t < ns.length := by
          have := of_decide_eq_true h
          rw [List.length_map] at this
          omega
        refine at_go (atI_map (List.getElem?_eq_getElem hl)) ?_
        exact hN _ ⟨_, rfl⟩
      · refine ⟨.inl (by decide), ?_⟩
        exact hN _ ⟨_, rfl⟩

theorem g_law : GoodG P w K mg base 13 "law" ["_law_script"] sp_law := by
  refine good_mkG (T.defs ("law", 91) (by decide)) sc_law (fun _ _ _ _ _ _ us hl => match us, hl with | [_], _ => rfl) ?_ (fun cdv A outer s H E B f hK hG hr => ⟨_, (s_one (s_ret (d_callB (cr_all rfl) (cd_all hK) (by rfl) T.all_ (by decide +kernel) (da_cons (d_frz (d_lc 1 sc_law.nd (i_range1 (by rfl) T.range_ (da_cons (d_callB (call_max2 rfl) cd_max (by rfl) T.max_ (by decide +kernel) (da_cons d_int (da_cons (d_callB (call_min2 rfl) cd_min (by rfl) T.min_ (by decide +kernel) (da_cons (d_callB call_len_seq (cd_len hK) (by rfl) T.len_ (by decide +kernel) (da_cons (d_var 0) da_nil)) (da_cons d_int da_nil))) da_nil))) da_nil)) (blkOk_by (by rfl)) (fun _ _ _ _ _ => pg_name (i := 1) sc_law.nd rfl (Or.inl rfl)) (fun _ _ _ _ _ => (c_callGP (g__law_right T) hK hG (hr.mono (by decide)) (da_cons (c_call (g__law_pail T) hK (hr.mono (by decide)) (da_cons (d_var 0) (da_cons (d_var 1) da_nil))) da_nil))))) da_nil)))), fun rs P h => ?_⟩)
  · rintro rs P ⟨ns, rfl, _⟩; rfl
  · obtain ⟨ns, rfl, hP⟩ := h
    walk_at "st"
    obtain ⟨n, hn, hn3⟩ : ∃ n : Nat, gMax 2 (gMin ((ns.map PyData.int).length : Int) 3) = (n : Int) ∧ n ≤ 3 := by
      rw [List.length_map]
      refine ⟨max 2 (min ns.length 3), ?_, ?_⟩
      · unfold gMax gMin
        split <;> split <;> omega
      · omega
    refine ⟨rfl, ?_, ?_, ?_⟩
    · show -1000 ≤ gMax 2 (gMin ((ns.map PyData.int).length : Int) 3)
      rw [hn]; omega
    · show gMax 2 (gMin ((ns.map PyData.int).length : Int) 3) ≤ 1000
      rw [hn]; omega
    show lcRun 1 fYes _ _ _ (rgD (gMax 2 (gMin ((ns.map PyData.int).length : Int) 3)).toNat) []
    rw [hn, Int.toNat_natCast]
    refine lc_map (f := fun _ => PyData.bool true) (fun k hk PP hp => ?_) (by rw [List.length_range]; omega) ?_
    · have hk2 : k < n := List.mem_range.mp hk
      exact ⟨ns, k, rfl, by omega, fun i j l => ⟨rfl, (fun z => nomatch z), hp⟩⟩
    · have e : (List.range n).map (fun _ => PyData.bool true) = List.replicate n (.bool true) := by
        rw [List.map_const', List.length_range]
      rw [e]
      show match bools (List.replicate n (.bool true)) with | some bs => P (.dat (.bool (bs.all id))) | none => False
      rw [bools_rep]
      have : (List.replicate n true).all id = true := by
        rw [List.all_eq_true]
        intro x hx
        exact List.eq_of_mem_replicate hx
      show P (.dat (.bool ((List.replicate n true).all id)))
      rw [this]
      exact hP
end
end K12
/-! The end of the row. -/
namespace K12
open PySem PySem.Spec PyProof.Rows L2 DL
section
variable {K : PySem.W.Frag} {h : Heap} {mg : Str → Option Value}
theorem def_mk (X : K.In h) (G : h.Ns mainGlobals mg) {x : String} {st : Stmt} {f : Addr} {oc : Value} {od an : Option Addr} {osl : Array (Option Value)} {kV dc pm cd ct : Value} (a : PySem.W.nsIn K mainGlobals x = some (some (.ref f)))
    (l : K.lookup f = some ⟨oc, od, .func (PySem.W.fnOf x x (defArgs st) (defBody st) (defScope st) .none kV dc pm an cd ct), osl⟩) (c : PySem.W.codeIn K cd x = true) (k : PySem.W.keepIn K (.ref f) = true) : DefAt K mg x st :=
  ⟨f, _, fun_mk l c k, PySem.W.mg_of X G a⟩
theorem def_then {R : Prop} (x : String) (st : Stmt) (X : K.In h) (G : h.Ns mainGlobals mg) {f : Addr} {oc : Value} {od an : Option Addr} {osl : Array (Option Value)} {kV dc pm cd ct : Value} (a : PySem.W.nsIn K mainGlobals x = some (some (.ref f)))
    (l : K.lookup f = some ⟨oc, od, .func (PySem.W.fnOf x x (defArgs st) (defBody st) (defScope st) .none kV dc pm an cd ct), osl⟩) (c : PySem.W.codeIn K cd x = true) (k : PySem.W.keepIn K (.ref f) = true) (next : DefAt K mg x st → R) : R := next (def_mk X G a l c k)
theorem none_then {R : Prop} (x : String) (X : K.In h) (G : h.Ns mainGlobals mg) (e : PySem.W.nsIn K mainGlobals x = some none) (next : mg x = none → R) : R := next (PySem.W.mg_none_of X G e)
theorem val_then {R : Prop} (x : String) (v : Value) (X : K.In h) (G : h.Ns mainGlobals mg) (e : PySem.W.nsIn K mainGlobals x = some (some v)) (next : mg x = some v → R) : R := next (PySem.W.mg_of X G e)
/-- a tuple of two ints in the written part -/
theorem tup_ints {a : Addr} {od : Option Addr} {n : Nat} {osl : Array (Option Value)} {i j : Int} {t u : Tok} (l : K.lookup a = some ⟨.type "tuple", od, .seq #[.int i t, .int j u] n, osl⟩) : ∀ G, Dv K G (.ref a) (.tuple [.int i, .int j]) := fun G =>
  .tup (.inr ⟨_, _, _, l, rfl, rfl, (by show 2 ≤ sizeLine; decide), .cons (a := V.int i) ⟨t, rfl⟩ (.cons (a := V.int j) ⟨u, rfl⟩ .nil)⟩) (.cons (.int i) (.cons (.int j) .nil))
theorem tup_refs {a p q : Addr} {od : Option Addr} {n : Nat} {osl : Array (Option Value)} {d e : PyData} (l : K.lookup a = some ⟨.type "tuple", od, .seq #[.ref p, .ref q] n, osl⟩) (hp : ∀ G, Dv K G (.ref p) d) (hq : ∀ G, Dv K G (.ref q) e) : ∀ G, Dv K G (.ref a) (.tuple [d, e]) := fun G =>
  .tup (.inr ⟨_, _, _, l, rfl, rfl, (by show 2 ≤ sizeLine; decide), .cons (a := V.ref p) rfl (.cons (a := V.ref q) rfl .nil)⟩) (.cons (hp G) (.cons (hq G) .nil))
theorem const_mk (X : K.In h) (G : h.Ns mainGlobals mg) {x : String} {a : Addr} {d : PyData} (e : PySem.W.nsIn K mainGlobals x = some (some (.ref a))) (hd : ∀ G, Dv K G (.ref a) d) : ∃ a, mg x = some (.ref a) ∧ ∀ G, Dv K G (.ref a) d := ⟨a, PySem.W.mg_of X G e, hd⟩
theorem ints_then {R : Prop} (x : String) (i j : Int) (X : K.In h) (G : h.Ns mainGlobals mg) {a : Addr} {od : Option Addr} {n : Nat} {osl : Array (Option Value)} {t u : Tok} (e : PySem.W.nsIn K mainGlobals x = some (some (.ref a)))
    (l : K.lookup a = some ⟨.type "tuple", od, .seq #[.int i t, .int j u] n, osl⟩) (next : (∃ a, mg x = some (.ref a) ∧ ∀ G, Dv K G (.ref a) (.tuple [.int i, .int j])) → R) : R := next (const_mk X G e (tup_ints l))
theorem refs_then {R : Prop} (x : String) (i j i' j' : Int) (X : K.In h) (G : h.Ns mainGlobals mg) {a p q : Addr} {od od1 od2 : Option Addr} {n n1 n2 : Nat} {osl osl1 osl2 : Array (Option Value)} {t u t' u' : Tok} (e : PySem.W.nsIn K mainGlobals x = some (some (.ref a)))
    (l : K.lookup a = some ⟨.type "tuple", od, .seq #[.ref p, .ref q] n, osl⟩) (m : K.lookup p = some ⟨.type "tuple", od1, .seq #[.int i t, .int j u] n1, osl1⟩) (r : K.lookup q = some ⟨.type "tuple", od2, .seq #[.int i' t', .int j' u'] n2, osl2⟩)
    (next : (∃ a, mg x = some (.ref a) ∧ ∀ G, Dv K G (.ref a) (.tuple [.tuple [.int i, .int j], .tuple [.int i', .int j']])) → R) : R := next (const_mk X G e (tup_refs l (tup_ints m) (tup_ints r)))
theorem xc_mk (X : K.In h) (G : h.Ns mainGlobals mg) {C : Addr} (aC : PySem.W.nsIn K mainGlobals "NoSeries" = some (some (.ref C))) (xP : PySem.W.excIn K C [.type "ValueError", .type "Exception", .type "BaseException", .type "object"] "ValueError.__new__" = true)
    (kC : PySem.W.keepIn K (.ref C) = true) (eC : PySem.W.subIn K (.ref C) (.type "BaseException") = some true) (tC : PySem.W.typeIn K (.ref C) = some (.type "type")) (iC : PySem.W.isClsIn K C = true) (sC : PySem.W.subIn K (.ref C) (.ref C) = some true) : ∃ C, Xc K mg "NoSeries" C := by
  refine ⟨C, PySem.W.mg_of X G aC, kC, ⟨_, _, _, _, PySem.F.excBase_ValueError, xP⟩, eC, tC, ?_⟩
  have i2 : (PySem.W.clsIn K C).isSome = true := iC
  unfold PySem.W.exmOne PySem.W.kitCls
  simp [eC, tC, i2, sC]
theorem xc_then {R : Prop} (X : K.In h) (G : h.Ns mainGlobals mg) {C : Addr} (aC : PySem.W.nsIn K mainGlobals "NoSeries" = some (some (.ref C))) (xP : PySem.W.excIn K C [.type "ValueError", .type "Exception", .type "BaseException", .type "object"] "ValueError.__new__" = true)
    (kC : PySem.W.keepIn K (.ref C) = true) (eC : PySem.W.subIn K (.ref C) (.type "BaseException") = some true) (tC : PySem.W.typeIn K (.ref C) = some (.type "type")) (iC : PySem.W.isClsIn K C = true) (sC : PySem.W.subIn K (.ref C) (.ref C) = some true) (next : (∃ C, Xc K mg "NoSeries" C) → R) : R := next (xc_mk X G aC xP kC eC tC iC sC)
end
theorem fin {P : Program} {w : World} {K : PySem.W.Frag} {mg : Str → Option Value} {fa : Addr} (T : Txt K mg) (hmg : mg "law" = some (.ref fa)) :
    ∃ fd : FuncData, (∀ (s : Shared) (u : Value), BindsTo s fd ⟨[u], []⟩ [("_law_script", u)]) ∧ ∀ base : Heap, K.In base → base.Ns mainGlobals mg → FnG P w K mg base 13 fa fd ["_law_script"] (spD K sp_law) := by
  obtain ⟨f, fd, F, hm⟩ := T.defs ("law", 91) (by decide)
  have e : f = fa := by
    have := hm.symm.trans hmg
    cases this; rfl
  subst e
  refine ⟨fd, ?_, fun base _ _ => ?_⟩
  · obtain ⟨oc, od, kV, doc, pm, an, cdv, ct, osl, rfl, lk, hcd⟩ := F.ex
    exact fun s u => .of_eq rfl
  · obtain ⟨f', fd', hm', hk, hb, Fg⟩ := g_law (P := P) (w := w) (base := base) T
    rw [hm] at hm'
    cases hm'
    have := hb.2.uniq (fdAt_of F)
    subst this
    exact Fg
theorem walk {l : PySem.W.OpenLaw} {q : Program} {loose : List Str} {XP : (Str → Option Value) → Heap → Prop} {YP : World → Heap → Prop} {d : DefRec} {K : Params → PySem.W.Frag} (hn : l.most = some 63) (hdf : d.params.defaults = [])
    (hY : ∀ (w : World) (h : Heap), YP w h → (K w.params).In h) (hL : ∀ w : World, noL (K w.params) = true)
    (F : ∀ (w : World) (mg : Str → Option Value) (fa : Addr) (h : Heap), (K w.params).In h → h.Ns mainGlobals mg → mg d.name = some (.ref fa) →
      ∃ fd : FuncData, (∀ (s : Shared) (u : Value), BindsTo s fd ⟨[u], []⟩ [("_law_script", u)]) ∧ ∀ base : Heap, (K w.params).In base → base.Ns mainGlobals mg → FnG l.prog w (K w.params) mg base 13 fa fd ["_law_script"] (spD (K w.params) sp_law)) :
    PySem.W.WalkO q loose XP YP l.row.toRowW d [] (fun f vs => PySem.call f vs) :=
  walk_ofG (n := 63) (k := 13) (x := "_law_script") (sp := fun w => spD (K w.params) sp_law) hn (by decide) hdf ⟨rfl, by decide, by decide⟩ hY hL F fun w H a ns _ hS =>
    ⟨H, none, [.dat (encI ns)], fun r => r = .dat (.bool true), script_ok hS, ⟨ns, rfl, rfl⟩, fun v r H' ok hr => by
      subst hr
      have := Ok.last (xs := []) (ρ := []) ok
      cases this
      rfl⟩
end K12
open PySem PySem.W PyProof.Rows
set_option maxRecDepth 100000 in
set_option maxHeartbeats 0 in
theorem PySem.Challenge.cw_withinrim_k12_whole_quotients_by_own_red_holds : PySem.Challenge.rw_withinrim_k12_whole_quotients_by_own_red.Holds := by
  w_on; o_law; k_head; (case hw => w_witness2)
  k_fill
  refine K12.walk (l := PySem.Challenge.rw_withinrim_k12_whole_quotients_by_own_red) rfl rfl (fun w h Y => PySem.W.kIn_of Y) ?L ?F
  case L =>
    intro w
    kernel_rfl
  case F =>
    intro w mg fa h KX G hmg
    refine' K12.def_then "is_whole" (K12.topS 12) KX G ?a ?l ?c ?k (fun d12 => ?_); (case a => k_is); (case l => k_is); (case c => k_is); (case k => k_is)
    refine' K12.def_then "is_frac" (K12.topS 13) KX G ?a ?l ?c ?k (fun d13 => ?_); (case a => k_is); (case l => k_is); (case c => k_is); (case k => k_is)
    refine' K12.def_then "is_num" (K12.topS 14) KX G ?a ?l ?c ?k (fun d14 => ?_); (case a => k_is); (case l => k_is); (case c => k_is); (case k => k_is)
    refine' K12.def_then "frac_reduced" (K12.topS 15) KX G ?a ?l ?c ?k (fun d15 => ?_); (case a => k_is); (case l => k_is); (case c => k_is); (case k => k_is)
    refine' K12.def_then "frac_sum" (K12.topS 16) KX G ?a ?l ?c ?k (fun d16 => ?_); (case a => k_is); (case l => k_is); (case c => k_is); (case k => k_is)
    refine' K12.def_then "frac_less" (K12.topS 17) KX G ?a ?l ?c ?k (fun d17 => ?_); (case a => k_is); (case l => k_is); (case c => k_is); (case k => k_is)
    refine' K12.def_then "frac_product" (K12.topS 18) KX G ?a ?l ?c ?k (fun d18 => ?_); (case a => k_is); (case l => k_is); (case c => k_is); (case k => k_is)
    refine' K12.def_then "frac_over" (K12.topS 19) KX G ?a ?l ?c ?k (fun d19 => ?_); (case a => k_is); (case l => k_is); (case c => k_is); (case k => k_is)
    refine' K12.def_then "num_sum" (K12.topS 20) KX G ?a ?l ?c ?k (fun d20 => ?_); (case a => k_is); (case l => k_is); (case c => k_is); (case k => k_is)
    refine' K12.def_then "num_less" (K12.topS 21) KX G ?a ?l ?c ?k (fun d21 => ?_); (case a => k_is); (case l => k_is); (case c => k_is); (case k => k_is)
    refine' K12.def_then "num_product" (K12.topS 22) KX G ?a ?l ?c ?k (fun d22 => ?_); (case a => k_is); (case l => k_is); (case c => k_is); (case k => k_is)
    refine' K12.def_then "num_scaled" (K12.topS 23) KX G ?a ?l ?c ?k (fun d23 => ?_); (case a => k_is); (case l => k_is); (case c => k_is); (case k => k_is)
    refine' K12.def_then "num_mirrored" (K12.topS 24) KX G ?a ?l ?c ?k (fun d24 => ?_); (case a => k_is); (case l => k_is); (case c => k_is); (case k => k_is)
    refine' K12.def_then "num_size" (K12.topS 25) KX G ?a ?l ?c ?k (fun d25 => ?_); (case a => k_is); (case l => k_is); (case c => k_is); (case k => k_is)
    refine' K12.def_then "num_over" (K12.topS 26) KX G ?a ?l ?c ?k (fun d26 => ?_); (case a => k_is); (case l => k_is); (case c => k_is); (case k => k_is)
    refine' K12.def_then "is_a_row" (K12.topS 28) KX G ?a ?l ?c ?k (fun d28 => ?_); (case a => k_is); (case l => k_is); (case c => k_is); (case k => k_is)
    refine' K12.def_then "row_trimmed" (K12.topS 29) KX G ?a ?l ?c ?k (fun d29 => ?_); (case a => k_is); (case l => k_is); (case c => k_is); (case k => k_is)
    refine' K12.def_then "row_number" (K12.topS 30) KX G ?a ?l ?c ?k (fun d30 => ?_); (case a => k_is); (case l => k_is); (case c => k_is); (case k => k_is)
    refine' K12.def_then "row_plus" (K12.topS 31) KX G ?a ?l ?c ?k (fun d31 => ?_); (case a => k_is); (case l => k_is); (case c => k_is); (case k => k_is)
    refine' K12.def_then "row_minus" (K12.topS 32) KX G ?a ?l ?c ?k (fun d32 => ?_); (case a => k_is); (case l => k_is); (case c => k_is); (case k => k_is)
    refine' K12.def_then "row_times" (K12.topS 33) KX G ?a ?l ?c ?k (fun d33 => ?_); (case a => k_is); (case l => k_is); (case c => k_is); (case k => k_is)
    refine' K12.def_then "row_scaled" (K12.topS 34) KX G ?a ?l ?c ?k (fun d34 => ?_); (case a => k_is); (case l => k_is); (case c => k_is); (case k => k_is)
    refine' K12.def_then "row_value_of" (K12.topS 35) KX G ?a ?l ?c ?k (fun d35 => ?_); (case a => k_is); (case l => k_is); (case c => k_is); (case k => k_is)
    refine' K12.def_then "row_rest" (K12.topS 36) KX G ?a ?l ?c ?k (fun d36 => ?_); (case a => k_is); (case l => k_is); (case c => k_is); (case k => k_is)
    refine' K12.def_then "row_last_one" (K12.topS 37) KX G ?a ?l ?c ?k (fun d37 => ?_); (case a => k_is); (case l => k_is); (case c => k_is); (case k => k_is)
    refine' K12.def_then "row_divisor" (K12.topS 38) KX G ?a ?l ?c ?k (fun d38 => ?_); (case a => k_is); (case l => k_is); (case c => k_is); (case k => k_is)
    refine' K12.def_then "quote_reduced" (K12.topS 40) KX G ?a ?l ?c ?k (fun d40 => ?_); (case a => k_is); (case l => k_is); (case c => k_is); (case k => k_is)
    refine' K12.def_then "is_a_quote" (K12.topS 41) KX G ?a ?l ?c ?k (fun d41 => ?_); (case a => k_is); (case l => k_is); (case c => k_is); (case k => k_is)
    refine' K12.def_then "quote_degree" (K12.topS 42) KX G ?a ?l ?c ?k (fun d42 => ?_); (case a => k_is); (case l => k_is); (case c => k_is); (case k => k_is)
    refine' K12.def_then "quote_plus" (K12.topS 43) KX G ?a ?l ?c ?k (fun d43 => ?_); (case a => k_is); (case l => k_is); (case c => k_is); (case k => k_is)
    refine' K12.def_then "quote_minus" (K12.topS 44) KX G ?a ?l ?c ?k (fun d44 => ?_); (case a => k_is); (case l => k_is); (case c => k_is); (case k => k_is)
    refine' K12.def_then "quote_times" (K12.topS 45) KX G ?a ?l ?c ?k (fun d45 => ?_); (case a => k_is); (case l => k_is); (case c => k_is); (case k => k_is)
    refine' K12.def_then "quote_over" (K12.topS 46) KX G ?a ?l ?c ?k (fun d46 => ?_); (case a => k_is); (case l => k_is); (case c => k_is); (case k => k_is)
    refine' K12.def_then "quote_value" (K12.topS 47) KX G ?a ?l ?c ?k (fun d47 => ?_); (case a => k_is); (case l => k_is); (case c => k_is); (case k => k_is)
    refine' K12.def_then "check_number" (K12.topS 49) KX G ?a ?l ?c ?k (fun d49 => ?_); (case a => k_is); (case l => k_is); (case c => k_is); (case k => k_is)
    refine' K12.def_then "check_row" (K12.topS 51) KX G ?a ?l ?c ?k (fun d51 => ?_); (case a => k_is); (case l => k_is); (case c => k_is); (case k => k_is)
    refine' K12.def_then "check_quotient" (K12.topS 53) KX G ?a ?l ?c ?k (fun d53 => ?_); (case a => k_is); (case l => k_is); (case c => k_is); (case k => k_is)
    refine' K12.def_then "is_quotient" (K12.topS 54) KX G ?a ?l ?c ?k (fun d54 => ?_); (case a => k_is); (case l => k_is); (case c => k_is); (case k => k_is)
    refine' K12.def_then "quotient_of" (K12.topS 55) KX G ?a ?l ?c ?k (fun d55 => ?_); (case a => k_is); (case l => k_is); (case c => k_is); (case k => k_is)
    refine' K12.def_then "quotient_degree" (K12.topS 56) KX G ?a ?l ?c ?k (fun d56 => ?_); (case a => k_is); (case l => k_is); (case c => k_is); (case k => k_is)
    refine' K12.def_then "quotient_sum" (K12.topS 57) KX G ?a ?l ?c ?k (fun d57 => ?_); (case a => k_is); (case l => k_is); (case c => k_is); (case k => k_is)
    refine' K12.def_then "quotient_less" (K12.topS 58) KX G ?a ?l ?c ?k (fun d58 => ?_); (case a => k_is); (case l => k_is); (case c => k_is); (case k => k_is)
    refine' K12.def_then "quotient_product" (K12.topS 59) KX G ?a ?l ?c ?k (fun d59 => ?_); (case a => k_is); (case l => k_is); (case c => k_is); (case k => k_is)
    refine' K12.def_then "quotient_over" (K12.topS 60) KX G ?a ?l ?c ?k (fun d60 => ?_); (case a => k_is); (case l => k_is); (case c => k_is); (case k => k_is)
    refine' K12.def_then "quotient_value" (K12.topS 61) KX G ?a ?l ?c ?k (fun d61 => ?_); (case a => k_is); (case l => k_is); (case c => k_is); (case k => k_is)
    refine' K12.def_then "_law_pail" (K12.topS 63) KX G ?a ?l ?c ?k (fun d63 => ?_); (case a => k_is); (case l => k_is); (case c => k_is); (case k => k_is)
    refine' K12.def_then "_law_dip" (K12.topS 64) KX G ?a ?l ?c ?k (fun d64 => ?_); (case a => k_is); (case l => k_is); (case c => k_is); (case k => k_is)
    refine' K12.def_then "_law_gcd" (K12.topS 65) KX G ?a ?l ?c ?k (fun d65 => ?_); (case a => k_is); (case l => k_is); (case c => k_is); (case k => k_is)
    refine' K12.def_then "_law_cut" (K12.topS 66) KX G ?a ?l ?c ?k (fun d66 => ?_); (case a => k_is); (case l => k_is); (case c => k_is); (case k => k_is)
    refine' K12.def_then "_law_over" (K12.topS 67) KX G ?a ?l ?c ?k (fun d67 => ?_); (case a => k_is); (case l => k_is); (case c => k_is); (case k => k_is)
    refine' K12.def_then "_law_trim" (K12.topS 68) KX G ?a ?l ?c ?k (fun d68 => ?_); (case a => k_is); (case l => k_is); (case c => k_is); (case k => k_is)
    refine' K12.def_then "_law_less" (K12.topS 69) KX G ?a ?l ?c ?k (fun d69 => ?_); (case a => k_is); (case l => k_is); (case c => k_is); (case k => k_is)
    refine' K12.def_then "_law_times" (K12.topS 70) KX G ?a ?l ?c ?k (fun d70 => ?_); (case a => k_is); (case l => k_is); (case c => k_is); (case k => k_is)
    refine' K12.def_then "_law_row_divided" (K12.topS 71) KX G ?a ?l ?c ?k (fun d71 => ?_); (case a => k_is); (case l => k_is); (case c => k_is); (case k => k_is)
    refine' K12.def_then "_law_reduced" (K12.topS 72) KX G ?a ?l ?c ?k (fun d72 => ?_); (case a => k_is); (case l => k_is); (case c => k_is); (case k => k_is)
    refine' K12.def_then "_law_fraction" (K12.topS 73) KX G ?a ?l ?c ?k (fun d73 => ?_); (case a => k_is); (case l => k_is); (case c => k_is); (case k => k_is)
    refine' K12.def_then "_law_told" (K12.topS 74) KX G ?a ?l ?c ?k (fun d74 => ?_); (case a => k_is); (case l => k_is); (case c => k_is); (case k => k_is)
    refine' K12.def_then "_law_told_row" (K12.topS 75) KX G ?a ?l ?c ?k (fun d75 => ?_); (case a => k_is); (case l => k_is); (case c => k_is); (case k => k_is)
    refine' K12.def_then "_law_told_quotient" (K12.topS 76) KX G ?a ?l ?c ?k (fun d76 => ?_); (case a => k_is); (case l => k_is); (case c => k_is); (case k => k_is)
    refine' K12.def_then "_law_drawn" (K12.topS 77) KX G ?a ?l ?c ?k (fun d77 => ?_); (case a => k_is); (case l => k_is); (case c => k_is); (case k => k_is)
    refine' K12.def_then "_law_add" (K12.topS 78) KX G ?a ?l ?c ?k (fun d78 => ?_); (case a => k_is); (case l => k_is); (case c => k_is); (case k => k_is)
    refine' K12.def_then "_law_row_times" (K12.topS 79) KX G ?a ?l ?c ?k (fun d79 => ?_); (case a => k_is); (case l => k_is); (case c => k_is); (case k => k_is)
    refine' K12.def_then "_law_under" (K12.topS 80) KX G ?a ?l ?c ?k (fun d80 => ?_); (case a => k_is); (case l => k_is); (case c => k_is); (case k => k_is)
    refine' K12.def_then "_law_row" (K12.topS 81) KX G ?a ?l ?c ?k (fun d81 => ?_); (case a => k_is); (case l => k_is); (case c => k_is); (case k => k_is)
    refine' K12.def_then "_law_row_sum" (K12.topS 82) KX G ?a ?l ?c ?k (fun d82 => ?_); (case a => k_is); (case l => k_is); (case c => k_is); (case k => k_is)
    refine' K12.def_then "_law_one_of" (K12.topS 83) KX G ?a ?l ?c ?k (fun d83 => ?_); (case a => k_is); (case l => k_is); (case c => k_is); (case k => k_is)
    refine' K12.def_then "_law_row_value" (K12.topS 84) KX G ?a ?l ?c ?k (fun d84 => ?_); (case a => k_is); (case l => k_is); (case c => k_is); (case k => k_is)
    refine' K12.def_then "_law_made" (K12.topS 85) KX G ?a ?l ?c ?k (fun d85 => ?_); (case a => k_is); (case l => k_is); (case c => k_is); (case k => k_is)
    refine' K12.def_then "_law_parted" (K12.topS 86) KX G ?a ?l ?c ?k (fun d86 => ?_); (case a => k_is); (case l => k_is); (case c => k_is); (case k => k_is)
    refine' K12.def_then "_law_due" (K12.topS 87) KX G ?a ?l ?c ?k (fun d87 => ?_); (case a => k_is); (case l => k_is); (case c => k_is); (case k => k_is)
    refine' K12.def_then "_law_drawn_pair" (K12.topS 88) KX G ?a ?l ?c ?k (fun d88 => ?_); (case a => k_is); (case l => k_is); (case c => k_is); (case k => k_is)
    refine' K12.def_then "_law_sums" (K12.topS 89) KX G ?a ?l ?c ?k (fun d89 => ?_); (case a => k_is); (case l => k_is); (case c => k_is); (case k => k_is)
    refine' K12.def_then "_law_right" (K12.topS 90) KX G ?a ?l ?c ?k (fun d90 => ?_); (case a => k_is); (case l => k_is); (case c => k_is); (case k => k_is)
    refine' K12.def_then "law" (K12.topS 91) KX G ?a ?l ?c ?k (fun d91 => ?_); (case a => k_is); (case l => k_is); (case c => k_is); (case k => k_is)
    refine' K12.none_then "abs" KX G ?e (fun z_abs => ?_); (case e => k_is)
    refine' K12.none_then "all" KX G ?e (fun z_all => ?_); (case e => k_is)
    refine' K12.none_then "bool" KX G ?e (fun z_bool => ?_); (case e => k_is)
    refine' K12.none_then "divmod" KX G ?e (fun z_divmod => ?_); (case e => k_is)
    refine' K12.none_then "enumerate" KX G ?e (fun z_enumerate => ?_); (case e => k_is)
    refine' K12.none_then "int" KX G ?e (fun z_int => ?_); (case e => k_is)
    refine' K12.none_then "isinstance" KX G ?e (fun z_isinstance => ?_); (case e => k_is)
    refine' K12.none_then "len" KX G ?e (fun z_len => ?_); (case e => k_is)
    refine' K12.none_then "list" KX G ?e (fun z_list => ?_); (case e => k_is)
    refine' K12.none_then "max" KX G ?e (fun z_max => ?_); (case e => k_is)
    refine' K12.none_then "min" KX G ?e (fun z_min => ?_); (case e => k_is)
    refine' K12.none_then "range" KX G ?e (fun z_range => ?_); (case e => k_is)
    refine' K12.none_then "repr" KX G ?e (fun z_repr => ?_); (case e => k_is)
    refine' K12.none_then "tuple" KX G ?e (fun z_tuple => ?_); (case e => k_is)
    refine' K12.val_then "gcd" (.builtin "math.gcd") KX G ?e (fun z_gcd => ?_); (case e => k_is)
    refine' K12.ints_then "FRAC_ONE" 1 1 KX G ?e ?l (fun c1 => ?_); (case e => k_is); (case l => k_is)
    refine' K12.refs_then "NOUGHT" 0 1 0 1 KX G ?e ?l ?m ?r (fun c_NOUGHT => ?_); (case e => k_is); (case l => k_is); (case m => k_is); (case r => k_is)
    refine' K12.refs_then "ONE" 1 1 0 1 KX G ?e ?l ?m ?r (fun c_ONE => ?_); (case e => k_is); (case l => k_is); (case m => k_is); (case r => k_is)
    refine' K12.xc_then KX G ?a ?x ?k ?e ?t ?i ?s (fun x1 => ?_); (case a => k_is); (case x => k_exc); (case k => k_is); (case e => k_is); (case t => k_is); (case i => k_is); (case s => first | rfl | k_is)
    exact K12.fin { defs := List.forall_mem_cons.mpr ⟨d12, List.forall_mem_cons.mpr ⟨d13, List.forall_mem_cons.mpr ⟨d14, List.forall_mem_cons.mpr ⟨d15, List.forall_mem_cons.mpr ⟨d16, List.forall_mem_cons.mpr ⟨d17, List.forall_mem_cons.mpr ⟨d18, List.forall_mem_cons.mpr ⟨d19, List.forall_mem_cons.mpr ⟨d20, List.forall_mem_cons.mpr ⟨d21, List.forall_mem_cons.mpr ⟨d22, List.forall_mem_cons.mpr ⟨d23, List.forall_mem_cons.mpr ⟨d24, List.forall_mem_cons.mpr ⟨d25, List.forall_mem_cons.mpr ⟨d26, List.forall_mem_cons.mpr ⟨d28, List.forall_mem_cons.mpr ⟨d29, List.forall_mem_cons.mpr ⟨d30, List.forall_mem_cons.mpr ⟨d31, List.forall_mem_cons.mpr ⟨d32, List.forall_mem_cons.mpr ⟨d33, List.forall_mem_cons.mpr ⟨d34, List.forall_mem_cons.mpr ⟨d35, List.forall_mem_cons.mpr ⟨d36, List.forall_mem_cons.mpr ⟨d37, List.forall_mem_cons.mpr ⟨d38, List.forall_mem_cons.mpr ⟨d40, List.forall_mem_cons.mpr ⟨d41, List.forall_mem_cons.mpr ⟨d42, List.forall_mem_cons.mpr ⟨d43, List.forall_mem_cons.mpr ⟨d44, List.forall_mem_cons.mpr ⟨d45, List.forall_mem_cons.mpr ⟨d46, List.forall_mem_cons.mpr ⟨d47, List.forall_mem_cons.mpr ⟨d49, List.forall_mem_cons.mpr ⟨d51, List.forall_mem_cons.mpr ⟨d53, List.forall_mem_cons.mpr ⟨d54, List.forall_mem_cons.mpr ⟨d55, List.forall_mem_cons.mpr ⟨d56, List.forall_mem_cons.mpr ⟨d57, List.forall_mem_cons.mpr ⟨d58, List.forall_mem_cons.mpr ⟨d59, List.forall_mem_cons.mpr ⟨d60, List.forall_mem_cons.mpr ⟨d61, List.forall_mem_cons.mpr ⟨d63, List.forall_mem_cons.mpr ⟨d64, List.forall_mem_cons.mpr ⟨d65, List.forall_mem_cons.mpr ⟨d66, List.forall_mem_cons.mpr ⟨d67, List.forall_mem_cons.mpr ⟨d68, List.forall_mem_cons.mpr ⟨d69, List.forall_mem_cons.mpr ⟨d70, List.forall_mem_cons.mpr ⟨d71, List.forall_mem_cons.mpr ⟨d72, List.forall_mem_cons.mpr ⟨d73, List.forall_mem_cons.mpr ⟨d74, List.forall_mem_cons.mpr ⟨d75, List.forall_mem_cons.mpr ⟨d76, List.forall_mem_cons.mpr ⟨d77, List.forall_mem_cons.mpr ⟨d78, List.forall_mem_cons.mpr ⟨d79, List.forall_mem_cons.mpr ⟨d80, List.forall_mem_cons.mpr ⟨d81, List.forall_mem_cons.mpr ⟨d82, List.forall_mem_cons.mpr ⟨d83, List.forall_mem_cons.mpr ⟨d84, List.forall_mem_cons.mpr ⟨d85, List.forall_mem_cons.mpr ⟨d86, List.forall_mem_cons.mpr ⟨d87, List.forall_mem_cons.mpr ⟨d88, List.forall_mem_cons.mpr ⟨d89, List.forall_mem_cons.mpr ⟨d90, List.forall_mem_cons.mpr ⟨d91, (fun p hp => (nomatch hp))⟩⟩⟩⟩⟩⟩⟩⟩⟩⟩⟩⟩⟩⟩⟩⟩⟩⟩⟩⟩⟩⟩⟩⟩⟩⟩⟩⟩⟩⟩⟩⟩⟩⟩⟩⟩⟩⟩⟩⟩⟩⟩⟩⟩⟩⟩⟩⟩⟩⟩⟩⟩⟩⟩⟩⟩⟩⟩⟩⟩⟩⟩⟩⟩⟩⟩⟩⟩⟩⟩⟩⟩⟩⟩, gcd := z_gcd, abs_ := z_abs, all_ := z_all, bool_ := z_bool, divmod_ := z_divmod, enumerate_ := z_enumerate, int_ := z_int, isinstance_ := z_isinstance, len_ := z_len, list_ := z_list, max_ := z_max, min_ := z_min, range_ := z_range, repr_ := z_repr, tuple_ := z_tuple, FRAC_ONE := c1, NOUGHT := c_NOUGHT, ONE := c_ONE, nos := x1 } hmg
