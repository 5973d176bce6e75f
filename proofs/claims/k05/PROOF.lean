import PyProof.Rows.All
import Wide.All
import OpenK.AllK
import Wide.FinOn
import HandS.ForMost
import HandS.EndBits
import HandS.Wide
import HandS.Rev
import HandS.RevRange
import HandS.Zip
import HandS.NoneIn
import HandS.TupMul
import HandS.IsInst
import HandS.Walk
import KE.GoesMore
import KE.GoesEnum
import PyProof.Draws
import PySem.Challenge.RW_stagesfull_k05_whole_slopes_are_coeffici
set_option Elab.async false
set_option linter.all false
set_option maxRecDepth 100000
set_option maxHeartbeats 4000000
/-! The plain law: the slopes that go back and the rises that go forward agree modulo p. No program here. -/
namespace K5M

def sumN : Nat → (Nat → Int) → Int
  | 0, _ => 0
  | n + 1, f => sumN n f + f n

theorem sumN_congr {f g : Nat → Int} : ∀ {n : Nat}, (∀ i, i < n → f i = g i) → sumN n f = sumN n g
  | 0, _ => rfl
  | n + 1, h => by
    show sumN n f + f n = sumN n g + g n
    rw [sumN_congr (n := n) fun i hi => h i (by omega), h n (by omega)]
theorem sumN_add (f g : Nat → Int) : ∀ n, sumN n (fun i => f i + g i) = sumN n f + sumN n g
  | 0 => rfl
  | n + 1 => by
    show sumN n (fun i => f i + g i) + (f n + g n) = sumN n f + f n + (sumN n g + g n)
    rw [sumN_add f g n]
    omega
theorem sumN_mul (c : Int) (f : Nat → Int) : ∀ n, sumN n (fun i => c * f i) = c * sumN n f
  | 0 => by
    show (0 : Int) = c * 0
    rw [Int.mul_zero]
  | n + 1 => by
    show sumN n (fun i => c * f i) + c * f n = c * (sumN n f + f n)
    rw [sumN_mul c f n, Int.mul_add]
theorem sumN_mulr (c : Int) (f : Nat → Int) (n : Nat) : sumN n (fun i => f i * c) = sumN n f * c := by
  rw [Int.mul_comm, ← sumN_mul]
  exact sumN_congr fun i _ => Int.mul_comm _ _
theorem sumN_nought : ∀ n, sumN n (fun _ => 0) = 0
  | 0 => rfl
  | n + 1 => by
    show sumN n (fun _ => 0) + 0 = 0
    rw [sumN_nought n]
    rfl
theorem sumN_swap (f : Nat → Nat → Int) (m : Nat) : ∀ n, sumN n (fun i => sumN m fun k => f i k) = sumN m fun k => sumN n fun i => f i k
  | 0 => (sumN_nought m).symm
  | n + 1 => by
    show sumN n (fun i => sumN m fun k => f i k) + sumN m (fun k => f n k) = sumN m fun k => sumN n (fun i => f i k) + f n k
    rw [sumN_swap f m n, sumN_add]
/-- one place alone -/
theorem sumN_at (f : Nat → Int) (a : Nat) : ∀ n, sumN n (fun i => if i = a then f i else 0) = if a < n then f a else 0
  | 0 => by rw [if_neg (Nat.not_lt_zero a)]; rfl
  | n + 1 => by
    show sumN n (fun i => if i = a then f i else 0) + (if n = a then f n else 0) = _
    rw [sumN_at f a n]
    by_cases h : n = a
    · subst h
      rw [if_neg (Nat.lt_irrefl n), if_pos rfl, if_pos (Nat.lt_succ_self n), Int.zero_add]
    · rw [if_neg h, Int.add_zero]
      by_cases h2 : a < n
      · rw [if_pos h2, if_pos (by omega)]
      · rw [if_neg h2, if_neg (by omega)]

/-! ### alike modulo p -/
def Cg (p a b : Int) : Prop := ∃ t, a = b + p * t
theorem Cg.refl {p : Int} (a : Int) : Cg p a a := ⟨0, by rw [Int.mul_zero, Int.add_zero]⟩
theorem Cg.of_eq {p a b : Int} (h : a = b) : Cg p a b := h ▸ Cg.refl a
theorem Cg.symm {p a b : Int} : Cg p a b → Cg p b a
  | ⟨t, h⟩ => ⟨-t, by rw [h, Int.mul_neg]; omega⟩
theorem Cg.trans {p a b c : Int} : Cg p a b → Cg p b c → Cg p a c
  | ⟨t, h⟩, ⟨u, k⟩ => ⟨u + t, by rw [h, k, Int.mul_add]; omega⟩
theorem Cg.add {p a b c d : Int} : Cg p a b → Cg p c d → Cg p (a + c) (b + d)
  | ⟨t, h⟩, ⟨u, k⟩ => ⟨t + u, by rw [h, k, Int.mul_add]; omega⟩
theorem Cg.mulr {p a b : Int} (c : Int) : Cg p a b → Cg p (a * c) (b * c)
  | ⟨t, h⟩ => ⟨t * c, by rw [h, Int.add_mul, Int.mul_assoc]⟩
theorem Cg.mull {p a b : Int} (c : Int) (h : Cg p a b) : Cg p (c * a) (c * b) := by
  rw [Int.mul_comm c a, Int.mul_comm c b]
  exact h.mulr c
theorem Cg.mul {p a b c d : Int} (h : Cg p a b) (k : Cg p c d) : Cg p (a * c) (b * d) := (h.mulr c).trans (k.mull b)
theorem cg_mod (p a : Int) : Cg p (a % p) a := ⟨-(a / p), by
  have h := Int.emod_add_mul_ediv a p
  rw [Int.mul_neg]
  omega⟩
theorem Cg.mod {p a b : Int} : Cg p a b → a % p = b % p
  | ⟨t, h⟩ => by rw [h, Int.add_mul_emod_self_left]
theorem Cg.sum {p : Int} {f g : Nat → Int} : ∀ {n : Nat}, (∀ i, i < n → Cg p (f i) (g i)) → Cg p (sumN n f) (sumN n g)
  | 0, _ => Cg.refl _
  | n + 1, h => (Cg.sum (n := n) fun i hi => h i (by omega)).add (h n (by omega))

/-! ### the net: forward, back, and the rises -/
/-- a row times a vector -/
def dot (w : Nat) (r x : Nat → Int) : Int := sumN w fun k => r k * x k
def prodF (p : Int) (w : Nat) (M : Nat → Nat → Int) (x : Nat → Int) : Nat → Int := fun i => dot w (M i) x % p
def fwdF (p : Int) (w : Nat) (M : Nat → Nat → Int) (s : Bool) (x : Nat → Int) : Nat → Int :=
  fun i => if s = true then prodF p w M x i * prodF p w M x i % p else prodF p w M x i
def innF (p : Int) (w : Nat) (M : Nat → Nat → Int) (s : Bool) (x sl : Nat → Int) : Nat → Int :=
  fun i => if s = true then 2 * prodF p w M x i * (sl i % p) % p else sl i % p
def backF (p : Int) (w : Nat) (M : Nat → Nat → Int) (g : Nat → Int) : Nat → Int := fun k => sumN w (fun i => g i * M i k) % p

/-- what comes into layer l -/
def inpF (p : Int) (w : Nat) (W : Nat → Nat → Nat → Int) (s : Nat → Bool) (x : Nat → Int) : Nat → Nat → Int
  | 0 => x
  | l + 1 => fwdF p w (W l) (s l) (inpF p w W s x l)
/-- the slopes behind j layers from the last one -/
def slF (p : Int) (n w : Nat) (W : Nat → Nat → Nat → Int) (s : Nat → Bool) (x : Nat → Int) (ls : Nat → Int) : Nat → Nat → Int
  | 0 => ls
  | j + 1 => backF p w (W (n - 1 - j)) (innF p w (W (n - 1 - j)) (s (n - 1 - j)) (inpF p w W s x (n - 1 - j)) (slF p n w W s x ls j))
def lsF (p : Int) (o t : Nat → Int) : Nat → Int := fun j => 2 * (o j - t j) % p
/-- the slope of the weight W[l][i][k], one example -/
def wsF (p : Int) (n w : Nat) (W : Nat → Nat → Nat → Int) (s : Nat → Bool) (x t : Nat → Int) (l i k : Nat) : Int :=
  innF p w (W l) (s l) (inpF p w W s x l) (slF p n w W s x (lsF p (inpF p w W s x n) t) (n - 1 - l)) i * inpF p w W s x l k % p
/-- .. summed over the first m examples, as the program does -/
def totF (p : Int) (n w : Nat) (W : Nat → Nat → Nat → Int) (s : Nat → Bool) (xs ts : Nat → Nat → Int) : Nat → Nat → Nat → Nat → Int
  | 0, _, _, _ => 0
  | m + 1, l, i, k => (totF p n w W s xs ts m l i k + 1 * wsF p n w W s (xs m) (ts m) l i k) % p

/-- the law's pair: the value and its rise ahead of the remainder -/
def valF (w : Nat) (M : Nat → Nat → Int) (x : Nat → Int) (i : Nat) : Int := dot w (M i) x
def risF (w : Nat) (M : Nat → Nat → Int) (x r : Nat → Int) (here : Bool) (a b i : Nat) : Int :=
  if here = true ∧ i = a then dot w (M i) r + x b else dot w (M i) r
/-- plain and rise behind one layer -/
def plaF (p : Int) (w : Nat) (M : Nat → Nat → Int) (s : Bool) (x : Nat → Int) : Nat → Int :=
  fun i => (if s = true then valF w M x i * valF w M x i else valF w M x i) % p
def rizF (p : Int) (w : Nat) (M : Nat → Nat → Int) (s : Bool) (x r : Nat → Int) (here : Bool) (a b : Nat) : Nat → Int :=
  fun i => (if s = true then 2 * valF w M x i * risF w M x r here a b i else risF w M x r here a b i) % p
def thrF (p : Int) (w : Nat) (W : Nat → Nat → Nat → Int) (s : Nat → Bool) (x : Nat → Int) (L a b : Nat) : Nat → (Nat → Int) × (Nat → Int)
  | 0 => (x, fun _ => 0)
  | l + 1 => (plaF p w (W l) (s l) (thrF p w W s x L a b l).1, rizF p w (W l) (s l) (thrF p w W s x L a b l).1 (thrF p w W s x L a b l).2 (decide (l = L)) a b)
/-- the coefficient's sum over the first m examples -/
def cofF (p : Int) (n w : Nat) (W : Nat → Nat → Nat → Int) (s : Nat → Bool) (xs ts : Nat → Nat → Int) (L a b : Nat) : Nat → Int
  | 0 => 0
  | m + 1 => cofF p n w W s xs ts L a b m + sumN w fun k => 2 * ((thrF p w W s (xs m) L a b n).1 k - ts m k) * (thrF p w W s (xs m) L a b n).2 k

section
variable {p : Int} {n w : Nat} {W : Nat → Nat → Nat → Int} {s : Nat → Bool} {x t : Nat → Int} {L a b : Nat}

theorem pla_fwd {M : Nat → Nat → Int} {q : Bool} {y : Nat → Int} : plaF p w M q y = fwdF p w M q y := by
  funext i
  unfold plaF fwdF
  cases q with
  | true =>
    rw [if_pos rfl, if_pos rfl]
    exact (Cg.mul (cg_mod p _) (cg_mod p _)).symm.mod
  | false =>
    rw [if_neg Bool.false_ne_true, if_neg Bool.false_ne_true]
    rfl
theorem thr_inp : ∀ l, (thrF p w W s x L a b l).1 = inpF p w W s x l
  | 0 => rfl
  | l + 1 => by
    show plaF p w (W l) (s l) (thrF p w W s x L a b l).1 = fwdF p w (W l) (s l) (inpF p w W s x l)
    rw [thr_inp l]
    exact pla_fwd
theorem dot_nought (r : Nat → Int) : dot w r (fun _ => 0) = 0 := by
  unfold dot
  rw [sumN_congr (g := fun _ => 0) fun i _ => Int.mul_zero _]
  exact sumN_nought w
/-- no rise up to the layer -/
theorem thr_flat : ∀ l, l ≤ L → (thrF p w W s x L a b l).2 = fun _ => 0
  | 0, _ => rfl
  | l + 1, h => by
    show rizF p w (W l) (s l) (thrF p w W s x L a b l).1 (thrF p w W s x L a b l).2 (decide (l = L)) a b = fun _ => 0
    rw [thr_flat l (by omega), decide_eq_false (show ¬ l = L by omega)]
    funext i
    have e : ∀ y : Nat → Int, risF w (W l) y (fun _ => 0) false a b i = 0 := fun y => by
      unfold risF
      rw [if_neg (fun q : (false = true ∧ i = a) => Bool.false_ne_true q.1), dot_nought]
    unfold rizF
    rw [e, Int.mul_zero]
    cases s l with
    | true => rw [if_pos rfl, Int.zero_emod]
    | false => rw [if_neg Bool.false_ne_true, Int.zero_emod]
/-- the factor of a layer: 1, or twice the value -/
def facF (w : Nat) (M : Nat → Nat → Int) (q : Bool) (y : Nat → Int) (i : Nat) : Int := if q = true then 2 * valF w M y i else 1
theorem riz_fac {M : Nat → Nat → Int} {q : Bool} {y r : Nat → Int} {here : Bool} (i : Nat) : Cg p (rizF p w M q y r here a b i) (facF w M q y i * risF w M y r here a b i) := by
  unfold rizF facF
  refine (cg_mod p _).trans ?_
  cases q with
  | true =>
    rw [if_pos rfl, if_pos rfl]
    exact Cg.refl _
  | false =>
    rw [if_neg Bool.false_ne_true, if_neg Bool.false_ne_true, Int.one_mul]
    exact Cg.refl _
theorem inn_fac {M : Nat → Nat → Int} {q : Bool} {y sl : Nat → Int} (i : Nat) : Cg p (innF p w M q y sl i) (sl i * facF w M q y i) := by
  unfold innF facF
  cases q with
  | true =>
    rw [if_pos rfl, if_pos rfl]
    refine (cg_mod p _).trans ?_
    refine (Cg.mul (Cg.mull 2 (cg_mod p _)) (cg_mod p _)).trans (Cg.of_eq ?_)
    exact Int.mul_comm _ _
  | false =>
    rw [if_neg Bool.false_ne_true, if_neg Bool.false_ne_true, Int.mul_one]
    exact cg_mod p _
/-- a layer that is not the one: the product of slopes and rises is handed down -/
theorem step_back {M : Nat → Nat → Int} {q : Bool} {y r sl : Nat → Int} : Cg p (sumN w fun i => sl i * rizF p w M q y r false a b i) (sumN w fun k => backF p w M (innF p w M q y sl) k * r k) := by
  have e1 : Cg p (sumN w fun i => sl i * rizF p w M q y r false a b i) (sumN w fun i => sumN w fun k => innF p w M q y sl i * M i k * r k) := by
    refine Cg.sum fun i _ => ?_
    refine ((riz_fac i).mull (sl i)).trans ?_
    have e : risF w M y r false a b i = sumN w fun k => M i k * r k := by
      unfold risF
      rw [if_neg (fun z => Bool.false_ne_true z.1)]
      rfl
    rw [e, ← Int.mul_assoc]
    refine ((inn_fac i).symm.mulr _).trans (Cg.of_eq ?_)
    rw [← sumN_mul]
    exact sumN_congr fun k _ => (Int.mul_assoc _ _ _).symm
  refine e1.trans ?_
  rw [sumN_swap]
  refine Cg.sum fun k _ => ?_
  rw [sumN_mulr]
  exact (cg_mod p _).symm.mulr _
/-- the one layer, where no rise came in -/
theorem step_here {M : Nat → Nat → Int} {q : Bool} {y sl : Nat → Int} (ha : a < w) : Cg p (sumN w fun i => sl i * rizF p w M q y (fun _ => 0) true a b i) (innF p w M q y sl a * y b) := by
  have e1 : Cg p (sumN w fun i => sl i * rizF p w M q y (fun _ => 0) true a b i) (sumN w fun i => if i = a then innF p w M q y sl i * y b else 0) := by
    refine Cg.sum fun i _ => ?_
    refine ((riz_fac i).mull (sl i)).trans ?_
    unfold risF
    rw [dot_nought, ← Int.mul_assoc]
    by_cases h : i = a
    · rw [if_pos ⟨rfl, h⟩, if_pos h, Int.zero_add]
      exact (inn_fac i).symm.mulr _
    · rw [if_neg (fun z => h z.2), if_neg h, Int.mul_zero]
      exact Cg.refl _
  refine e1.trans (Cg.of_eq ?_)
  rw [sumN_at (fun i => innF p w M q y sl i * y b) a w, if_pos ha]
/-- from the last layer down to the one -/
theorem down {ls : Nat → Int} : ∀ j, j + L < n → Cg p (sumN w fun i => ls i * (thrF p w W s x L a b n).2 i) (sumN w fun i => slF p n w W s x ls j i * (thrF p w W s x L a b (n - j)).2 i)
  | 0, _ => Cg.refl _
  | j + 1, h => by
    refine (down j (by omega)).trans ?_
    obtain ⟨m, hm⟩ : ∃ m, n - j = m + 1 := ⟨n - j - 1, by omega⟩
    have e2 : n - (j + 1) = m := by omega
    have e3 : n - 1 - j = m := by omega
    rw [hm, e2]
    show Cg p (sumN w fun i => slF p n w W s x ls j i * rizF p w (W m) (s m) (thrF p w W s x L a b m).1 (thrF p w W s x L a b m).2 (decide (m = L)) a b i)
      (sumN w fun i => backF p w (W (n - 1 - j)) (innF p w (W (n - 1 - j)) (s (n - 1 - j)) (inpF p w W s x (n - 1 - j)) (slF p n w W s x ls j)) i * (thrF p w W s x L a b m).2 i)
    rw [e3, decide_eq_false (show ¬ m = L by omega), thr_inp m]
    exact step_back
/-- the coefficient of one example is the slope -/
theorem one_example (hL : L < n) (ha : a < w) : Cg p (sumN w fun k => 2 * ((thrF p w W s x L a b n).1 k - t k) * (thrF p w W s x L a b n).2 k) (wsF p n w W s x t L a b) := by
  have e1 : Cg p (sumN w fun k => 2 * ((thrF p w W s x L a b n).1 k - t k) * (thrF p w W s x L a b n).2 k) (sumN w fun k => lsF p (inpF p w W s x n) t k * (thrF p w W s x L a b n).2 k) := by
    refine Cg.sum fun k _ => ?_
    rw [thr_inp n]
    exact (cg_mod p _).symm.mulr _
  refine e1.trans ((down (n - 1 - L) (by omega)).trans ?_)
  have e2 : n - (n - 1 - L) = L + 1 := by omega
  rw [e2]
  show Cg p (sumN w fun i => slF p n w W s x (lsF p (inpF p w W s x n) t) (n - 1 - L) i * rizF p w (W L) (s L) (thrF p w W s x L a b L).1 (thrF p w W s x L a b L).2 (decide (L = L)) a b i) _
  rw [thr_flat L (Nat.le_refl _), decide_eq_true rfl, thr_inp L]
  exact (step_here ha).trans (cg_mod p _).symm
end
/-- THE LAW -/
theorem law_holds {p : Int} {n w : Nat} {W : Nat → Nat → Nat → Int} {s : Nat → Bool} {xs ts : Nat → Nat → Int} {L a b : Nat} (hL : L < n) (ha : a < w) :
    ∀ m, totF p n w W s xs ts m L a b = cofF p n w W s xs ts L a b m % p
  | 0 => by
    show (0 : Int) = 0 % p
    rw [Int.zero_emod]
  | m + 1 => by
    show (totF p n w W s xs ts m L a b + 1 * wsF p n w W s (xs m) (ts m) L a b) % p = (cofF p n w W s xs ts L a b m + _) % p
    refine Cg.mod (Cg.add ?_ ?_)
    · rw [law_holds hL ha m]
      exact cg_mod p _
    · rw [Int.one_mul]
      exact (one_example hL ha).symm
end K5M

/-! Rules of my own over the hand layer: sequences that are a list or a tuple, zip of any two of them, len by an own def, repr of data. -/
namespace K5
open PySem PySem.Spec PyProof.Rows L2

/-! ### a list (true) or a tuple (false) that is read -/
def SqK (c : Bool) (K : PySem.W.Frag) (H : Hp) (a : Addr) (xs : List V) : Prop :=
  match c with
  | true => SqL K H a xs
  | false => SqT K H a xs
def SrcIt (c : Bool) (h : Heap) (it a : Addr) (i : Nat) : Prop :=
  match c with
  | true => h.IsListIter it a i
  | false => h.IsTupleIter it a i
def SrcOf (c : Bool) (h : Heap) (a : Addr) (items : Array Value) : Prop :=
  match c with
  | true => h.IsList a items
  | false => h.IsTuple a items
def srcObj (c : Bool) (a : Addr) : Obj :=
  match c with
  | true => { cls := .type "list_iterator", data := .fields #[.ref a, .int 0 0] }
  | false => { cls := .type "tuple_iterator", data := .fields #[.ref a, .int 0 0] }
theorem src_draws {prog : Program} {w : World} {A : Around} (c : Bool) (hh : A.handled = none) (it a : Addr) (hne : a ≠ it) (items : Array Value) :
    Draws prog w A it [it, a] items.size (fun i v => items[i]? = some v) (fun i h => SrcIt c h it a i ∧ SrcOf c h a items) := by
  cases c with
  | true => exact Draws.list hh it a hne items
  | false => exact Draws.tuple hh it a hne items
theorem src_begins (c : Bool) (a : Addr) (items : Array Value) : Begins (.ref a) (srcObj c a) fun h => SrcOf c h a items := by
  cases c with
  | true => exact begins_list a items
  | false => exact begins_tuple a items
theorem src_new {c : Bool} {h : Heap} {it a : Addr} (e : h.get? it = some (srcObj c a)) : SrcIt c h it a 0 := by
  cases c with
  | true => exact ⟨_, e, rfl, rfl⟩
  | false => exact ⟨_, e, rfl, rfl⟩
theorem src_obj {c : Bool} {h : Heap} {it a : Addr} {i : Nat} (st : SrcIt c h it a i) : ∃ o, h.get? it = some o ∧ ∀ v, o.data ≠ .cell v := by
  cases c with
  | true =>
    obtain ⟨o, e, _, d⟩ := st
    exact ⟨o, e, fun v q => by rw [d] at q; cases q⟩
  | false =>
    obtain ⟨o, e, _, d⟩ := st
    exact ⟨o, e, fun v q => by rw [d] at q; cases q⟩
theorem src_at {c : Bool} {h h' : Heap} {it a : Addr} {i : Nat} (st : SrcIt c h it a i) (k : ∀ o, h.get? it = some o → h'.get? it = some o) : SrcIt c h' it a i := by
  cases c with
  | true => exact st.at k
  | false => exact st.at k
section
variable {X : Cx} {pins : List (Addr × Obj)} {σ : L2.St} {H : Hp} {s : Shared} {a : Addr} {xs ys : List V}
theorem sqk_its {c : Bool} (I : Inv X pins σ H s) (h : SqK c X.K H a xs) : ∃ its : List Value, Vals xs its ∧ SrcOf c s.heap a its.toArray ∧ a < s.heap.objs.size := by
  cases c with
  | true =>
    obtain ⟨its, rv, p, _⟩ := I.list h
    exact ⟨its, rv, p.isList, p.lt⟩
  | false =>
    obtain ⟨its, rv, p, _⟩ := I.tuple h
    obtain ⟨o, ho, _⟩ := id p
    exact ⟨its, rv, (show s.heap.IsTuple a its.toArray from p), Heap.lt_size ho⟩
theorem sqk_inj {c : Bool} (I : Inv X pins σ H s) (h : SqK c X.K H a xs) (h' : SqK c X.K H a ys) : xs = ys := by
  cases c with
  | true => exact I.list_inj h h'
  | false => exact I.tuple_inj h h'
end

/-! ### zip of any two -/
def ItzM (K : PySem.W.Frag) (c d : Bool) (a b : Addr) : It where
  go := fun i H => ∃ (xs ys : List V) (x y : V), SqK c K H a xs ∧ SqK d K H b ys ∧ xs[i]? = some x ∧ ys[i]? = some y
  yld := fun i H v H' => ∃ T x y, v = .ref T ∧ H T = none ∧ H' = upd H T (.tup [x, y]) ∧ (∀ xs, SqK c K H a xs → xs[i]? = some x) ∧ ∀ ys, SqK d K H b ys → ys[i]? = some y
  stop := fun i H => ∃ xs ys : List V, SqK c K H a xs ∧ SqK d K H b ys ∧ i ≤ xs.length ∧ i ≤ ys.length ∧ (i = xs.length ∨ i = ys.length)
/-- the cells of such a zip -/
def zfp (z TI TO i1 i2 : Addr) : List Addr := [z, TI, TO, i1, i2]
theorem mem_zfp {z TI TO i1 i2 b : Addr} (h : b ∈ zfp z TI TO i1 i2) : b = z ∨ b = TI ∨ b = TO ∨ b = i1 ∨ b = i2 := by
  unfold zfp at h
  simpa using h
theorem turn_zipM {P : Program} {w : World} {K : PySem.W.Frag} {elts : List Expr} {kk : Nat} {tpos : Pos} {c d : Bool} {a b z TI TO i1 i2 : Addr} (D : ZipSep2 z TI TO i1 i2 [i1, a] [i2, b]) (hn1 : a ≠ i1) (hn2 : b ≠ i2) :
    Turn P w K (.Tuple elts kk tpos) (ItzM K c d a b) (zfp z TI TO i1 i2) z
      (fun i h => IsZip h z TI TO .none ∧ IsTupOf2 h TI (.ref i1) (.ref i2) ∧ (∃ x y, IsTupOf2 h TO x y) ∧ SrcIt c h i1 a i ∧ SrcIt d h i2 b i) where
  mem := by simp [zfp]
  obj := fun i h st q hq => by
    obtain ⟨hz, hTI, ⟨x, y, hTO⟩, s1, s2⟩ := st
    rcases mem_zfp hq with e | e | e | e | e
    · rw [e]; exact ⟨_, hz, fun v q => nomatch q⟩
    · rw [e]; exact ⟨_, hTI, fun v q => nomatch q⟩
    · rw [e]; exact ⟨_, hTO, fun v q => nomatch q⟩
    · rw [e]; exact src_obj s1
    · rw [e]; exact src_obj s2
  keep := fun i h h' st k => by
    obtain ⟨hz, hTI, ⟨x, y, hTO⟩, s1, s2⟩ := st
    exact ⟨k z (by simp [zfp]) _ hz, k TI (by simp [zfp]) _ hTI, ⟨x, y, k TO (by simp [zfp]) _ hTO⟩, src_at s1 fun o q => k i1 (by simp [zfp]) o q, src_at s2 fun o q => k i2 (by simp [zfp]) o q⟩
  item := by
    intro X hP hw hK hc i pins s σ H E I hf st hg
    subst hP hw hK
    obtain ⟨hz, hTI, ⟨x0, y0, hTO⟩, s1, s2⟩ := st
    obtain ⟨xs, ys, x, y, hqx, hqy, hx, hy⟩ := hg
    obtain ⟨its, rv, p1, la⟩ := sqk_its I hqx
    obtain ⟨jts, rw', p2, lb⟩ := sqk_its I hqy
    obtain ⟨u, hu, ru⟩ := rv.get hx
    obtain ⟨u', hu', ru'⟩ := rw'.get hy
    have hzl : z < s.heap.objs.size := Heap.lt_size hz
    have D1 := src_draws (prog := X.prog) (w := X.w) (A := X.A.in1) c (I.ok.hd hc) i1 a hn1 its.toArray
    have D2 := src_draws (prog := X.prog) (w := X.w) (A := X.A.in1) d (I.ok.hd hc) i2 b hn2 jts.toArray
    have k1 : i < its.toArray.size := by
      have := (List.getElem?_eq_some_iff.mp hu).1
      simpa using this
    have k2 : i < jts.toArray.size := by
      have := (List.getElem?_eq_some_iff.mp hu').1
      simpa using this
    refine wpAny_pyNext_zipD2_item D D1 D2 hz hTI hTO ⟨s1, p1⟩ ⟨s2, p2⟩ k1 k2 fun v1 v2 h' tk y1 y2 z' TO' t1 t2 hT hsz hk => ?_
    have ev1 : v1 = u := by
      have q : its.toArray[i]? = some v1 := y1
      rw [List.getElem?_toArray, hu] at q
      exact (Option.some.inj q).symm
    have ev2 : v2 = u' := by
      have q : jts.toArray[i]? = some v2 := y2
      rw [List.getElem?_toArray, hu'] at q
      exact (Option.some.inj q).symm
    subst ev1 ev2
    refine ⟨_, rfl, wpAny_letOwnedTupleGo_zip (s := { s with heap := h', toks := tk }) z' fun h'' z'' sb => ?_⟩
    have hT2 : h''.get? s.heap.objs.size = some { cls := .type "tuple", data := .seq #[v1, v2] } := (sb.2 _ (Nat.ne_of_gt hzl)).trans hT
    have new : ObjOk X.prog X.w (upd H s.heap.objs.size (.tup [x, y])) h'' s.heap.objs.size (.tup [x, y]) :=
      ⟨by show 2 ≤ sizeLine; decide, [v1, v2], .cons ru (.cons ru' .nil), ⟨_, hT2, rfl, _, rfl⟩⟩
    have keepz : ∀ q o, q ∉ zfp z TI TO i1 i2 → s.heap.get? q = some o → h''.get? q = some o := fun q o hb e =>
      (sb.2 q (fun z0 => hb (by simp [zfp, z0]))).trans (hk q o (fun z0 => hb (by simp [zfp, z0])) (fun z0 => hb (by simp [zfp, z0])) (fun z0 => hb (by simp [zfp, z0])) (fun z0 => hb (by simp [zfp, z0])) e)
    have I1 : Inv X pins σ (upd H s.heap.objs.size (.tup [x, y])) { s with heap := h'', toks := tk } :=
      I.turnedNew (t' := tk) (ch := zfp z TI TO i1 i2) keepz hf (Nat.le_refl _) new
    have inj1 : ∀ l, SqK c X.K H a l → l[i]? = some x := fun l hl => by rw [sqk_inj I hl hqx]; exact hx
    have inj2 : ∀ l, SqK d X.K H b l → l[i]? = some y := fun l hl => by rw [sqk_inj I hl hqy]; exact hy
    refine ⟨.ref s.heap.objs.size, _, I1, rfl, ⟨_, x, y, rfl, I.hok.fresh (Nat.le_refl _), rfl, inj1, inj2⟩, ⟨z'', ?_, ⟨v1, v2, ?_⟩, ?_, ?_⟩, fun q hq => ?_⟩
    · exact (sb.2 _ D.TIz).trans (hk _ _ D.TIz D.TITO D.TIi1 D.TIi2 hTI)
    · exact (sb.2 _ D.TOz).trans TO'
    · exact src_at t1.1 fun o q => (sb.2 _ D.zi1.symm).trans q
    · exact src_at t2.1 fun o q => (sb.2 _ D.zi2.symm).trans q
    · have hlt : q < s.heap.objs.size := by
        obtain ⟨o1, e1, _⟩ := src_obj s1
        obtain ⟨o2, e2, _⟩ := src_obj s2
        rcases mem_zfp hq with e | e | e | e | e
        · rw [e]; exact hzl
        · rw [e]; exact Heap.lt_size hTI
        · rw [e]; exact Heap.lt_size hTO
        · rw [e]; exact Heap.lt_size e1
        · rw [e]; exact Heap.lt_size e2
      rw [upd_ne (Nat.ne_of_lt hlt)]
      exact (hf q hq).1
  done := by
    intro X hP hw hK hc i pins s σ H E I hf st hg
    subst hP hw hK
    obtain ⟨hz, hTI, ⟨x0, y0, hTO⟩, s1, s2⟩ := st
    obtain ⟨xs, ys, hqx, hqy, le1, le2, hend⟩ := hg
    obtain ⟨its, rv, p1, la⟩ := sqk_its I hqx
    obtain ⟨jts, rw', p2, lb⟩ := sqk_its I hqy
    have l1 := rv.length
    have l2 := rw'.length
    have D1 := src_draws (prog := X.prog) (w := X.w) (A := X.A.in1) c (I.ok.hd hc) i1 a hn1 its.toArray
    have D2 := src_draws (prog := X.prog) (w := X.w) (A := X.A.in1) d (I.ok.hd hc) i2 b hn2 jts.toArray
    have m1 : its.toArray.size = xs.length := by simp [l1]
    have m2 : jts.toArray.size = ys.length := by simp [l2]
    refine wpAny_pyNext_zipD2_end D D1 D2 hz hTI hTO ⟨s1, p1⟩ ⟨s2, p2⟩ (by omega) (by omega) (by omega) fun h' tk hk => ⟨rfl, ?_⟩
    exact I.turnedL (t' := tk) (ch := zfp z TI TO i1 i2) (fun q o hb e =>
      hk q o (fun z0 => hb (by simp [zfp, z0])) (fun z0 => hb (by simp [zfp, z0])) (fun z0 => hb (by simp [zfp, z0])) (fun z0 => hb (by simp [zfp, z0])) e) hf
  self := fun A i s Q E st h => wpAny_pyIter_zip st.1 h

/-- zip(e1, e2), each a list or a tuple -/
def iZipM (K : PySem.W.Frag) (ta : TA) : TI := fun σ H R => ta σ H fun vs H1 => ∃ a b c d xs ys, vs = [.ref a, .ref b] ∧ SqK c K H1 a xs ∧ SqK d K H1 b ys ∧ R (ItzM K c d a b) H1
theorem pi_zipM {X : Cx} {e e2 : Expr} {ta : TA} {p pos tpos : Pos} {elts : List Expr} {kk : Nat} (hg : Gl X "zip") (hm : X.mg "zip" = none) (ha : PA X [e, e2] ta)
    (hs : starEach [e, e2] X.env = (false, eval e X.env) :: starEach [e2] X.env := by rfl) (hpl : (backTo pos (starEach [e2] X.env)).any (·.1) = false := by rfl) :
    PI X (.Tuple elts kk tpos) (.Call (.Name "zip" p) [e, e2] [] pos) (iZipM X.K ta) := by
  refine ⟨fun pins s σ H R I h => ?_⟩
  refine Call_ (ld_blt I hg hm PyProof.Rows.boot_zip (PyProof.Rows.callWith_type1 (thn (ha.run pos pins s σ H _ I h) fun us s1 ⟨vs, H1, I1, r1, q1⟩ => ?_) hs hpl))
  obtain ⟨a, b, c, d, xs, ys, ex, hqx, hqy, q⟩ := q1
  subst ex
  obtain ⟨u, u', rfl, ra, rb⟩ := vals2 r1
  obtain rfl : u = Value.ref a := ra
  obtain rfl : u' = Value.ref b := rb
  obtain ⟨its, rv, p1, la⟩ := sqk_its I1 hqx
  obtain ⟨jts, rw', p2, lb⟩ := sqk_its I1 hqy
  refine zip_begins2 (src_begins c a its.toArray) (src_begins d b jts.toArray) p1 p2 fun h' hz hTI hTO h1 h2 hsz hk => wpAny_pyIter_zip hz ?_
  have I2 : Inv X pins σ H1 { s1 with heap := h' } := I1.kept (t' := s1.toks) hk
  have na : a ≠ s1.heap.objs.size := Nat.ne_of_lt la
  have nb : b ≠ s1.heap.objs.size + 1 := Nat.ne_of_lt (Nat.lt_succ_of_lt lb)
  refine ⟨s1.heap.objs.size + 4, zfp (s1.heap.objs.size + 4) (s1.heap.objs.size + 2) (s1.heap.objs.size + 3) s1.heap.objs.size (s1.heap.objs.size + 1), _, _, H1, rfl, I2,
    turn_zipM (zip_sep2 (fp1 := [a]) (fp2 := [b]) (fun y hy => by rw [List.mem_singleton.mp hy]; exact la) (fun y hy => by rw [List.mem_singleton.mp hy]; exact lb)) na nb,
    ⟨hz, hTI, ⟨_, _, hTO⟩, src_new h1, src_new h2⟩, fun y hy => ?_, q⟩
  have hle : s1.heap.objs.size ≤ y := by
    rcases mem_zfp hy with e | e | e | e | e
    · rw [e]; exact Nat.le_add_right _ _
    · rw [e]; exact Nat.le_add_right _ _
    · rw [e]; exact Nat.le_add_right _ _
    · rw [e]; exact Nat.le_refl _
    · rw [e]; exact Nat.le_add_right _ _
  exact I1.fpOk hle (I1.hok.fresh hle)
theorem walk_zipM {K : PySem.W.Frag} {c d : Bool} {a b : Addr} {xs ys : List V} {n : Nat} (h1 : xs.length = n) (h2 : ys.length = n) :
    Walk (ItzM K c d a b) n (fun H => SqK c K H a xs ∧ SqK d K H b ys) (YPair (fun i => xs[i]?) (fun i => ys[i]?)) := by
  refine ⟨fun i _ hi q => ?_, fun _ q => ⟨xs, ys, q.1, q.2, by omega, by omega, by omega⟩, fun i H v H' _ q y => ?_⟩
  · have k1 : i < xs.length := by omega
    have k2 : i < ys.length := by omega
    exact ⟨xs, ys, xs[i], ys[i], q.1, q.2, by simp [k1], by simp [k2]⟩
  · obtain ⟨T, x, z, e1, e2, e3, e4, e5⟩ := y
    exact ⟨T, x, z, e1, e2, e3, e4 xs q.1, e5 ys q.2⟩

/-! ### a list or a tuple walked, unpacked -/
def ItM (K : PySem.W.Frag) (c : Bool) (a : Addr) : It :=
  match c with
  | true => Itl K a
  | false => Itt K a
def iSeq (K : PySem.W.Frag) (tl : TE) : TI := fun σ H R => tl σ H fun x H1 => ∃ a c, x = .ref a ∧ (∃ xs, SqK c K H1 a xs) ∧ R (ItM K c a) H1
theorem pi_seq {X : Cx} {tg l : Expr} {tl : TE} (hl : PE X l tl) : PI X tg l (iSeq X.K tl) := by
  refine ⟨fun pins s σ H R I h => ?_⟩
  refine thn (hl.run pins s σ H _ I h) fun v s1 ⟨x, H1, I1, r1, q1⟩ => ?_
  obtain ⟨a, c, ex, hq, q⟩ := q1
  subst ex
  obtain rfl : v = Value.ref a := r1
  cases c with
  | true =>
    obtain ⟨xs, hx⟩ := hq
    obtain ⟨its, rv, p, hz⟩ := I1.list hx
    refine wpAny_pyIter_list p.isList ?_
    refine ⟨s1.heap.objs.size, [s1.heap.objs.size], _, _, H1, rfl, I1.kept (t' := s1.toks) fun b o e => Heap.get?_push_of_some _ e, turn_list a _, ⟨_, Heap.get?_push_size _ rfl, rfl, rfl⟩, fun b hb => ?_, q⟩
    rw [List.mem_singleton.mp hb]
    exact I1.fpOk (Nat.le_refl _) (I1.hok.fresh (Nat.le_refl _))
  | false =>
    obtain ⟨xs, hx⟩ := hq
    obtain ⟨its, rv, p, hz⟩ := I1.tuple hx
    refine wpAny_pyIter_tuple (show s1.heap.IsTuple a its.toArray from p) ?_
    refine ⟨s1.heap.objs.size, [s1.heap.objs.size], _, _, H1, rfl, I1.kept (t' := s1.toks) fun b o e => Heap.get?_push_of_some _ e, turn_tuple a _, ⟨_, Heap.get?_push_size _ rfl, rfl, rfl⟩, fun b hb => ?_, q⟩
    rw [List.mem_singleton.mp hb]
    exact I1.fpOk (Nat.le_refl _) (I1.hok.fresh (Nat.le_refl _))
theorem walk_seq {K : PySem.W.Frag} {c : Bool} {a : Addr} {xs : List V} {n : Nat} (hn : xs.length = n) : Walk (ItM K c a) n (fun H => SqK c K H a xs) (YAt xs) := by
  subst hn
  cases c with
  | true => exact walk_list
  | false => exact walk_tup
/-- (x, y, ..) = a list or a tuple of that length -/
def gSeq (K : PySem.W.Frag) (n : Nat) (t : TGs) : TG := fun v σ H Q => ∃ a c xs, v = .ref a ∧ SqK c K H a xs ∧ xs.length = n ∧ t xs σ H Q
theorem pg_seq {X : Cx} {pos : Pos} {es : List Expr} {k : Nat} {t : TGs} {n : Nat} (hc : X.calm = true) (h : PGs X es t)
    (hn : (assignEach es X.env).length = n := by rfl) (hst : (assignEach es X.env).findIdx? (·.1) = none := by rfl) : PG X (.Tuple es k pos) (gSeq X.K n t) := by
  refine ⟨fun pins s σ H v u Q I r hw => ?_⟩
  obtain ⟨a, c, xs, ev, hq, hl, q⟩ := hw
  cases c with
  | true => exact (pg_unl hc h hn hst).run pins s σ H v u Q I r ⟨a, xs, ev, hq, hl, q⟩
  | false => exact (pg_tup hc h hn hst).run pins s σ H v u Q I r ⟨a, xs, ev, hq, hl, q⟩
end K5

/-! len by an own def, repr of data, a short tuple times a number, the end of a law whose body asks that nothing is being shown. -/
namespace K5
open PySem PySem.Spec PyProof.Rows L2

/-! ### len(x) by the class's own def -/
section
variable {X : Cx} {CX : CXT} {k : Nat} {C f : Addr} {fd : FuncData} {ps : List Str} {sp : Sp} {E : XK}
theorem call_lenO (c : Cls X.K C) (hm : Meth X.K C "__len__" f) (F : FnOk X.prog X.w X.K X.mg X.base CX k f fd ps sp) (hr : Room (k + 1) X.A) (hb : Binds X.K fd ps []) (hx : Passes CX X E) :
    CallR X (.builtin "len") (fun xs H Q => ∃ a dx fs, xs = [.ref a] ∧ H a = some (.ins C dx fs) ∧ sp [.ref a] H (fun v H' => ∃ n : Int, v = .int n ∧ (0 ≤ n ∧ n < 2 ^ 63) ∧ Q (.int n) H') E) := by
  intro pins s σ H xs us Q I r h
  obtain ⟨a, dx, fs, rfl, ea, h⟩ := h
  obtain ⟨u, rfl, ru⟩ := vals1 r
  obtain rfl : u = Value.ref a := ru
  obtain ⟨mA, O, _⟩ := ins_get I.hok ea
  obtain ⟨od, J, _⟩ := O.look
  obtain ⟨mf, fr⟩ := I.fr
  have hl : ([Value.ref a] ++ []).length = ps.length := by rw [← F.len _ _ _ _ h]; rfl
  refine PySem.W.len_K fr I.ok.mod.kin J hm.at_ hm.fn ?_
  refine wpAny_call (codeAny_mono (F.run X.A.in1 X.stack s H ⟨[.ref a], []⟩ [.ref a] [.ref a] _ E hr.in1 I.env0.in1 (hb s [.ref a] I.kIn hl) (.cons rfl .nil) h) fun r s' hq => ?_)
  cases r with
  | error e => exact hx pins σ H s e s' I hq
  | ok fl =>
    cases fl with
    | ret u =>
      obtain ⟨v, H', I3, rv, n, ev, hn, q⟩ := I.after hq
      subst ev
      obtain ⟨t, rfl⟩ := rv
      exact ⟨hn, .int n, H', I3.tok _, ⟨_, rfl⟩, q⟩
    | next => exact False.elim hq
    | brk => exact False.elim hq
    | cont => exact False.elim hq
end

/-! ### repr(x) of data, nothing being shown around -/
section
variable {X : Cx}
theorem call_reprD {k : Nat} (hg : X.A.guards = some []) (hr : Room k X.A) : CallR X (.builtin "repr") (fun xs H Q => ∃ (a : Addr) (d : PyData), xs = [.ref a] ∧ Dp X.K H (.ref a) d ∧ d.showable = true ∧ d.hasDict = false ∧ d.depth ≤ 60 ∧ d.shown.length ≤ sizeLine ∧ Q (.str d.shown) H) := by
  intro pins s σ H xs us Q I r h
  obtain ⟨a, d, rfl, hd, h1, h2, h3, h4, q⟩ := h
  obtain ⟨u, rfl, ru⟩ := vals1 r
  obtain rfl : u = Value.ref a := ru
  obtain ⟨as, rd⟩ := Dp.reads I d _ _ hd (show RelV (.ref a) (.ref a) from rfl)
  have hu := hr.units
  refine repr_of_reads' rd h1 (PyData.noDict_hsm h2) hg (by omega) (fun _ _ e => e) (fun h' u tk hk => ?_) h4
  exact ⟨.str d.shown, H, I.kept (h' := h') (t' := tk) hk, ⟨u, rfl⟩, q⟩
end

/-! ### a tuple of one item times 1, 2, .. -/
theorem tuple_mul1 (l : Addr) (items : Array Value) (n : Nat) (dd : Option Addr) (sl : Array (Option Value)) (u : Tok) :
    Meets (Builtin.«tuple.__mul__» ⟨[.ref l, .int 1 u], []⟩) (fun _ R s => s.heap.get? l = some { cls := .type "tuple", dict := dd, data := .seq items n, slots := sl } ∧ R (.ok (.ret (Value.ref l))) s) :=
  .of_wp fun prog w A R s h => by
    obtain ⟨hp, g, d, tk, os⟩ := s
    obtain ⟨hl, h⟩ := h
    have f1 := AutoSeq1.idx_int
    wp_walk using wpAny_loadPart' hl
    exact ⟨_, rfl, h⟩
/-- (v,) * k -/
def rRep1 (K : PySem.W.Frag) : R2 := fun x y H Q => ∃ (l : Addr) (k : Int) (v : V), x = .ref l ∧ y = .int k ∧ SqT K H l [v] ∧ 1 ≤ k ∧ k ≤ 1000 ∧ (k = 1 → Q (.ref l) H) ∧ (2 ≤ k → ∀ p, H p = none → Q (.ref p) (upd H p (.tup (List.replicate k.toNat v))))
theorem rep_one {α : Type} (v : α) : ∀ n : Nat, (List.replicate n [v]).flatten = List.replicate n v
  | 0 => rfl
  | n + 1 => by
    rw [List.replicate_succ, List.replicate_succ, List.flatten_cons, rep_one v n]
    rfl
section
variable {X : Cx}
theorem op_rep1 : OpR X (binaryOp .Mult) (rRep1 X.K) := by
  intro pins s σ H x y v u Q I rx ry h
  obtain ⟨l, k, z, ex, ey, hT, h1, h2, q1, q2⟩ := h
  by_cases e : k = 1
  · subst e
    subst ex ey
    obtain rfl : v = Value.ref l := rx
    obtain ⟨t, rfl⟩ := ry
    obtain ⟨its, r, ⟨⟨cls, dd, data, sl⟩, ho, hc, n, hd⟩, _⟩ := I.tuple hT
    simp only at hc hd
    subst hc hd
    exact wpAny_binaryOp_repeat_ref (T := "tuple") (U := "int") (by decide) ⟨_, ho, rfl⟩ (fun s' => typeIs_int s' 1 t) noFill_tuple_mul PySem.F.fills_int_mul PySem.F.slot_int_rmul repeat_tuple PySem.F.slot_int_index.lookup
      (call_meets PySem.F.slot_int_rmul (typeIs_int s 1 t) PySem.F.entry_int_rmul (PySem.F.args_int_rmul_2 _ _) (int_rmul_tuple 1 t l its.toArray n dd sl)
        ⟨ho, rfl, ⟨_, ho, rfl⟩, call_meets PySem.F.slot_tuple_mul ⟨_, ho, rfl⟩ PySem.F.entry_tuple_mul (PySem.F.args_tuple_mul_2 _ _) (tuple_mul1 l its.toArray n dd sl t) ⟨ho, ⟨.ref l, H, I, rfl, q1 rfl⟩⟩⟩)
  · refine op_repT pins s σ H x y v u Q I rx ry ⟨l, k, [z], ex, ey, hT, (fun q => nomatch q), by omega, h2, (by show 1 ≤ 1000; decide), fun p hp => ?_⟩
    rw [rep_one]
    exact q2 (by omega) p hp
end

/-! ### the end of a law -/
/-- a def's promise, where nothing is being shown around the call -/
def FnG (P : Program) (w : World) (K : PySem.W.Frag) (mg : Str → Option Value) (base : Heap) (k : Nat) (f : Addr) (fd : FuncData) (ps : List Str) (sp : Sp) : Prop :=
  ∀ (A : Around) (outer : List Env) (s : Shared) (H : Hp) (args : Args) (us : List Value) (vs : List V) (Q : VK), A.guards = some [] → Room k A → Env0 P w K mg base A outer s H → BindsTo s fd args (ps.zip us) → Vals vs us → sp vs H Q E0 →
    codeAny (model P w) A (.call (.ref f) args) (CR CX0 outer P w H s Q E0) s
theorem fn_ofG {P : Program} {w : World} {K : PySem.W.Frag} {mg : Str → Option Value} {base : Heap} {k : Nat} {x qual : Str} {st : Stmt} {f : Addr} {fd : FuncData} {N ps : List Str} {sp : Sp}
    (F : Fun K x qual st f fd) (S : FnScope N ps (defScope st)) (len : ∀ vs H Q E, sp vs H Q E → vs.length = ps.length)
    (hbody : ∀ (cdv : Value) (A : Around) (outer : List Env) (s : Shared) (H : Hp) (vs : List V) (Q : VK), (A.deeper (envOfC qual (defScope st) s.heap.objs.size f cdv)).guards = some [] →
      Room k (A.deeper (envOfC qual (defScope st) s.heap.objs.size f cdv)) → sp vs H Q E0 →
      ∃ t, PSs (cxOf CX0 P w K mg base N qual (defScope st) f cdv A outer s H E0).nox (defBody st) t ∧ t { nx := fun _ H' => Q .non H', rt := Q } (start N vs) H) :
    FnG P w K mg base (k + 1) f fd ps sp := by
  obtain ⟨oc, od, kV, doc, pm, an, cdv, ct, osl, rfl, lk, hcd⟩ := F.ex
  intro A outer s H args us vs Q hgd hr e0 hb r hsp
  have hl := len _ _ _ _ hsp
  have old : ∀ b o, base.get? b = some o → s.heap.get? b = some o := fun b o e => (e0.bs b o e).1
  have KX : K.In s.heap := e0.mod.kin.keeps old
  have kinds : ∀ y ∈ ps.zip us, (defScope st).names.lookup y.1 = some .local ∨ ((defScope st).names.lookup y.1 = some .cell ∧ ((cellsFrom (s.heap.objs.size + 1) (defScope st).names []).lookup y.1).isSome = true) := by
    rintro ⟨n, v⟩ hy
    refine (S.par n (List.of_mem_zip hy).1).elim (fun q => .inl q) fun q => .inr ⟨q, PySem.W.cellsFrom_some _ _ _ (.inl q)⟩
  refine codeAny_call_function hr.depth (KX _ _ lk) rfl S.co S.gen rfl (PySem.W.codeRec_of KX hcd) (hb _ _ _ _ ?_)
  refine wpAny_newFunctionEnv_cells S.kind kinds fun env he s1 ic => ?_
  subst he
  refine ⟨(e0.mod.nolimit.keeps old).keeps ic.toInCall.keep, codeAny_func ?_⟩
  obtain ⟨t, ht, hq⟩ := hbody cdv A outer s H vs Q hgd (hr.deeper _) hsp
  have I := inv_start (CX := CX0) (E := E0) (N := N) S hr.hd e0 hl r ic
  refine wpAny_mono (ht.nox.run [] s1 (start N vs) H _ I hq) (fun fl s' hs => ?_) fun e s' hs => hs
  cases fl with
  | ret u =>
    obtain ⟨v, σ', H', J, rv, q⟩ := hs
    exact ⟨v, H', J.os, J.bare, J.base, J.hok, rv, q⟩
  | next =>
    obtain ⟨σ', H', J, q⟩ := hs
    exact ⟨.non, H', J.os, J.bare, J.base, J.hok, rfl, q⟩
  | brk => exact hs.elim fun _ z => z.elim fun _ z => False.elim z.2
  | cont => exact hs.elim fun _ z => z.elim fun _ z => False.elim z.2

/-- the script as it lies at the call: known to the object, read alone -/
def scrHp (a : Addr) (o : Obj) (ns : List Int) : Hp := fun b => if b = a then some (.frz o (.lst (ns.map V.int))) else none
theorem call_true {P : Program} {w : World} {K : PySem.W.Frag} {mg mb : Str → Option Value} {k : Nat} {fa a : Addr} {fd : FuncData} {x : Str} {sp : Sp} {s1 : Shared} {vs : List Value} {ns : List Int}
    (KX : K.In s1.heap) (hns : s1.heap.Ns mainGlobals mg) (hb : s1.heap.Ns builtinsNs mb) (hbb : ∀ x : Str, x ≠ "__name__" → mb x = bootBuiltins x) (hlim : s1.heap.NoLimit) (hg : s1.gens = #[])
    (ha : s1.heap.get? a = some { cls := .type "list", data := .seq vs.toArray }) (hi : IntsAre vs ns) (hl : ns.length ≤ sizeLine) (hr : Room k callerA)
    (F : ∀ base : Heap, K.In base → base.Ns mainGlobals mg → FnG P w K mg base k fa fd [x] sp) (hbind : ∀ (s : Shared) (u : Value), BindsTo s fd ⟨[u], []⟩ [(x, u)])
    (hsp : ∀ H : Hp, Only H → SqL K H a (ns.map V.int) → sp [.ref a] H (fun v _ => v = .bl true) E0) :
    codeAny (model P w) callerA (.call (.ref fa) ⟨[.ref a], []⟩) (fun r s' => r = .ok (.ret (.bool true)) ∧ OldK s1.heap s'.heap ∧ s'.os = s1.os ∧ AllBare s'.gens) s1 := by
  have rv := vals_ints hi
  have lenV := hi.length
  have core : ∀ H : Hp, Only H → SqL K H a (ns.map V.int) → HOk P w H s1.heap → (∀ b, H b ≠ none → b = a ∧ K.lookup a = none) →
      codeAny (model P w) callerA (.call (.ref fa) ⟨[.ref a], []⟩) (fun r s' => r = .ok (.ret (.bool true)) ∧ OldK s1.heap s'.heap ∧ s'.os = s1.os ∧ AllBare s'.gens) s1 := by
    intro H hO hS hok hA
    have dictFree : ∀ {b : Addr} {o : Obj} {es : Array DictEntry} {ep : Nat}, s1.heap.get? b = some o → o.data = .dict es ep → H b = none := by
      intro b o es ep e d
      refine Decidable.byContradiction fun q => ?_
      obtain ⟨rfl, _⟩ := hA b q
      rw [ha] at e
      cases e
      cases (show Data.seq vs.toArray _ = Data.dict es ep from d)
    have nsK : ∀ {b : Addr} {m : Str → Option Value}, s1.heap.Ns b m → (hidT s1.heap H).Ns b m := by
      rintro b m ⟨o, es, ep, e, d, r⟩
      exact ⟨o, es, ep, hidT_get e (dictFree e d), d, r⟩
    have hKb : K.In (hidT s1.heap H) := by
      intro b o e
      refine hidT_get (KX b o e) (Decidable.byContradiction fun q => ?_)
      obtain ⟨rfl, z⟩ := hA b q
      rw [z] at e
      cases e
    have hM : Mod K mg (hidT s1.heap H) := ⟨hKb, nsK hns, ⟨mb, nsK hb, hbb⟩, hlim.elim fun mc z => ⟨mc, nsK z.1, z.2⟩⟩
    have e0 : Env0 P w K mg (hidT s1.heap H) callerA [] s1 H :=
      ⟨rfl, hM, fun b o e => of_hidT e, Nat.le_of_eq (hidT_size _ _), trivial, fun b z => absurd (show b ∈ ([] : List Addr) from z) (by simp), hok, .of_eq hg⟩
    refine codeAny_mono (F _ hKb (nsK hns) callerA [] s1 H ⟨[.ref a], []⟩ [.ref a] [.ref a] _ rfl hr e0 (hbind s1 (.ref a)) (.cons rfl .nil) (hsp H hO hS)) fun r s' h => ?_
    cases r with
    | error e => exact False.elim h
    | ok fl =>
      cases fl with
      | next => exact False.elim h
      | brk => exact False.elim h
      | cont => exact False.elim h
      | ret u =>
        obtain ⟨v, H', os, bare, un, hok', r', q⟩ := h
        obtain rfl : v = .bl true := q
        obtain rfl : u = Value.bool true := r'
        refine ⟨rfl, OldK.of_keep fun b o e => ?_, os, bare⟩
        rcases hO b with z | ⟨ob, xs, z⟩
        · exact un.keep b o e z (by intro y; exact absurd (show b ∈ ([] : List Addr) from y) (by simp)) (by simp)
        · obtain ⟨e1, _⟩ := hok b _ z
          obtain ⟨e2, _⟩ := hok' b _ (un.frzs b ob _ z)
          rw [e] at e1
          cases e1
          exact e2
  cases hk : K.lookup a with
  | some o =>
    have e := KX a o hk
    rw [ha] at e
    cases e
    exact core (fun _ => none) (fun _ => .inl rfl) (.inr ⟨_, vs.toArray, _, hk, rfl, rfl, rfl, by rw [List.size_toArray, lenV]; exact hl, by simpa using rv⟩) (fun b u z => nomatch z) fun b z => absurd rfl z
  | none =>
    have hat : scrHp a { cls := .type "list", data := .seq vs.toArray } ns a = some (.frz { cls := .type "list", data := .seq vs.toArray } (.lst (ns.map V.int))) := if_pos rfl
    have off : ∀ b, b ≠ a → scrHp a { cls := .type "list", data := .seq vs.toArray } ns b = none := fun b h => if_neg h
    refine core (scrHp a { cls := .type "list", data := .seq vs.toArray } ns) (fun b => ?_) (.inl (.inr ⟨_, hat⟩)) (fun b u z => ?_) fun b z => ?_
    · by_cases h : b = a
      · rw [h]
        exact .inr ⟨_, _, hat⟩
      · exact .inl (off b h)
    · by_cases h : b = a
      · subst h
        rw [hat] at z
        cases z
        exact ⟨ha, by rw [List.length_map]; exact hl, vs, _, rv, ha⟩
      · rw [off b h] at z
        cases z
    · by_cases h : b = a
      · exact ⟨h, hk⟩
      · exact absurd (off b h) z
/-- what k_head leaves, from such a promise of the law's def -/
theorem walk_ofG {l : PySem.W.OpenLaw} {n k : Nat} {q : Program} {loose : List Str} {XP : (Str → Option Value) → Heap → Prop} {YP : World → Heap → Prop} {d : DefRec} {K : Params → PySem.W.Frag} {sp : World → Sp} {x : Str}
    (hn : l.most = some n) (hn2 : n ≤ sizeLine) (hdf : d.params.defaults = []) (hr : Room k callerA)
    (hY : ∀ (w : World) (h : Heap), YP w h → (K w.params).In h)
    (F : ∀ (w : World) (mg : Str → Option Value) (fa : Addr) (h : Heap), (K w.params).In h → h.Ns mainGlobals mg → mg d.name = some (.ref fa) →
      ∃ fd : FuncData, (∀ (s : Shared) (u : Value), BindsTo s fd ⟨[u], []⟩ [(x, u)]) ∧
        ∀ base : Heap, (K w.params).In base → base.Ns mainGlobals mg → FnG l.prog w (K w.params) mg base k fa fd [x] (sp w))
    (hsp : ∀ (w : World) (H : Hp) (a : Addr) (ns : List Int), ns.length ≤ n → (∀ z ∈ ns, Builtin.Int.intBits z ≤ 1048576) → Only H → SqL (K w.params) H a (ns.map V.int) → sp w [.ref a] H (fun v _ => v = .bl true) E0) :
    PySem.W.WalkO q loose XP YP l.row.toRowW d [] (fun f vs => PySem.call f vs) := by
  refine Att.attach_callB hn hdf fun w s₀ s1 mg mb fa o pm cd doc a vs ns G Y ho hd hcd hmg hobj hints hlen hbits hg => ?_
  have KX := hY w _ Y
  obtain ⟨fd, hb, hF⟩ := F w mg fa _ KX G.T.g hmg
  exact call_true KX G.T.g G.T.b G.T.builtins G.T.nolimit hg hobj hints (Nat.le_trans hlen hn2) hr hF hb fun H hO hS => hsp w H a ns hlen hbits hO hS
end K5

/-! How vectors, matrices, nets and portions lie in the heap; comprehensions whose elements leave what stood. -/
namespace K5
open PySem PySem.Spec PyProof.Rows L2 K5M

/-! ### rows -/
def ivs (n : Nat) (f : Nat → Int) : List V := (List.range n).map fun i => .int (f i)
theorem ivs_len (n : Nat) (f : Nat → Int) : (ivs n f).length = n := by simp [ivs]
theorem ivs_get {n : Nat} {f : Nat → Int} {i : Nat} (h : i < n) : (ivs n f)[i]? = some (.int (f i)) := by simp [ivs, h]
theorem ivs_at {n : Nat} {f : Nat → Int} {i : Nat} {x : V} (h : i < n) (e : (ivs n f)[i]? = some x) : x = .int (f i) := by
  rw [ivs_get h] at e
  exact (Option.some.inj e).symm
theorem ivs_succ (n : Nat) (f : Nat → Int) : ivs (n + 1) f = ivs n f ++ [.int (f n)] := by simp [ivs, List.range_succ]
theorem ivs_ints (n : Nat) (f : Nat → Int) : ivs n f = ((List.range n).map f).map V.int := by simp [ivs]
theorem ivs_congr {n : Nat} {f g : Nat → Int} (h : ∀ i, i < n → f i = g i) : ivs n f = ivs n g := by
  unfold ivs
  exact List.map_congr_left fun i hi => by rw [h i (List.mem_range.mp hi)]
theorem sum_range (f : Nat → Int) : ∀ n, ((List.range n).map f).sum = sumN n f
  | 0 => rfl
  | n + 1 => by
    rw [List.range_succ, List.map_append, List.sum_append, sum_range f n]
    show sumN n f + (f n + 0) = sumN n f + f n
    rw [Int.add_zero]
def RowsR (R : V → Nat → Prop) (n : Nat) (vs : List V) : Prop := vs.length = n ∧ ∀ i u, vs[i]? = some u → R u i
theorem RowsR.mono {R R' : V → Nat → Prop} {n : Nat} {vs : List V} (h : RowsR R n vs) (k : ∀ u i, i < n → R u i → R' u i) : RowsR R' n vs :=
  ⟨h.1, fun i u e => k u i (by have := (List.getElem?_eq_some_iff.mp e).1; have := h.1; omega) (h.2 i u e)⟩
theorem RowsR.nil (R : V → Nat → Prop) : RowsR R 0 [] := ⟨rfl, fun i u e => by simp at e⟩
theorem RowsR.snoc {R : V → Nat → Prop} {n : Nat} {vs : List V} {y : V} (h : RowsR R n vs) (hy : R y n) : RowsR R (n + 1) (vs ++ [y]) := by
  refine ⟨by rw [List.length_append, h.1]; rfl, fun i u e => ?_⟩
  by_cases hi : i < vs.length
  · rw [List.getElem?_append_left hi] at e
    exact h.2 i u e
  · have hl : i < (vs ++ [y]).length := (List.getElem?_eq_some_iff.mp e).1
    rw [List.length_append, List.length_singleton] at hl
    have : i = vs.length := by omega
    subst this
    rw [List.getElem?_append_right (Nat.le_refl _), Nat.sub_self] at e
    have e' : y = u := Option.some.inj e
    rw [← e', h.1]
    exact hy
theorem RowsR.ints {n : Nat} {f : Nat → Int} {vs : List V} (h : RowsR (fun u i => u = .int (f i)) n vs) : vs = ivs n f := by
  apply List.ext_getElem?
  intro i
  by_cases hi : i < n
  · have hl : i < vs.length := by rw [h.1]; exact hi
    have e : vs[i]? = some vs[i] := List.getElem?_eq_getElem hl
    rw [e, ivs_get hi, h.2 i _ e]
  · rw [List.getElem?_eq_none (by rw [h.1]; omega), List.getElem?_eq_none (by rw [ivs_len]; omega)]
theorem rows_ivs (n : Nat) (f : Nat → Int) : RowsR (fun u i => u = .int (f i)) n (ivs n f) := by
  refine ⟨ivs_len n f, fun i u e => ?_⟩
  have hi : i < n := by
    have := (List.getElem?_eq_some_iff.mp e).1
    rw [ivs_len] at this
    exact this
  rw [ivs_get hi] at e
  exact (Option.some.inj e).symm
theorem RowsR.at {R : V → Nat → Prop} {n : Nat} {vs : List V} (h : RowsR R n vs) {i : Nat} (hi : i < n) : ∃ u, vs[i]? = some u ∧ R u i := by
  have hl : i < vs.length := by rw [h.1]; exact hi
  exact ⟨vs[i], List.getElem?_eq_getElem hl, h.2 i _ (List.getElem?_eq_getElem hl)⟩

/-! ### heaps: what stays -/
/-- every tuple stays -/
def KeepT (K : PySem.W.Frag) (H H' : Hp) : Prop := ∀ a xs, SqT K H a xs → SqT K H' a xs
/-- all stays but what stands at h -/
def But (h : Addr) (H H' : Hp) : Prop := ∀ b o, b ≠ h → H b = some o → H' b = some o
theorem KeepT.refl (K : PySem.W.Frag) (H : Hp) : KeepT K H H := fun _ _ h => h
theorem KeepT.trans {K : PySem.W.Frag} {H H1 H2 : Hp} (a : KeepT K H H1) (b : KeepT K H1 H2) : KeepT K H H2 := fun c o h => b c o (a c o h)
theorem rdt_of {H H' : Hp} {a : Addr} {xs : List V} (k : ∀ o, H a = some o → H' a = some o) (h : Rd H a (.tup xs)) : Rd H' a (.tup xs) :=
  h.elim (fun e => .inl (k _ e)) fun ⟨o, e⟩ => .inr ⟨o, k _ e⟩
theorem Same.keepT {K : PySem.W.Frag} {H H' : Hp} (e : Same H H') : KeepT K H H' := fun a xs h =>
  h.elim (fun r => .inl (rdt_of (fun o q => e a o q) r)) fun r => .inr r
/-- a thing that is no tuple may change -/
theorem keepT_upd {K : PySem.W.Frag} {H : Hp} {D : Addr} {o o' : HO} (e : H D = some o) (n1 : ∀ xs, o ≠ .tup xs) (n2 : ∀ ob xs, o ≠ .frz ob (.tup xs)) : KeepT K H (upd H D o') := fun a xs h => by
  refine h.elim (fun r => .inl ?_) fun r => .inr r
  rcases r with r | ⟨ob, r⟩
  · have hne : a ≠ D := by
      rintro rfl
      rw [e] at r
      exact n1 xs (Option.some.inj r)
    exact .inl (by rw [upd_ne hne]; exact r)
  · have hne : a ≠ D := by
      rintro rfl
      rw [e] at r
      exact n2 ob xs (Option.some.inj r)
    exact .inr ⟨ob, by rw [upd_ne hne]; exact r⟩
theorem keepT_lst {K : PySem.W.Frag} {H : Hp} {D : Addr} {xs : List V} {o' : HO} (e : H D = some (.lst xs)) : KeepT K H (upd H D o') := keepT_upd e (fun _ => nofun) fun _ _ => nofun
theorem same_new {H : Hp} {p : Addr} {o : HO} (h : H p = none) : Same H (upd H p o) := fun b x e => by
  rw [upd_ne (ne_of_none e h)]
  exact e
/-- what was not there may change -/
theorem same_upd {H H' : Hp} {p : Addr} {o : HO} (e : Same H H') (h : H p = none) : Same H (upd H' p o) := fun b x q => by
  rw [upd_ne (ne_of_none q h)]
  exact e _ _ q
theorem But.of_same {h : Addr} {H H' : Hp} (e : Same H H') : But h H H' := fun b o _ q => e b o q
theorem But.trans {h : Addr} {H H1 H2 : Hp} (a : But h H H1) (b : But h H1 H2) : But h H H2 := fun c o n q => b c o n (a c o n q)
theorem But.upd {h : Addr} {H : Hp} {o : HO} : But h H (upd H h o) := fun b x n q => by rw [upd_ne n]; exact q
theorem But.keepT {K : PySem.W.Frag} {h : Addr} {H H' : Hp} {xs : List V} (e : But h H H') (l : H h = some (.lst xs)) : KeepT K H H' := fun a ys q =>
  q.elim (fun r => .inl (by
    have hne : a ≠ h := by
      rintro rfl
      rcases r with r | ⟨ob, r⟩ <;> · rw [l] at r; cases r
    exact rdt_of (fun o z => e a o hne z) r)) fun r => .inr r

/-! ### vectors, matrices, tensors -/
def TupR (K : PySem.W.Frag) (H : Hp) (v : V) (n : Nat) (R : V → Nat → Prop) : Prop := ∃ a vs, v = .ref a ∧ SqT K H a vs ∧ RowsR R n vs
def Vec (K : PySem.W.Frag) (H : Hp) (v : V) (w : Nat) (f : Nat → Int) : Prop := ∃ a, v = .ref a ∧ SqT K H a (ivs w f)
def Mat (K : PySem.W.Frag) (H : Hp) (v : V) (w : Nat) (m : Nat → Nat → Int) : Prop := TupR K H v w fun u i => Vec K H u w (m i)
def Ten (K : PySem.W.Frag) (H : Hp) (v : V) (n w : Nat) (t : Nat → Nat → Nat → Int) : Prop := TupR K H v n fun u l => Mat K H u w (t l)
/-- a list or a tuple -/
def SeqV (K : PySem.W.Frag) (H : Hp) (v : V) (xs : List V) : Prop := ∃ a c, v = .ref a ∧ SqK c K H a xs
section
variable {K : PySem.W.Frag} {H H' : Hp} {v : V} {n w : Nat}
theorem Vec.keep {f : Nat → Int} (k : KeepT K H H') : Vec K H v w f → Vec K H' v w f
  | ⟨a, e, h⟩ => ⟨a, e, k _ _ h⟩
theorem TupR.keep {R R' : V → Nat → Prop} (k : KeepT K H H') (hr : ∀ u i, i < n → R u i → R' u i) : TupR K H v n R → TupR K H' v n R'
  | ⟨a, vs, e, h, r⟩ => ⟨a, vs, e, k _ _ h, r.mono hr⟩
theorem Mat.keep {m : Nat → Nat → Int} (k : KeepT K H H') (h : Mat K H v w m) : Mat K H' v w m := TupR.keep k (fun u i _ q => Vec.keep k q) h
theorem Ten.keep {t : Nat → Nat → Nat → Int} (k : KeepT K H H') (h : Ten K H v n w t) : Ten K H' v n w t := TupR.keep k (fun u i _ q => Mat.keep k q) h
theorem Vec.seq {f : Nat → Int} : Vec K H v w f → SeqV K H v (ivs w f)
  | ⟨a, e, h⟩ => ⟨a, false, e, h⟩
theorem sqk_same {c : Bool} {a : Addr} {xs : List V} (e : Same H H') (h : SqK c K H a xs) : SqK c K H' a xs := by
  cases c with
  | true => exact e.seq h
  | false => exact Same.keepT e _ _ h
theorem SeqV.same {xs : List V} (e : Same H H') : SeqV K H v xs → SeqV K H' v xs
  | ⟨a, c, ev, h⟩ => ⟨a, c, ev, sqk_same e h⟩
theorem Vec.congr {f g : Nat → Int} (h : ∀ i, i < w → f i = g i) (q : Vec K H v w f) : Vec K H v w g := by
  obtain ⟨a, e, z⟩ := q
  rw [ivs_congr h] at z
  exact ⟨a, e, z⟩
theorem Mat.congr {m m' : Nat → Nat → Int} (h : ∀ i j, i < w → j < w → m i j = m' i j) (q : Mat K H v w m) : Mat K H v w m' :=
  TupR.keep (KeepT.refl K H) (fun u i hi z => Vec.congr (fun j hj => h i j hi hj) z) q
theorem Ten.congr {t t' : Nat → Nat → Nat → Int} (h : ∀ l i j, l < n → i < w → j < w → t l i j = t' l i j) (q : Ten K H v n w t) : Ten K H v n w t' :=
  TupR.keep (KeepT.refl K H) (fun u l hl z => Mat.congr (fun i j hi hj => h l i j hl hi hj) z) q
end

/-! ### a net -/
structure NetD where
  p : Int
  n : Nat
  w : Nat
  W : Nat → Nat → Nat → Int
  s : Nat → Bool
/-- a prime from 2 to 97 -/
def IsP (p : Int) : Prop := 2 ≤ p ∧ p ≤ 97 ∧ ∀ d : Int, 2 ≤ d → d < p → p % d ≠ 0
structure NetD.Ok (N : NetD) : Prop where
  pr : IsP N.p
  n1 : 1 ≤ N.n
  n4 : N.n ≤ 4
  w1 : 1 ≤ N.w
  w3 : N.w ≤ 3
  lo : ∀ l i k, 0 ≤ N.W l i k
  hi : ∀ l i k, N.W l i k < 97
theorem NetD.Ok.p0 {N : NetD} (o : N.Ok) : 0 < N.p := by have := o.pr.1; omega
def kindT (b : Bool) : Str := if b = true then "square" else "line"
def Kinds (K : PySem.W.Frag) (H : Hp) (v : V) (n : Nat) (s : Nat → Bool) : Prop := TupR K H v n fun u l => u = .str (kindT (s l))
theorem Kinds.keep {K : PySem.W.Frag} {H H' : Hp} {v : V} {n : Nat} {s : Nat → Bool} (k : KeepT K H H') (h : Kinds K H v n s) : Kinds K H' v n s := TupR.keep k (fun _ _ _ q => q) h
/-- an instance of the class at C with the net's fields -/
def NetAt (K : PySem.W.Frag) (C : Addr) (H : Hp) (v : V) (N : NetD) : Prop := ∃ (a dx : Addr) (fs : List (Str × V)) (wv kv : V), v = .ref a ∧ H a = some (.ins C dx fs) ∧
  fs.lookup ("prime" : Str) = some (.int N.p) ∧ fs.lookup ("weights" : Str) = some wv ∧ fs.lookup ("kinds" : Str) = some kv ∧ Ten K H wv N.n N.w N.W ∧ Kinds K H kv N.n N.s
theorem NetAt.same {K : PySem.W.Frag} {C : Addr} {H H' : Hp} {v : V} {N : NetD} (e : Same H H') : NetAt K C H v N → NetAt K C H' v N
  | ⟨a, dx, fs, wv, kv, ev, ea, h1, h2, h3, h4, h5⟩ => ⟨a, dx, fs, wv, kv, ev, e _ _ ea, h1, h2, h3, h4.keep (Same.keepT e), h5.keep (Same.keepT e)⟩

/-! ### bounded numbers -/
/-- from 0 to 96 -/
def Bd (f : Nat → Int) : Prop := ∀ k, 0 ≤ f k ∧ f k < 97

/-! ### comprehensions without tests -/
section
variable {K : PySem.W.Frag} {J : It} {n : Nat} {G : Hp → Prop} {Y : Nat → Hp → V → Hp → Prop} {g : TG} {te : TE} {vs : List Nat} {σ : L2.St} {H1 : Hp} {D : Addr} {Qd : Hp → Prop}
/-- P: what holds of the heap; R: what an element is -/
theorem lc_g (w : Walk J n G Y) (hn : n < sizeLine) (P : Hp → Prop) (R : Hp → V → Nat → Prop) (p0 : P (upd H1 D (.lst [])))
    (pu : ∀ H acc acc', P H → H D = some (.lst acc) → P (upd H D (.lst acc'))) (stab : ∀ H H' v i, KeepT K H H' → R H v i → R H' v i) (hG : ∀ H, P H → G H)
    (hs : ∀ i x H H' (Z : VK), i < n → P H → Y i H x H' → (∀ y H4, P H4 → KeepT K H H4 → (∀ acc, H D = some (.lst acc) → H4 D = some (.lst acc)) → R H4 y i → Z y H4) →
      g x (wipe σ vs) H' fun σ2 H2 => wipe σ2 vs = wipe σ vs ∧ te σ2 H2 Z)
    (hd : ∀ H acc, P H → H D = some (.lst acc) → RowsR (R H) n acc → Qd H) :
    ∃ W : Nat → Nat → Hp → Prop, (∃ m, W 0 m (upd H1 D (.lst []))) ∧ ∀ i m H, W i m H →
      (J.stop i H ∧ Qd H) ∨ (J.go i H ∧ ∃ Nx : Hp → Prop, (∀ H', Nx H' → ∃ m', m' < m ∧ W (i + 1) m' H') ∧ ∀ x H', J.yld i H x H' → g x (wipe σ vs) H' fun σ2 H2 => wipe σ2 vs = wipe σ vs ∧ tYes σ2 H2 fun b H3 =>
        if b = true then te σ2 H3 fun y H4 => ∃ acc, H4 D = some (.lst acc) ∧ acc.length < sizeLine ∧ Nx (upd H4 D (.lst (acc ++ [y]))) else Nx H3) := by
  refine lc_it w (fun i H => P H ∧ ∃ acc, H D = some (.lst acc) ∧ RowsR (R H) i acc) ⟨p0, [], upd_same, RowsR.nil _⟩ (fun i H _ h => hG H h.1) (fun i x H H' hi h y => ?_) fun H h => ?_
  · obtain ⟨hp, acc, hD, hR⟩ := h
    refine hs i x H H' _ hi hp y fun y H4 hp4 hk hD4 hy => ⟨acc, hD4 acc hD, by rw [hR.1]; omega, pu H4 acc _ hp4 (hD4 acc hD), acc ++ [y], upd_same, ?_⟩
    have k2 : KeepT K H4 (upd H4 D (.lst (acc ++ [y]))) := keepT_lst (hD4 acc hD)
    exact (hR.mono fun u j _ q => stab _ _ _ _ (hk.trans k2) q).snoc (stab _ _ _ _ k2 hy)
  · obtain ⟨hp, acc, hD, hR⟩ := h
    exact hd H acc hp hD hR
/-- all that stood stays -/
theorem lc_s (w : Walk J n G Y) (hD : H1 D = none) (hn : n < sizeLine) (R : Hp → V → Nat → Prop) (stab : ∀ H H' v i, KeepT K H H' → R H v i → R H' v i) (hG : ∀ H, Same H1 H → G H)
    (hs : ∀ i x H H' (Z : VK), i < n → Same H1 H → Y i H x H' → (∀ y H4, Same H H4 → R H4 y i → Z y H4) → g x (wipe σ vs) H' fun σ2 H2 => wipe σ2 vs = wipe σ vs ∧ te σ2 H2 Z)
    (hd : ∀ H acc, Same H1 H → H D = some (.lst acc) → RowsR (R H) n acc → Qd H) :
    ∃ W : Nat → Nat → Hp → Prop, (∃ m, W 0 m (upd H1 D (.lst []))) ∧ ∀ i m H, W i m H →
      (J.stop i H ∧ Qd H) ∨ (J.go i H ∧ ∃ Nx : Hp → Prop, (∀ H', Nx H' → ∃ m', m' < m ∧ W (i + 1) m' H') ∧ ∀ x H', J.yld i H x H' → g x (wipe σ vs) H' fun σ2 H2 => wipe σ2 vs = wipe σ vs ∧ tYes σ2 H2 fun b H3 =>
        if b = true then te σ2 H3 fun y H4 => ∃ acc, H4 D = some (.lst acc) ∧ acc.length < sizeLine ∧ Nx (upd H4 D (.lst (acc ++ [y]))) else Nx H3) := by
  refine lc_g (K := K) w hn (Same H1) R (same_new hD) (fun H acc acc' h _ => same_upd h hD) stab hG (fun i x H H' Z hi hp y hz => ?_) hd
  exact hs i x H H' Z hi hp y fun y H4 h4 hr => hz y H4 (hp.trans h4) (Same.keepT h4) (fun acc q => h4 _ _ q) hr
end
end K5

/-! The program's defs by their places, their names by slots. -/
namespace K5
open PySem PySem.Spec PyProof.Rows L2 K5M
def topS (i : Nat) : Stmt := PySem.Challenge.pw_stagesfull_k05_whole_slopes_are_coeffici.main.body.getD i (.Pass ⟨0, 0, 0, 0⟩)
abbrev sBtw : Stmt := topS 6
abbrev sPrm : Stmt := topS 7
abbrev sAsm : Stmt := topS 8
abbrev sIni : Stmt := inClass (topS 9) 0
abbrev sLen : Stmt := inClass (topS 9) 2
abbrev sPrd : Stmt := topS 10
abbrev sFwd : Stmt := topS 11
abbrev sBck : Stmt := topS 12
abbrev sInp : Stmt := topS 13
abbrev sSlb : Stmt := topS 14
abbrev sLss : Stmt := topS 15
abbrev sNos : Stmt := topS 16
abbrev sAdd : Stmt := topS 17
abbrev sPor : Stmt := topS 18
abbrev sLdr : Stmt := topS 20
abbrev sLtk : Stmt := topS 21
abbrev sLpr : Stmt := topS 22
abbrev sLve : Stmt := topS 23
abbrev sLne : Stmt := topS 24
abbrev sLpo : Stmt := topS 25
abbrev sLth : Stmt := topS 26
abbrev sLco : Stmt := topS 27
abbrev sLaw : Stmt := topS 28
theorem scBtw : FnScope ["value", "least", "most"] ["value", "least", "most"] (defScope sBtw) := ⟨rfl, rfl, rfl, by decide +kernel, rfl, by decide +kernel, by decide +kernel⟩
theorem scPrm : FnScope ["value", "divisor"] ["value"] (defScope sPrm) := ⟨rfl, rfl, rfl, by decide +kernel, rfl, by decide +kernel, by decide +kernel⟩
theorem scAsm : FnScope ["rows", "row"] ["rows"] (defScope sAsm) := ⟨rfl, rfl, rfl, by decide +kernel, rfl, by decide +kernel, by decide +kernel⟩
theorem scIni : FnScope ["self", "prime", "weights", "kinds", "matrix"] ["self", "prime", "weights", "kinds"] (defScope sIni) := ⟨rfl, rfl, rfl, by decide +kernel, rfl, by decide +kernel, by decide +kernel⟩
theorem scLen : FnScope ["self"] ["self"] (defScope sLen) := ⟨rfl, rfl, rfl, by decide +kernel, rfl, by decide +kernel, by decide +kernel⟩
theorem scPrd : FnScope ["net", "layer", "vector", "row", "weight", "number"] ["net", "layer", "vector"] (defScope sPrd) := ⟨rfl, rfl, rfl, by decide +kernel, rfl, by decide +kernel, by decide +kernel⟩
theorem scFwd : FnScope ["net", "layer", "vector", "made", "number"] ["net", "layer", "vector"] (defScope sFwd) := ⟨rfl, rfl, rfl, by decide +kernel, rfl, by decide +kernel, by decide +kernel⟩
theorem scBck : FnScope ["net", "layer", "vector", "slopes", "inner", "made", "matrix", "back", "k", "slope", "number", "row"] ["net", "layer", "vector", "slopes"] (defScope sBck) := ⟨rfl, rfl, rfl, by decide +kernel, rfl, by decide +kernel, by decide +kernel⟩
theorem scInp : FnScope ["net", "vector", "found", "layer"] ["net", "vector"] (defScope sInp) := ⟨rfl, rfl, rfl, by decide +kernel, rfl, by decide +kernel, by decide +kernel⟩
theorem scSlb : FnScope ["net", "inputs", "slopes", "found", "layer", "matrix"] ["net", "inputs", "slopes"] (defScope sSlb) := ⟨rfl, rfl, rfl, by decide +kernel, rfl, by decide +kernel, by decide +kernel⟩
theorem scLss : FnScope ["net", "out", "target", "number", "aim"] ["net", "out", "target"] (defScope sLss) := ⟨rfl, rfl, rfl, by decide +kernel, rfl, by decide +kernel, by decide +kernel⟩
theorem scNos : FnScope ["net", "matrix", "row"] ["net"] (defScope sNos) := ⟨rfl, rfl, rfl, by decide +kernel, rfl, by decide +kernel, by decide +kernel⟩
theorem scAdd : FnScope ["net", "one", "other", "times", "found", "first", "second", "rows", "row", "more", "number", "by"] ["net", "one", "other", "times"] (defScope sAdd) := ⟨rfl, rfl, rfl, by decide +kernel, rfl, by decide +kernel, by decide +kernel⟩
theorem scPor : FnScope ["net", "portion", "total", "vector", "target", "inputs", "out"] ["net", "portion"] (defScope sPor) := ⟨rfl, rfl, rfl, by decide +kernel, rfl, by decide +kernel, by decide +kernel⟩
theorem scLdr : FnScope ["_law_script", "_law_many", "_law_cell", "_law_rests", "_law_draws_here", "_law_k", "_law_spot", "_law_mixed"] ["_law_script", "_law_many"] (defScope sLdr) := ⟨rfl, rfl, rfl, by decide +kernel, rfl, by decide +kernel, by decide +kernel⟩
theorem scLtk : FnScope ["_law_hand", "_law_many", "_law_spot", "_law_draws_here"] ["_law_hand", "_law_many"] (defScope sLtk) := ⟨rfl, rfl, rfl, by decide +kernel, rfl, by decide +kernel, by decide +kernel⟩
theorem scLpr : FnScope ["_law_hand", "_law_primes"] ["_law_hand"] (defScope sLpr) := ⟨rfl, rfl, rfl, by decide +kernel, rfl, by decide +kernel, by decide +kernel⟩
theorem scLve : FnScope ["_law_hand", "_law_prime_here", "_law_width", "_law_k"] ["_law_hand", "_law_prime_here", "_law_width"] (defScope sLve) := ⟨rfl, rfl, rfl, by decide +kernel, rfl, by decide +kernel, by decide +kernel⟩
theorem scLne : FnScope ["_law_hand", "_law_most", "_law_prime_here", "_law_width", "_law_weights", "_law_kinds", "_law_layer", "_law_k"] ["_law_hand", "_law_most"] (defScope sLne) := ⟨rfl, rfl, rfl, by decide +kernel, rfl, by decide +kernel, by decide +kernel⟩
theorem scLpo : FnScope ["_law_hand", "_law_prime_here", "_law_width", "_law_most", "_law_portion_here", "_law_k"] ["_law_hand", "_law_prime_here", "_law_width", "_law_most"] (defScope sLpo) := ⟨rfl, rfl, rfl, by decide +kernel, rfl, by decide +kernel, by decide +kernel⟩
theorem scLth : FnScope ["_law_net_here", "_law_layer", "_law_spot", "_law_vector_here", "_law_prime_here", "_law_plain", "_law_rises", "_law_l", "_law_one", "_law_more", "_law_i", "_law_row", "_law_value", "_law_rise", "_law_k"] ["_law_net_here", "_law_layer", "_law_spot", "_law_vector_here"] (defScope sLth) := ⟨rfl, rfl, rfl, by decide +kernel, rfl, by decide +kernel, by decide +kernel⟩
theorem scLco : FnScope ["_law_net_here", "_law_portion_here", "_law_layer", "_law_spot", "_law_total", "_law_vector_here", "_law_target", "_law_plain", "_law_rises", "_law_k"] ["_law_net_here", "_law_portion_here", "_law_layer", "_law_spot"] (defScope sLco) := ⟨rfl, rfl, rfl, by decide +kernel, rfl, by decide +kernel, by decide +kernel⟩
theorem scLaw : FnScope ["_law_script", "_law_hand", "_law_own", "_law_width", "_law_net_here", "_law_portion_here", "_law_passed", "_law_due", "_law_layer", "_law_matrix", "_law_i", "_law_again", "_law_vector_here", "_law_target", "_law_k", "_law_pair"] ["_law_script"] (defScope sLaw) := ⟨rfl, rfl, rfl, by decide +kernel, rfl, by decide +kernel, by decide +kernel⟩
/-- what the top has left of built-in names, and the class -/
structure Txt (K : PySem.W.Frag) (mg : Str → Option Value) : Prop where
  len : mg "len" = none
  tuple : mg "tuple" = none
  list : mg "list" = none
  range : mg "range" = none
  zip : mg "zip" = none
  sum : mg "sum" = none
  rev : mg "reversed" = none
  isi : mg "isinstance" = none
  int : mg "int" = none
  bool : mg "bool" = none
  abs : mg "abs" = none
  repr : mg "repr" = none
structure NetC (K : PySem.W.Frag) (mg : Str → Option Value) (C : Addr) : Prop where
  cl : Cls K C
  nP : NoAttr K C "prime"
  nW : NoAttr K C "weights"
  nK : NoAttr K C "kinds"
theorem bLen : bootBuiltins "len" = some (.builtin "len") := by decide +kernel
theorem bTup : bootBuiltins "tuple" = some (.type "tuple") := by decide +kernel
theorem bLst : bootBuiltins "list" = some (.type "list") := by decide +kernel
theorem bSum : bootBuiltins "sum" = some (.builtin "sum") := by decide +kernel
theorem bIsi : bootBuiltins "isinstance" = some (.builtin "isinstance") := by decide +kernel
theorem bInt : bootBuiltins "int" = some (.type "int") := by decide +kernel
theorem bBol : bootBuiltins "bool" = some (.type "bool") := by decide +kernel
theorem bAbs : bootBuiltins "abs" = some (.builtin "abs") := by decide +kernel
theorem bRep : bootBuiltins "repr" = some (.builtin "repr") := by decide +kernel
/-- a comprehension's block by its names -/
def mkSc (names : List (Str × NameKind)) : Scope := { kind := .function, names := names, isGenerator := false, isCoroutine := false }
/-! ### the layer's rules with the written part as a letter (within a comprehension its context's own may not be named) -/
def rTup (K : PySem.W.Frag) : List V → Hp → VK → Prop := fun xs H Q => ∃ p ys, xs = [.ref p] ∧ ((SqL K H p ys ∧ ∀ l, H l = none → Q (.ref l) (upd H l (.tup ys))) ∨ (SqT K H p ys ∧ Q (.ref p) H))
def rLst (K : PySem.W.Frag) : List V → Hp → VK → Prop := fun xs H Q => ∃ p c ys, xs = [.ref p] ∧ SqK c K H p ys ∧ ∀ l, H l = none → Q (.ref l) (upd H l (.lst ys))
def rLen (K : PySem.W.Frag) : List V → Hp → VK → Prop := fun xs H Q => ∃ p c ys, xs = [.ref p] ∧ SqK c K H p ys ∧ Q (.int ys.length) H
def rIxA (K : PySem.W.Frag) : R2 := fun x y H Q => ∃ p c xs i v, x = .ref p ∧ y = .int i ∧ SqK c K H p xs ∧ atI xs i = some v ∧ Q v H
section
variable {X : Cx} {K : PySem.W.Frag} {e a b : Expr} {ta tb : TE} {pos : Pos}
theorem c_tup (hK : X.K = K := by rfl) : CallR X (.type "tuple") (rTup K) := by
  subst hK
  exact call_tuple_of
theorem c_lst (hK : X.K = K := by rfl) : CallR X (.type "list") (rLst K) := by
  subst hK
  rintro pins s σ H xs us Q I r ⟨p, c, ys, e, h, q⟩
  refine call_list_of pins s σ H xs us Q I r ⟨p, ys, e, ?_, q⟩
  cases c with
  | true => exact .inl h
  | false => exact .inr h
theorem c_len (hK : X.K = K := by rfl) : CallR X (.builtin "len") (rLen K) := by
  subst hK
  rintro pins s σ H xs us Q I r ⟨p, c, ys, e, h, q⟩
  refine call_len_seq pins s σ H xs us Q I r ⟨p, ys, e, ?_, q⟩
  cases c with
  | true => exact .inl h
  | false => exact .inr h
theorem c_sum (hK : X.K = K := by rfl) (hc : X.calm = true := by rfl) : CallR X (.builtin "sum") (rSum K) := by
  subst hK
  exact cr_sum hc
theorem i_any (hK : X.K = K := by rfl) : IxR X (rIxA K) := by
  subst hK
  have hx : IxR X (rIx X.K) := ix_seq
  rintro value slice pins s σ H x y v u Q I rx ry ⟨p, c, xs, i, z, ex, ey, h, ha, q⟩ hsub
  refine hx value slice pins s σ H x y v u Q I rx ry ?_ hsub
  cases c with
  | true => exact .inl ⟨p, xs, i, z, ex, ey, h, ha, q⟩
  | false => exact .inr (.inl ⟨p, xs, i, z, ex, ey, h, ha, q⟩)
/-- e.f -/
theorem e_fld {f : Str} (he : PE X e ta) (hb : attributeBase e f X.env (eval e X.env) = eval e X.env) (hK : X.K = K := by rfl) : PE X (.Attribute e f pos) (tFld K ta f) := by
  subst hK
  exact pe_fld he hb
/-- e[i] -/
theorem e_ix (ha : PE X a ta) (hb : PE X b tb) (hK : X.K = K := by rfl) (hs : PlainIx b := by exact fun _ _ => rfl) : PE X (.Subscript a b pos) (tOp (rIxA K) ta tb) := pe_ix (i_any hK) ha hb hs
theorem w_seq {tg l : Expr} {tl : TE} (hl : PE X l tl) (hK : X.K = K := by rfl) : PI X tg l (iSeq K tl) := by
  subst hK
  exact pi_seq hl
theorem w_zip {e e2 : Expr} {ta : TA} {p tpos : Pos} {elts : List Expr} {kk : Nat} (hg : Gl X "zip") (hm : X.mg "zip" = none) (ha : PA X [e, e2] ta) (hK : X.K = K := by rfl)
    (hs : starEach [e, e2] X.env = (false, eval e X.env) :: starEach [e2] X.env := by rfl) (hpl : (backTo pos (starEach [e2] X.env)).any (·.1) = false := by rfl) :
    PI X (.Tuple elts kk tpos) (.Call (.Name "zip" p) [e, e2] [] pos) (iZipM K ta) := by
  subst hK
  exact pi_zipM hg hm ha hs hpl
theorem g_seq {es : List Expr} {k : Nat} {t : TGs} {n : Nat} (hc : X.calm = true) (h : PGs X es t) (hK : X.K = K := by rfl)
    (hn : (assignEach es X.env).length = n := by rfl) (hst : (assignEach es X.env).findIdx? (·.1) = none := by rfl) : PG X (.Tuple es k pos) (gSeq K n t) := by
  subst hK
  exact pg_seq hc h hn hst
theorem o_rep1 (hK : X.K = K := by rfl) : OpR X (binaryOp .Mult) (rRep1 K) := by
  subst hK
  exact op_rep1
end
end K5

namespace K5
open PySem PySem.Spec PyProof.Rows L2 K5M
theorem walk_rng {n : Nat} : Walk (Itr 0 n) n (fun _ => True) (YFn fun i => .int (i : Nat)) :=
  ⟨fun _ _ hi _ => hi, fun _ _ => Nat.le_refl _, fun i _ _ _ _ _ y => ⟨y.1, by rw [y.2, Int.zero_add]⟩⟩
theorem walk_rngI {j : Int} {n : Nat} (h : j = (n : Int)) : Walk (Itr 0 j.toNat) n (fun _ => True) (YFn fun i => .int (i : Nat)) := by
  subst h
  exact walk_rng
section
variable {P : Program} {w : World} {K : PySem.W.Frag} {mg : Str → Option Value} {base : Heap}
/-! ### is_between -/
def spBtw : Sp := fun vs H Q _ => ∃ v lo hi : Int, vs = [.int v, .int lo, .int hi] ∧ Q (.bl (decide (lo ≤ v) && decide (v ≤ hi))) H
theorem ok_btw {f : Addr} {fd : FuncData} {k : Nat} (F : Fun K "is_between" "is_between" sBtw f fd) (T : Txt K mg) : FnOk P w K mg base CX0 (k + 1) f fd ["value", "least", "most"] spBtw := by
  refine F.ok scBtw (fun vs H Q E h => ?_) (fun cdv A outer s H vs Q E hr h => ?_)
  · obtain ⟨v, lo, hi, rfl, _⟩ := h
    rfl
  · obtain ⟨v, lo, hi, rfl, q⟩ := h
    refine ⟨_, pss_one (ps_ret (pe_and (pe_callB call_isi (by rfl) T.isi bIsi (pa_cons (pv 0) (pa_cons (pe_bltn (v := .ty "int") (by rfl) T.int bInt rfl) pa_nil)))
      (pe_and (pe_not (pe_callB call_isi (by rfl) T.isi bIsi (pa_cons (pv 0) (pa_cons (pe_bltn (v := .ty "bool") (by rfl) T.bool bBol rfl) pa_nil))))
        (pe_one (pe_chain op_le op_le (pv 1) (pv 0) (pv 2)))))), ?_⟩
    refine ⟨_, rfl, _, _, _, _, _, rfl, .ty _, .base (.int v), kit_ty (b := "int") (r := true) (by decide +kernel), _, rfl, iteT ?_⟩
    refine ⟨_, rfl, _, _, _, _, _, rfl, .ty _, .base (.int v), kit_ty (b := "bool") (r := false) (by decide +kernel), _, rfl, _, rfl, iteT ?_⟩
    refine ⟨_, rfl, _, rfl, _, _, rfl, rfl, _, rfl, ite2 (fun e => ?_) fun e => ?_⟩
    · refine ⟨_, rfl, _, _, rfl, rfl, ?_⟩
      rw [e] at q
      exact q
    · rw [Bool.not_eq_true] at e
      rw [e] at q
      exact q
/-! ### is_prime -/
def spPrm : Sp := fun vs H Q _ => ∃ p : Int, vs = [.int p] ∧ IsP p ∧ Q (.bl true) H
theorem ok_prm {f fB : Addr} {fd fdB : FuncData} {t : Tok} (F : Fun K "is_prime" "is_prime" sPrm f fd) (T : Txt K mg) (FB : Fun K "is_between" "is_between" sBtw fB fdB) (bB : Binds K fdB ["value", "least", "most"] []) (gB : mg "is_between" = some (.ref fB)) (gM : mg "MOST_PRIME" = some (.int 97 t)) :
    FnOk P w K mg base CX0 2 f fd ["value"] spPrm := by
  have GB : FnOk P w K mg base CX0 1 fB fdB ["value", "least", "most"] spBtw := ok_btw FB T
  refine F.ok scPrm (fun vs H Q E h => ?_) (fun cdv A outer s H vs Q E hr h => ?_)
  · obtain ⟨p, rfl, _⟩ := h
    rfl
  · obtain ⟨p, rfl, hp, q⟩ := h
    refine ⟨_, pss_cons (ps_if (pt_not (pt_val (pe_call GB hr (by rfl) gB FB.kp bB .nil pass0 (pa_cons (pv 0) (pa_cons pe_int (pa_cons (pe_glob (v := .int 97) (by rfl) gM ⟨_, rfl⟩) pa_nil)))))) (pss_one (ps_ret pe_bl)) pss_nil)
      (pss_cons (ps_for PassesOwn.never rfl (pi_range2 (by rfl) T.range (pa_cons pe_int (pa_cons (pv 0) pa_nil))) (pg_name (i := 1) scPrm.nd rfl (.inl rfl))
        (pss_one (ps_if (pt_cmpR op_eq (pe_op op_mod (pv 0) (pv 1)) pe_int (nomark _)) (pss_one (ps_ret pe_bl)) pss_nil)))
      (pss_one (ps_ret pe_bl))), ?_⟩
    refine ⟨_, rfl, p, 2, 97, rfl, _, rfl, ?_⟩
    rw [decide_eq_true hp.1, decide_eq_true hp.2.1]
    refine iteF ?_
    refine ⟨_, rfl, 2, p, rfl, ⟨by omega, by omega, by have := hp.1; omega, by have := hp.2.1; omega⟩, ?_⟩
    refine for_it walk_range (fun i σ H' => σ[0]? = some (some (.int p)) ∧ σ.length = 2 ∧ H' = H) ⟨rfl, rfl, rfl⟩ (fun _ _ _ _ _ => trivial) (fun i x σ H0 H' hi hP y => ?_) (fun σ H' hP => ?_)
    · obtain ⟨h0, hl, rfl⟩ := hP
      obtain ⟨rfl, rfl⟩ := y
      have h1 := hp.1
      obtain ⟨a, b, rfl⟩ : ∃ a b, σ = [a, b] := match σ, hl with | [a, b], _ => ⟨a, b, rfl⟩
      refine ⟨_, h0, _, rfl, _, _, rfl, rfl, by omega, rfl, _, rfl, ?_⟩
      have hd := hp.2.2 (2 + (i : Int)) (by omega) (by omega)
      rw [decide_eq_false (fun e => hd (V.int.inj e))]
      exact iteF ⟨h0, rfl, rfl⟩
    · obtain ⟨_, _, rfl⟩ := hP
      exact q
end
end K5

namespace K5
open PySem PySem.Spec PyProof.Rows L2 K5M
theorem walk_tupN {K : PySem.W.Frag} {a : Addr} {xs : List V} {n : Nat} (hn : xs.length = n) : Walk (Itt K a) n (fun H => SqT K H a xs) (YAt xs) := by
  subst hn
  exact walk_tup
theorem walk_listN {K : PySem.W.Frag} {a : Addr} {xs : List V} {n : Nat} (hn : xs.length = n) : Walk (Itl K a) n (fun H => SqL K H a xs) (YAt xs) := by
  subst hn
  exact walk_list
section
variable {P : Program} {w : World} {K : PySem.W.Frag} {mg : Str → Option Value} {base : Heap}
/-! ### as_matrix -/
def spAsm (K : PySem.W.Frag) : Sp := fun vs H Q _ => ∃ (v : V) (w : Nat) (m : Nat → Nat → Int), vs = [v] ∧ Mat K H v w m ∧ w ≤ 3 ∧ ∀ r H', Same H H' → Mat K H' r w m → Q r H'
theorem ok_asm {f : Addr} {fd : FuncData} {k : Nat} (F : Fun K "as_matrix" "as_matrix" sAsm f fd) (T : Txt K mg) : FnOk P w K mg base CX0 (k + 1) f fd ["rows"] (spAsm K) := by
  refine F.ok scAsm (fun vs H Q E h => ?_) (fun cdv A outer s H vs Q E hr h => ?_)
  · obtain ⟨v, w, m, rfl, _⟩ := h
    rfl
  · obtain ⟨v, w, m, rfl, hM, hw, q⟩ := h
    obtain ⟨a, us, rfl, hT, hR⟩ := id hM
    refine ⟨_, pss_one (ps_ret (pe_callTy c_tup (by rfl) T.tuple bTup (pa_cons (pe_lc (own := [("row", 1)]) (by rfl) scAsm.nd (w_seq (pv 0))
      (blkOk_by (N := ["rows", "row"]) (sc := defScope sAsm) (by decide +kernel)) (fun _ _ _ _ _ => pg_name (i := 1) scAsm.nd rfl (Or.inl rfl)) (fun _ _ _ _ _ => pts_nil)
      (fun _ _ _ _ _ => pe_callTy c_tup (by rfl) T.tuple bTup (pa_cons (pv 1) pa_nil))) pa_nil))), ?_⟩
    refine ⟨_, rfl, a, false, rfl, ⟨us, hT⟩, fun D hD => lc_s (K := K) (walk_seq hR.1) hD (by show w < 16777216; omega) (fun H v i => Vec K H v w (m i)) (fun _ _ _ _ k q => q.keep k)
      (fun H' s => Same.keepT s _ _ hT) (fun i x H0 H' Z hi hs y hz => ?_) (fun H' acc hs hD' hR' => ?_)⟩
    · obtain ⟨rfl, hx⟩ := y
      obtain ⟨b, rfl, hb⟩ := (hR.2 i x hx).keep (Same.keepT hs)
      exact ⟨rfl, _, rfl, b, _, rfl, .inr ⟨hb, hz _ _ (Same.refl _) ⟨b, rfl, hb⟩⟩⟩
    · refine ⟨D, acc, rfl, .inl ⟨SqL.of hD', fun t ht => ?_⟩⟩
      have st := same_new (o := .tup acc) ht
      exact q _ _ (hs.trans st) ⟨t, acc, rfl, SqT.of upd_same, hR'.mono fun u i _ z => z.keep (Same.keepT st)⟩
/-! ### Net.__init__ -/
def spIni (K : PySem.W.Frag) (C : Addr) : Sp := fun vs H Q _ => ∃ (x dx : Addr) (N : NetD) (wv kv : V), vs = [.ref x, .int N.p, wv, kv] ∧ H x = some (.ins C dx []) ∧ Ten K H wv N.n N.w N.W ∧ Kinds K H kv N.n N.s ∧ N.Ok ∧
  ∀ H', But x H H' → NetAt K C H' (.ref x) N → Q .non H'
theorem ok_ini {f C fP fA : Addr} {fd fdP fdA : FuncData} (F : Fun K "__init__" "Net.__init__" sIni f fd) (T : Txt K mg) (TC : NetC K mg C)
    (GP : FnOk P w K mg base CX0 2 fP fdP ["value"] spPrm) (kP : PySem.W.keepIn K (.ref fP) = true) (bP : Binds K fdP ["value"] []) (gP : mg "is_prime" = some (.ref fP))
    (GA : FnOk P w K mg base CX0 2 fA fdA ["rows"] (spAsm K)) (kA : PySem.W.keepIn K (.ref fA) = true) (bA : Binds K fdA ["rows"] []) (gA : mg "as_matrix" = some (.ref fA)) :
    FnOk P w K mg base CX0 3 f fd ["self", "prime", "weights", "kinds"] (spIni K C) := by
  refine F.ok scIni (fun vs H Q E h => ?_) (fun cdv A outer s H vs Q E hr h => ?_)
  · obtain ⟨x, dx, N, wv, kv, rfl, _⟩ := h
    rfl
  · obtain ⟨x, dx, N, wv, kv, rfl, hx, hW, hK, ok, q⟩ := h
    obtain ⟨a, us, rfl, hT, hR⟩ := id hW
    obtain ⟨b, ks, rfl, hB, hS⟩ := id hK
    refine ⟨_, pss_cons (ps_if (pt_not (pt_val (pe_call GP hr (by rfl) gP kP bP .nil pass0 (pa_cons (pv 1) pa_nil)))) (pss_one ps_never) pss_nil)
      (pss_cons (ps_fld (pv 0) (pv 1) rfl)
      (pss_cons (ps_fld (pv 0) (pe_callTy c_tup (by rfl) T.tuple bTup (pa_cons (pe_lc (own := [("matrix", 4)]) (by rfl) scIni.nd (w_seq (pv 2))
        (blkOk_by (N := ["self", "prime", "weights", "kinds", "matrix"]) (sc := defScope sIni) (by decide +kernel)) (fun _ _ _ _ _ => pg_name (i := 4) scIni.nd rfl (Or.inl rfl)) (fun _ _ _ _ _ => pts_nil)
        (fun _ _ _ _ _ => pe_call GA hr (by rfl) gA kA bA .nil pass0 (pa_cons (pv 4) pa_nil))) pa_nil)) rfl)
      (pss_one (ps_fld (pv 0) (pe_callTy c_tup (by rfl) T.tuple bTup (pa_cons (pv 3) pa_nil)) rfl)))), ?_⟩
    -- if not is_prime(prime)
    refine ⟨_, rfl, N.p, rfl, ok.pr, _, rfl, iteF ?_⟩
    -- self.prime = prime
    refine ⟨_, rfl, _, rfl, x, C, dx, [], rfl, hx, TC.cl, TC.nP, (by show 0 < 1000; decide), ?_⟩
    have k1 : KeepT K H (upd H x (.ins C dx (putF "prime" (.int N.p) []))) := keepT_upd hx (fun _ => nofun) fun _ _ => nofun
    have n3 := ok.n4
    have w3 := ok.w3
    -- self.weights = ..
    refine ⟨_, rfl, a, false, rfl, ⟨us, k1 _ _ hT⟩, fun D hD => lc_s (K := K) (walk_seq hR.1) hD (by show N.n < 16777216; omega) (fun H v i => Mat K H v N.w (N.W i)) (fun _ _ _ _ k q => q.keep k)
      (fun H' s => Same.keepT s _ _ (k1 _ _ hT)) (fun i y H0 H' Z hi hs hy hz => ?_) (fun H' acc hs hD' hR' => ?_)⟩
    · obtain ⟨rfl, hy⟩ := hy
      exact ⟨rfl, _, rfl, y, N.w, N.W i, rfl, (hR.2 i y hy).keep (k1.trans (Same.keepT hs)), w3, fun r H2 s2 hM => hz r H2 s2 hM⟩
    · refine ⟨D, acc, rfl, .inl ⟨SqL.of hD', fun t ht => ?_⟩⟩
      have st := same_new (o := .tup acc) ht
      have hx2 := st _ _ (hs _ _ upd_same)
      refine ⟨_, rfl, x, C, dx, _, rfl, hx2, TC.cl, TC.nW, (by have := length_putF "prime" (.int N.p) []; show _ < 1000; simp only [List.length_nil] at this; omega), ?_⟩
      have k2 := keepT_upd (K := K) (o' := .ins C dx (putF "weights" (.ref t) (putF "prime" (.int N.p) []))) hx2 (fun _ => nofun) fun _ _ => nofun
      have k12 := (k1.trans (Same.keepT hs)).trans ((Same.keepT st).trans k2)
      -- self.kinds = tuple(kinds)
      refine ⟨_, rfl, b, ks, rfl, .inr ⟨k12 _ _ hB, ?_⟩⟩
      refine ⟨_, rfl, x, C, dx, _, rfl, upd_same, TC.cl, TC.nK, (by
        have h1 := length_putF "prime" (.int N.p) []
        have h2 := length_putF "weights" (.ref t) (putF "prime" (.int N.p) [])
        simp only [List.length_nil] at h1
        show _ < 1000
        omega), ?_⟩
      have k3 := keepT_upd (K := K) (o' := .ins C dx (putF "kinds" (.ref b) (putF "weights" (.ref t) (putF "prime" (.int N.p) [])))) (upd_same (H := upd H' t (.tup acc)) (a := x) (o := .ins C dx (putF "weights" (.ref t) (putF "prime" (.int N.p) [])))) (fun _ => nofun) fun _ _ => nofun
      refine q _ (fun y o n e => ?_) ⟨x, dx, _, .ref t, .ref b, rfl, upd_same, ?_, ?_, ?_, ?_, ?_⟩
      · rw [upd_ne n, upd_ne n]
        exact st _ _ (hs _ _ (by rw [upd_ne n]; exact e))
      · rw [lookup_putF, if_neg (by decide +kernel), lookup_putF, if_neg (by decide +kernel), lookup_putF, if_pos rfl]
      · rw [lookup_putF, if_neg (by decide +kernel), lookup_putF, if_pos rfl]
      · rw [lookup_putF, if_pos rfl]
      · exact ⟨t, acc, rfl, (k2.trans k3) _ _ (SqT.of upd_same), hR'.mono fun u i _ z => z.keep ((Same.keepT st).trans (k2.trans k3))⟩
      · exact hK.keep (k12.trans k3)
/-! ### Net.__len__ -/
def spLen (K : PySem.W.Frag) (C : Addr) : Sp := fun vs H Q _ => ∃ (v : V) (N : NetD), vs = [v] ∧ NetAt K C H v N ∧ Q (.int N.n) H
theorem ok_len {f C : Addr} {fd : FuncData} {k : Nat} (F : Fun K "__len__" "Net.__len__" sLen f fd) (T : Txt K mg) (TC : NetC K mg C) : FnOk P w K mg base CX0 (k + 1) f fd ["self"] (spLen K C) := by
  refine F.ok scLen (fun vs H Q E h => ?_) (fun cdv A outer s H vs Q E hr h => ?_)
  · obtain ⟨v, N, rfl, _⟩ := h
    rfl
  · obtain ⟨v, N, rfl, ⟨a, dx, fs, wv, kv, rfl, ha, h1, h2, h3, ⟨b, us, rfl, hT, hR⟩, _⟩, q⟩ := h
    refine ⟨_, pss_one (ps_ret (pe_callB c_len (by rfl) T.len bLen (pa_cons (pe_fld (pv 0) rfl) pa_nil))), ?_⟩
    refine ⟨_, rfl, a, C, dx, fs, _, rfl, ha, TC.cl, TC.nW, h2, b, false, us, rfl, hT, ?_⟩
    rw [hR.1]
    exact q
end
end K5

namespace K5
open PySem PySem.Spec PyProof.Rows L2 K5M
section
variable {P : Program} {w : World} {K : PySem.W.Frag} {mg : Str → Option Value} {base : Heap}
theorem small_mul {a b : Int} (h0 : 0 ≤ a) (h1 : a < 97) : CMul a b := .inl ⟨by omega, by omega⟩
/-! ### product -/
def spPrd (K : PySem.W.Frag) (C : Addr) : Sp := fun vs H Q _ => ∃ (nv xv : V) (N : NetD) (l : Nat) (x : Nat → Int), vs = [nv, .int l, xv] ∧ NetAt K C H nv N ∧ N.Ok ∧ l < N.n ∧ Vec K H xv N.w x ∧
  ∀ r H', Same H H' → H' r = some (.lst (ivs N.w (prodF N.p N.w (N.W l) x))) → Q (.ref r) H'
theorem ok_prd {f C : Addr} {fd : FuncData} {k : Nat} (F : Fun K "product" "product" sPrd f fd) (T : Txt K mg) (TC : NetC K mg C) : FnOk P w K mg base CX0 (k + 1) f fd ["net", "layer", "vector"] (spPrd K C) := by
  refine F.ok scPrd (fun vs H Q E h => ?_) (fun cdv A outer s H vs Q E hr h => ?_)
  · obtain ⟨nv, xv, N, l, x, rfl, _⟩ := h
    rfl
  · obtain ⟨nv, xv, N, l, x, rfl, hN, ok, hl, hx, q⟩ := h
    obtain ⟨a, dx, fs, wv, kv, rfl, ha, h1, h2, h3, ⟨b, us, rfl, hT, hR⟩, hK⟩ := id hN
    obtain ⟨u, hu, c, rows, rfl, hTc, hRc⟩ := hR.at hl
    obtain ⟨xa, rfl, hxa⟩ := id hx
    have w3 := ok.w3
    refine ⟨_, pss_one (ps_ret (pe_lc (own := [("row", 3)]) (by rfl) scPrd.nd (w_seq (e_ix (e_fld (pv 0) rfl) (pv 1)))
      (blkOk_by (N := ["net", "layer", "vector", "row", "weight", "number"]) (sc := defScope sPrd) (by decide +kernel)) (fun _ _ _ _ _ => pg_name (i := 3) scPrd.nd rfl (Or.inl rfl)) (fun _ _ _ _ _ => pts_nil)
      (fun _ _ _ _ _ => pe_op op_mod (pe_callB c_sum (by rfl) T.sum bSum (pa_cons
        (pe_lc (own := [("weight", 4), ("number", 5)]) (by rfl) scPrd.nd (w_zip (by rfl) T.zip (pa_cons (pv 3) (pa_cons (pv 2) pa_nil)))
          (blkOk_by (N := ["net", "layer", "vector", "row", "weight", "number"]) (sc := relS (mkSc [(".0", .local), ("row", .local), ("sum", .globalImplicit), ("zip", .globalImplicit), ("net", .free), ("vector", .free)]) (defScope sPrd)) (by decide +kernel))
          (fun _ _ _ _ _ => g_seq (n := 2) rfl (pgs_cons (pg_name (i := 4) scPrd.nd rfl (Or.inl rfl)) (pgs_cons (pg_name (i := 5) scPrd.nd rfl (Or.inl rfl)) pgs_nil))) (fun _ _ _ _ _ => pts_nil)
          (fun _ _ _ _ _ => pe_op op_mul (pv 4) (pv 5))) pa_nil)) (e_fld (pv 0) rfl)))), ?_⟩
    refine ⟨_, rfl, a, C, dx, fs, _, rfl, ha, TC.cl, TC.nW, h2, _, rfl, b, false, us, l, _, rfl, rfl, hT, atI_nat hu, c, false, rfl, ⟨rows, hTc⟩, fun D hD => ?_⟩
    refine lc_s (K := K) (walk_seq hRc.1) hD (by show N.w < 16777216; omega) (fun _ v i => v = .int (prodF N.p N.w (N.W l) x i)) (fun _ _ _ _ _ z => z) (fun H' st => Same.keepT st _ _ hTc) (fun i y H0 H' Z hi st yy hz => ?_) (fun H' acc st hD' hR' => ?_)
    · obtain ⟨rfl, hy⟩ := yy
      obtain ⟨ra, rfl, hra⟩ := (hRc.2 i y hy).keep (Same.keepT st)
      have hxa' := Same.keepT st _ _ hxa
      refine ⟨rfl, _, rfl, _, rfl, ra, xa, false, false, _, _, rfl, hra, hxa', fun D2 hD2 => ?_⟩
      refine lc_s (K := K) (walk_zipM (ivs_len _ _) (ivs_len _ _)) hD2 (by show N.w < 16777216; omega) (fun _ v j => v = .int (N.W l i j * x j)) (fun _ _ _ _ _ z => z) (fun H2 st2 => ⟨Same.keepT st2 _ _ hra, Same.keepT st2 _ _ hxa'⟩)
        (fun j y2 H1 H2 Z2 hj st2 yy2 hz2 => ?_) (fun H2 acc2 st2 hD3 hR2 => ?_)
      · obtain ⟨t, x1, x2, rfl, nt, rfl, f1, f2⟩ := yy2
        obtain rfl := ivs_at hj f1
        obtain rfl := ivs_at hj f2
        refine ⟨t, false, _, rfl, SqT.of upd_same, rfl, _, _, rfl, _, _, rfl, rfl, rfl, _, rfl, _, rfl, _, _, rfl, rfl, small_mul (ok.lo l i j) (ok.hi l i j), ?_⟩
        exact hz2 _ _ (same_new nt) rfl
      · rw [hR2.ints, ivs_ints] at hD3
        refine ⟨D2, _, rfl, SqL.of hD3, ?_⟩
        rw [sum_range]
        refine ⟨_, rfl, a, C, dx, fs, _, rfl, st2 _ _ (st _ _ ha), TC.cl, TC.nP, h1, _, _, rfl, rfl, ok.p0, ?_⟩
        exact hz _ _ st2 rfl
    · rw [hR'.ints] at hD'
      exact q _ _ st hD'
end
end K5

namespace K5
open PySem PySem.Spec PyProof.Rows L2 K5M
theorem mod_bd {p a : Int} (h : IsP p) : 0 ≤ a % p ∧ a % p < 97 := by
  have h1 := Int.emod_nonneg a (show p ≠ 0 by have := h.1; omega)
  have h2 := Int.emod_lt_of_pos a (show 0 < p by have := h.1; omega)
  have h3 := h.2.1
  exact ⟨h1, by omega⟩
theorem prodF_bd {N : NetD} (ok : N.Ok) (l : Nat) (x : Nat → Int) : Bd (prodF N.p N.w (N.W l) x) := fun k => mod_bd ok.pr
theorem kind_sq : decide (V.str (kindT true) = V.str "square") = true := decide_eq_true rfl
theorem kind_li : decide (V.str (kindT false) = V.str "square") = false := decide_eq_false (by
  intro h
  exact absurd (V.str.inj h) (by decide +kernel))
section
variable {P : Program} {w : World} {K : PySem.W.Frag} {mg : Str → Option Value} {base : Heap}
/-! ### layer_forward -/
def spFwd (K : PySem.W.Frag) (C : Addr) : Sp := fun vs H Q _ => ∃ (nv xv : V) (N : NetD) (l : Nat) (x : Nat → Int), vs = [nv, .int l, xv] ∧ NetAt K C H nv N ∧ N.Ok ∧ l < N.n ∧ Vec K H xv N.w x ∧
  ∀ r H', Same H H' → Vec K H' r N.w (fwdF N.p N.w (N.W l) (N.s l) x) → Q r H'
theorem ok_fwd {f C fP : Addr} {fd fdP : FuncData} (F : Fun K "layer_forward" "layer_forward" sFwd f fd) (T : Txt K mg) (TC : NetC K mg C)
    (GP : FnOk P w K mg base CX0 1 fP fdP ["net", "layer", "vector"] (spPrd K C)) (kP : PySem.W.keepIn K (.ref fP) = true) (bP : Binds K fdP ["net", "layer", "vector"] []) (gP : mg "product" = some (.ref fP)) :
    FnOk P w K mg base CX0 2 f fd ["net", "layer", "vector"] (spFwd K C) := by
  refine F.ok scFwd (fun vs H Q E h => ?_) (fun cdv A outer s H vs Q E hr h => ?_)
  · obtain ⟨nv, xv, N, l, x, rfl, _⟩ := h
    rfl
  · obtain ⟨nv, xv, N, l, x, rfl, hN, ok, hl, hx, q⟩ := h
    obtain ⟨a, dx, fs, wv, kv, rfl, ha, h1, h2, h3, hW, b, ks, rfl, hT, hS⟩ := id hN
    obtain ⟨kl, hkl, rfl⟩ := hS.at hl
    have w3 := ok.w3
    refine ⟨_, pss_cons (ps_set (i := 3) scFwd.nd rfl (.inl rfl) (pe_call GP hr (by rfl) gP kP bP .nil pass0 (pa_cons (pv 0) (pa_cons (pv 1) (pa_cons (pv 2) pa_nil)))))
      (pss_cons (ps_if (pt_cmpR op_eq (e_ix (e_fld (pv 0) rfl) (pv 1)) pe_str (nomark _))
        (pss_one (ps_setLc (i := 3) (own := [("number", 4)]) (by rfl) scFwd.nd rfl rfl (sw_true rfl rfl rfl (by decide +kernel)) (w_seq (pv 3))
          (blkOk_by (N := ["net", "layer", "vector", "made", "number"]) (sc := defScope sFwd) (by decide +kernel)) (fun _ _ _ _ _ => pg_name (i := 4) scFwd.nd rfl (Or.inl rfl)) (fun _ _ _ _ _ => pts_nil)
          (fun _ _ _ _ _ => pe_op op_mod (pe_op op_mul (pv 4) (pv 4)) (e_fld (pv 0) rfl)))) pss_nil)
      (pss_one (ps_ret (pe_callTy c_tup (by rfl) T.tuple bTup (pa_cons (pv 3) pa_nil))))), ?_⟩
    refine ⟨_, rfl, _, rfl, _, rfl, .ref a, _, N, l, x, rfl, hN, ok, hl, hx, fun r H1 s1 hr1 => ?_⟩
    refine ⟨_, rfl, a, C, dx, fs, _, rfl, s1 _ _ ha, TC.cl, TC.nK, h3, _, rfl, b, false, ks, l, _, rfl, rfl, Same.keepT s1 _ _ hT, atI_nat hkl, rfl, _, rfl, ?_⟩
    cases es : N.s l with
    | true =>
      rw [kind_sq]
      refine iteT ⟨_, rfl, r, true, rfl, ⟨_, SqL.of hr1⟩, fun D hD => ?_⟩
      refine lc_s (K := K) (walk_seq (ivs_len _ _)) hD (by show N.w < 16777216; omega) (fun _ v i => v = .int (fwdF N.p N.w (N.W l) (N.s l) x i)) (fun _ _ _ _ _ z => z) (fun H' st => SqL.of (st _ _ hr1)) (fun i y H0 H' Z hi st yy hz => ?_) (fun H' acc st hD' hR' => ?_)
      · obtain ⟨rfl, hy⟩ := yy
        obtain rfl := ivs_at hi hy
        have bd := prodF_bd ok l x i
        refine ⟨rfl, _, rfl, _, rfl, _, _, rfl, rfl, small_mul bd.1 bd.2, _, rfl, a, C, dx, fs, _, rfl, st _ _ (s1 _ _ ha), TC.cl, TC.nP, h1, _, _, rfl, rfl, ok.p0, ?_⟩
        refine hz _ _ (Same.refl _) ?_
        unfold fwdF
        rw [es, if_pos rfl]
      · rw [hR'.ints] at hD'
        refine ⟨_, rfl, D, _, rfl, .inl ⟨SqL.of hD', fun t ht => ?_⟩⟩
        refine q _ _ (s1.trans (st.trans (same_new ht))) ⟨t, rfl, SqT.of ?_⟩
        rw [upd_same]
    | false =>
      rw [kind_li]
      refine iteF ⟨_, rfl, r, _, rfl, .inl ⟨SqL.of hr1, fun t ht => ?_⟩⟩
      refine q _ _ (s1.trans (same_new ht)) ⟨t, rfl, SqT.of ?_⟩
      rw [upd_same]
      have e : prodF N.p N.w (N.W l) x = fwdF N.p N.w (N.W l) (N.s l) x := by
        funext i
        unfold fwdF
        rw [es, if_neg Bool.false_ne_true]
      rw [e]
end
end K5

namespace K5
open PySem PySem.Spec PyProof.Rows L2 K5M
theorem innF_bd {N : NetD} (ok : N.Ok) (l : Nat) (x sl : Nat → Int) : Bd (innF N.p N.w (N.W l) (N.s l) x sl) := fun k => by
  unfold innF
  split
  · exact mod_bd ok.pr
  · exact mod_bd ok.pr
def nBck : List Str := ["net", "layer", "vector", "slopes", "inner", "made", "matrix", "back", "k", "slope", "number", "row"]
section
variable {P : Program} {w : World} {K : PySem.W.Frag} {mg : Str → Option Value} {base : Heap}
/-! ### layer_back -/
def spBck (K : PySem.W.Frag) (C : Addr) : Sp := fun vs H Q _ => ∃ (nv xv sv : V) (N : NetD) (l : Nat) (x sl : Nat → Int), vs = [nv, .int l, xv, sv] ∧ NetAt K C H nv N ∧ N.Ok ∧ l < N.n ∧ Vec K H xv N.w x ∧ Bd x ∧ Vec K H sv N.w sl ∧
  ∀ r bv mv H', Same H H' → SqT K H' r [bv, mv] → Vec K H' bv N.w (backF N.p N.w (N.W l) (innF N.p N.w (N.W l) (N.s l) x sl)) →
    Mat K H' mv N.w (fun i k => innF N.p N.w (N.W l) (N.s l) x sl i * x k % N.p) → Q (.ref r) H'
theorem ok_bck {f C fP : Addr} {fd fdP : FuncData} (F : Fun K "layer_back" "layer_back" sBck f fd) (T : Txt K mg) (TC : NetC K mg C)
    (GP : FnOk P w K mg base CX0 1 fP fdP ["net", "layer", "vector"] (spPrd K C)) (kP : PySem.W.keepIn K (.ref fP) = true) (bP : Binds K fdP ["net", "layer", "vector"] []) (gP : mg "product" = some (.ref fP)) :
    FnOk P w K mg base CX0 2 f fd ["net", "layer", "vector", "slopes"] (spBck K C) := by
  refine F.ok scBck (fun vs H Q E h => ?_) (fun cdv A outer s H vs Q E hr h => ?_)
  · obtain ⟨nv, xv, sv, N, l, x, sl, rfl, _⟩ := h
    rfl
  · obtain ⟨nv, xv, sv, N, l, x, sl, rfl, hN, ok, hl, hx, bx, hs, q⟩ := h
    obtain ⟨a, dx, fs, wv, kv, rfl, ha, h1, h2, h3, ⟨wb, us, rfl, hU, hUR⟩, b, ks, rfl, hT, hS⟩ := id hN
    obtain ⟨kl, hkl, rfl⟩ := hS.at hl
    obtain ⟨ul, hul, mc, rows, rfl, hMc, hMR⟩ := hUR.at hl
    obtain ⟨xa, rfl, hxa⟩ := id hx
    obtain ⟨sa, rfl, hsa⟩ := id hs
    have w3 := ok.w3
    have wsz : N.w < 16777216 := by omega
    -- what follows the two lists
    obtain ⟨u, hu, hq⟩ : ∃ u, PSs (cxOf CX0 P w K mg base nBck "layer_back" (defScope sBck) f cdv A outer s H E).nox ((defBody sBck).drop 2) u ∧
        ∀ (nx : L2.St → Hp → Prop) (m5 : Option V) (r : Addr) (H1 : Hp), Same H H1 → H1 r = some (.lst (ivs N.w (innF N.p N.w (N.W l) (N.s l) x sl))) →
          u { nx := nx, rt := Q } [some (.ref a), some (.int l), some (.ref xa), some (.ref sa), some (.ref r), m5, none, none, none, none, none, none] H1 := by
      refine ⟨_, pss_cons (ps_set (i := 6) scBck.nd rfl (.inl rfl) (e_ix (e_fld (pv 0) rfl) (pv 1)))
        (pss_cons (ps_set (i := 7) scBck.nd rfl (.inl rfl) (pe_lst pa_nil))
        (pss_cons (ps_for PassesOwn.never rfl (pi_range1 (by rfl) T.range (pa_cons (pe_callB c_len (by rfl) T.len bLen (pa_cons (pv 6) pa_nil)) pa_nil)) (pg_name (i := 8) scBck.nd rfl (.inr rfl))
          (pss_one (ps_expr (pe_bm PySem.F.plainAttrs_list PySem.F.slot_list_append PySem.F.type_list_append mt_append (pv 7) (pa_cons
            (pe_op op_mod (pe_callB c_sum (by rfl) T.sum bSum (pa_cons (pe_lc (own := [("slope", 9), ("row", 11)]) (by rfl) scBck.nd (w_zip (by rfl) T.zip (pa_cons (pv 4) (pa_cons (pv 6) pa_nil)))
              (blkOk_by (N := nBck) (sc := defScope sBck) (by decide +kernel))
              (fun _ _ _ _ _ => g_seq (n := 2) rfl (pgs_cons (pg_name (i := 9) scBck.nd rfl (Or.inl rfl)) (pgs_cons (pg_name (i := 11) scBck.nd rfl (Or.inl rfl)) pgs_nil))) (fun _ _ _ _ _ => pts_nil)
              (fun _ _ _ _ _ => pe_op op_mul (pv 9) (e_ix (pv 11) (pv 8)))) pa_nil)) (e_fld (pv 0) rfl)) pa_nil)))))
        (pss_one (ps_ret (pe_tup (pa_cons (pe_callTy c_tup (by rfl) T.tuple bTup (pa_cons (pv 7) pa_nil))
          (pa_cons (pe_callTy c_tup (by rfl) T.tuple bTup (pa_cons (pe_lc (own := [("slope", 9)]) (by rfl) scBck.nd (w_seq (pv 4)) (blkOk_by (N := nBck) (sc := defScope sBck) (by decide +kernel))
            (fun _ _ _ _ _ => pg_name (i := 9) scBck.nd rfl (Or.inr rfl)) (fun _ _ _ _ _ => pts_nil)
            (fun _ _ _ _ _ => pe_callTy c_tup (by rfl) T.tuple bTup (pa_cons (pe_lc (own := [("number", 10)]) (by rfl) scBck.nd (w_seq (pv 2))
              (blkOk_by (N := nBck) (sc := relS (mkSc [(".0", .local), ("slope", .cell), ("tuple", .globalImplicit), ("net", .free), ("vector", .free)]) (defScope sBck)) (by decide +kernel))
              (fun _ _ _ _ _ => pg_name (i := 10) scBck.nd rfl (Or.inl rfl)) (fun _ _ _ _ _ => pts_nil)
              (fun _ _ _ _ _ => pe_op op_mod (pe_op op_mul (pv 9) (pv 10)) (e_fld (pv 0) rfl))) pa_nil))) pa_nil)) pa_nil))))))), fun nx m5 r H1 s1 hr1 => ?_⟩
      have hMc1 := Same.keepT s1 _ _ hMc
      -- matrix = net.weights[layer]; back = []
      refine ⟨_, rfl, a, C, dx, fs, _, rfl, s1 _ _ ha, TC.cl, TC.nW, h2, _, rfl, wb, false, us, l, _, rfl, rfl, Same.keepT s1 _ _ hU, atI_nat hul, ?_⟩
      refine ⟨Nat.zero_le _, fun o no => ?_⟩
      have s2 : Same H1 (upd H1 o (.lst [])) := same_new no
      -- for k in range(len(matrix))
      refine ⟨_, rfl, mc, false, rows, rfl, Same.keepT s2 _ _ hMc1, _, rfl, by omega, by rw [hMR.1]; omega, ?_⟩
      refine for_it (walk_rngI (n := N.w) (by rw [hMR.1])) (fun i σ H' => ∃ k8, σ = [some (.ref a), some (.int l), some (.ref xa), some (.ref sa), some (.ref r), m5, some (.ref mc), some (.ref o), k8, none, none, none] ∧ Same H1 H' ∧
        H' o = some (.lst (ivs i (backF N.p N.w (N.W l) (innF N.p N.w (N.W l) (N.s l) x sl))))) ⟨none, rfl, s2, upd_same⟩ (fun _ _ _ _ _ => trivial) (fun i y σ H2 H2' hi hP yy => ?_) (fun σ H2 hP => ?_)
      · obtain ⟨k8, rfl, s3, ho⟩ := hP
        obtain ⟨rfl, rfl⟩ := yy
        refine ⟨_, rfl, .inl ⟨rfl, _, SqL.of ho⟩, ?_⟩
        have hr3 := s3 _ _ hr1
        have hMc3 := Same.keepT s3 _ _ hMc1
        refine ⟨_, rfl, _, rfl, r, mc, true, false, _, _, rfl, SqL.of hr3, hMc3, fun D hD => ?_⟩
        refine lc_s (K := K) (walk_zipM (ivs_len _ _) hMR.1) hD wsz (fun _ v j => v = .int (innF N.p N.w (N.W l) (N.s l) x sl j * N.W l j i)) (fun _ _ _ _ _ z => z) (fun H4 st => ⟨SqL.of (st _ _ hr3), Same.keepT st _ _ hMc3⟩)
          (fun j y4 H4 H5 Z hj st yy4 hz => ?_) (fun H4 acc st hD' hR' => ?_)
        · obtain ⟨t, x1, x2, rfl, nt, rfl, f1, f2⟩ := yy4
          obtain rfl := ivs_at hj f1
          obtain ⟨rb, rfl, hrb⟩ := (hMR.2 j x2 f2).keep (Same.keepT (s1.trans (s3.trans (st.trans (same_new (o := .tup [.int (innF N.p N.w (N.W l) (N.s l) x sl j), x2]) nt)))))
          have bd := innF_bd ok l x sl j
          refine ⟨t, false, _, rfl, SqT.of upd_same, rfl, _, _, rfl, _, _, rfl, rfl, rfl, _, rfl, _, rfl, _, rfl, rb, false, _, (i : Nat), _, rfl, rfl, hrb, atI_nat (ivs_get hi), _, _, rfl, rfl, small_mul bd.1 bd.2, ?_⟩
          exact hz _ _ (same_new nt) rfl
        · rw [hR'.ints, ivs_ints] at hD'
          refine ⟨D, _, rfl, SqL.of hD', ?_⟩
          rw [sum_range]
          refine ⟨_, rfl, a, C, dx, fs, _, rfl, st _ _ (s3 _ _ (s1 _ _ ha)), TC.cl, TC.nP, h1, _, _, rfl, rfl, ok.p0, ?_⟩
          refine ⟨o, _, _, rfl, rfl, st _ _ ho, by rw [ivs_len]; show i < 16777216; omega, ?_⟩
          exact ⟨_, rfl, same_upd (s3.trans st) no, by rw [upd_same, ivs_succ]; rfl⟩
      · obtain ⟨k8, rfl, s3, ho⟩ := hP
        have hr3 := s3 _ _ hr1
        -- return (tuple(back), tuple([..]))
        refine ⟨_, rfl, o, _, rfl, .inl ⟨SqL.of ho, fun t1 ht1 => ?_⟩⟩
        have s4 : Same H2 (upd H2 t1 (.tup (ivs N.w (backF N.p N.w (N.W l) (innF N.p N.w (N.W l) (N.s l) x sl))))) := same_new ht1
        have s14 := s1.trans (s3.trans s4)
        refine ⟨_, rfl, r, true, rfl, ⟨_, SqL.of (s4 _ _ hr3)⟩, fun D hD => ?_⟩
        refine lc_s (K := K) (walk_seq (ivs_len _ _)) hD wsz (fun H v i => Vec K H v N.w (fun k => innF N.p N.w (N.W l) (N.s l) x sl i * x k % N.p)) (fun _ _ _ _ k z => z.keep k) (fun H4 st => SqL.of (st _ _ (s4 _ _ hr3)))
          (fun i y4 H4 H5 Z hi st yy4 hz => ?_) (fun H4 acc st hD' hR' => ?_)
        · obtain ⟨rfl, hy⟩ := yy4
          obtain rfl := ivs_at hi hy
          have hxa4 := Same.keepT (s14.trans st) _ _ hxa
          have bd := innF_bd ok l x sl i
          refine ⟨rfl, _, rfl, xa, false, rfl, ⟨_, hxa4⟩, fun D2 hD2 => ?_⟩
          refine lc_s (K := K) (walk_seq (ivs_len _ _)) hD2 wsz (fun _ v k => v = .int (innF N.p N.w (N.W l) (N.s l) x sl i * x k % N.p)) (fun _ _ _ _ _ z => z) (fun H6 st2 => Same.keepT st2 _ _ hxa4)
            (fun j y6 H6 H7 Z2 hj st2 yy6 hz2 => ?_) (fun H6 acc2 st2 hD3 hR3 => ?_)
          · obtain ⟨rfl, hy2⟩ := yy6
            obtain rfl := ivs_at hj hy2
            refine ⟨rfl, _, rfl, _, rfl, _, _, rfl, rfl, small_mul bd.1 bd.2, _, rfl, a, C, dx, fs, _, rfl, st2 _ _ (st _ _ (s14 _ _ ha)), TC.cl, TC.nP, h1, _, _, rfl, rfl, ok.p0, ?_⟩
            exact hz2 _ _ (Same.refl _) rfl
          · rw [hR3.ints] at hD3
            refine ⟨D2, _, rfl, .inl ⟨SqL.of hD3, fun t2 ht2 => hz _ _ (st2.trans (same_new ht2)) ⟨t2, rfl, SqT.of upd_same⟩⟩⟩
        · refine ⟨D, acc, rfl, .inl ⟨SqL.of hD', fun t3 ht3 => ⟨by show 2 ≤ 16777216; omega, fun rt hrt => ?_⟩⟩⟩
          have s5 : Same H4 (upd H4 t3 (.tup acc)) := same_new ht3
          have s6 : Same (upd H4 t3 (.tup acc)) (upd (upd H4 t3 (.tup acc)) rt (.tup [.ref t1, .ref t3])) := same_new hrt
          refine q rt (.ref t1) (.ref t3) _ (s14.trans (st.trans (s5.trans s6))) (SqT.of upd_same) ⟨t1, rfl, Same.keepT (st.trans (s5.trans s6)) _ _ (SqT.of upd_same)⟩ ⟨t3, acc, rfl, Same.keepT s6 _ _ (SqT.of upd_same), hR'.mono fun u i _ z => z.keep (Same.keepT (s5.trans s6))⟩
    refine ⟨_, pss_cons (ps_setLc (i := 4) (own := [("slope", 9)]) (by rfl) scBck.nd rfl rfl (sw_true rfl rfl rfl (by decide +kernel)) (w_seq (pv 3))
        (blkOk_by (N := nBck) (sc := defScope sBck) (by decide +kernel)) (fun _ _ _ _ _ => pg_name (i := 9) scBck.nd rfl (Or.inl rfl)) (fun _ _ _ _ _ => pts_nil)
        (fun _ _ _ _ _ => pe_op op_mod (pe_callTy call_int1 (by rfl) T.int bInt (pa_cons (pv 9) pa_nil)) (e_fld (pv 0) rfl)))
      (pss_cons (ps_if (pt_cmpR op_eq (e_ix (e_fld (pv 0) rfl) (pv 1)) pe_str (nomark _))
        (pss_cons (ps_set (i := 5) scBck.nd rfl (.inl rfl) (pe_call GP hr (by rfl) gP kP bP .nil pass0 (pa_cons (pv 0) (pa_cons (pv 1) (pa_cons (pv 2) pa_nil)))))
        (pss_one (ps_setLc (i := 4) (own := [("number", 10), ("slope", 9)]) (by rfl) scBck.nd rfl rfl (sw_true rfl rfl rfl (by decide +kernel)) (w_zip (by rfl) T.zip (pa_cons (pv 5) (pa_cons (pv 4) pa_nil)))
          (blkOk_by (N := nBck) (sc := defScope sBck) (by decide +kernel)) (fun _ _ _ _ _ => g_seq (n := 2) rfl (pgs_cons (pg_name (i := 10) scBck.nd rfl (Or.inl rfl)) (pgs_cons (pg_name (i := 9) scBck.nd rfl (Or.inl rfl)) pgs_nil))) (fun _ _ _ _ _ => pts_nil)
          (fun _ _ _ _ _ => pe_op op_mod (pe_op op_mul (pe_op op_mul pe_int (pv 10)) (pv 9)) (e_fld (pv 0) rfl))))) pss_nil) hu), ?_⟩
    -- inner = [int(slope) % net.prime for slope in slopes]
    refine ⟨_, rfl, sa, false, rfl, ⟨_, hsa⟩, fun D hD => ?_⟩
    refine lc_s (K := K) (walk_seq (ivs_len _ _)) hD wsz (fun _ v i => v = .int (sl i % N.p)) (fun _ _ _ _ _ z => z) (fun H' st => Same.keepT st _ _ hsa) (fun i y H0 H' Z hi st yy hz => ?_) (fun H' acc st hD' hR' => ?_)
    · obtain ⟨rfl, hy⟩ := yy
      obtain rfl := ivs_at hi hy
      exact ⟨rfl, _, rfl, .inl ⟨_, rfl, _, rfl, a, C, dx, fs, _, rfl, st _ _ ha, TC.cl, TC.nP, h1, _, _, rfl, rfl, ok.p0, hz _ _ (Same.refl _) rfl⟩⟩
    · rw [hR'.ints] at hD'
      -- if net.kinds[layer] == 'square'
      refine ⟨_, rfl, a, C, dx, fs, _, rfl, st _ _ ha, TC.cl, TC.nK, h3, _, rfl, b, false, ks, l, _, rfl, rfl, Same.keepT st _ _ hT, atI_nat hkl, rfl, _, rfl, ?_⟩
      cases es : N.s l with
      | true =>
        rw [kind_sq]
        refine iteT ⟨_, rfl, _, rfl, _, rfl, .ref a, _, N, l, x, rfl, hN.same st, ok, hl, hx.keep (Same.keepT st), fun r H1 s1 hr1 => ?_⟩
        have hD1 := s1 _ _ hD'
        refine ⟨_, rfl, _, rfl, r, D, true, true, _, _, rfl, SqL.of hr1, SqL.of hD1, fun D2 hD2 => ?_⟩
        refine lc_s (K := K) (walk_zipM (ivs_len _ _) (ivs_len _ _)) hD2 wsz (fun _ v i => v = .int (innF N.p N.w (N.W l) (N.s l) x sl i)) (fun _ _ _ _ _ z => z) (fun H4 st4 => ⟨SqL.of (st4 _ _ hr1), SqL.of (st4 _ _ hD1)⟩)
          (fun j y4 H4 H5 Z hj st4 yy4 hz => ?_) (fun H4 acc4 st4 hD4 hR4 => ?_)
        · obtain ⟨t, x1, x2, rfl, nt, rfl, f1, f2⟩ := yy4
          obtain rfl := ivs_at hj f1
          obtain rfl := ivs_at hj f2
          have bd := prodF_bd ok l x j
          refine ⟨t, false, _, rfl, SqT.of upd_same, rfl, _, _, rfl, _, _, rfl, rfl, rfl, _, rfl, _, _, rfl, rfl, .inl ⟨by decide, by decide⟩, _, rfl, _, _, rfl, rfl, .inl ⟨by omega, by omega⟩, ?_⟩
          refine ⟨_, rfl, a, C, dx, fs, _, rfl, same_new nt _ _ (st4 _ _ (s1 _ _ (st _ _ ha))), TC.cl, TC.nP, h1, _, _, rfl, rfl, ok.p0, ?_⟩
          refine hz _ _ (same_new nt) ?_
          unfold innF
          rw [es, if_pos rfl]
        · rw [hR4.ints] at hD4
          exact hq _ _ _ _ (st.trans (s1.trans st4)) hD4
      | false =>
        rw [kind_li]
        refine iteF (hq _ _ _ _ st ?_)
        have e : (fun i => sl i % N.p) = innF N.p N.w (N.W l) (N.s l) x sl := by
          funext i
          unfold innF
          rw [es, if_neg Bool.false_ne_true]
        rw [← e]
        exact hD'
end
end K5

namespace K5
open PySem PySem.Spec PyProof.Rows L2 K5M
/-- tuple(x) of a list or a tuple -/
theorem rTup_of {K : PySem.W.Frag} {c : Bool} {H : Hp} {a : Addr} {xs : List V} {Q : VK} (h : SqK c K H a xs) (q : ∀ r H', Same H H' → SqT K H' r xs → Q (.ref r) H') : rTup K [.ref a] H Q := by
  cases c with
  | true => exact ⟨a, xs, rfl, .inl ⟨h, fun l hl => q l _ (same_new hl) (SqT.of upd_same)⟩⟩
  | false => exact ⟨a, xs, rfl, .inr ⟨h, q a H (Same.refl _) h⟩⟩
theorem rows_last {R : V → Nat → Prop} {i : Nat} {vs : List V} (h : RowsR R (i + 1) vs) : ∃ u, atI vs (-1) = some u ∧ R u i := by
  obtain ⟨u, hu, ru⟩ := h.at (Nat.lt_succ_self i)
  refine ⟨u, ?_, ru⟩
  have e : vs = vs.take i ++ [u] := by
    have e1 : vs.take (i + 1) = vs := List.take_of_length_le (Nat.le_of_eq h.1)
    have e2 : vs.take (i + 1) = vs.take i ++ [u] := by
      rw [List.take_succ, hu]
      rfl
    rw [e1] at e2
    exact e2
  rw [e]
  exact atI_last _ _
theorem rows_cut {R : V → Nat → Prop} {i : Nat} {vs : List V} (h : RowsR R (i + 1) vs) : RowsR R i (cutV vs none (some (-1))) := by
  have e : cutV vs none (some (-1)) = vs.take i := by
    unfold cutV
    rw [HT.sIx_none]
    have e2 : HT.sIx vs.length vs.length (some (-1)) = i := by
      unfold HT.sIx
      rw [h.1]
      show (if (-1 : Int) < 0 then ((-1 : Int) + ((i + 1 : Nat) : Int)).toNat else _) = i
      rw [if_pos (by decide)]
      omega
    rw [e2]
    rfl
  rw [e]
  refine ⟨by rw [List.length_take, h.1]; omega, fun j u q => ?_⟩
  by_cases hj : j < i
  · rw [List.getElem?_take_of_lt hj] at q
    exact h.2 j u q
  · rw [List.getElem?_eq_none (by rw [List.length_take]; omega)] at q
    cases q
theorem rows_rev {R : V → Nat → Prop} {n : Nat} {vs : List V} (h : RowsR R n vs) : RowsR (fun u i => R u (n - 1 - i)) n vs.reverse := by
  refine ⟨by rw [List.length_reverse]; exact h.1, fun i u q => ?_⟩
  have hi : i < n := by
    have := (List.getElem?_eq_some_iff.mp q).1
    rw [List.length_reverse, h.1] at this
    exact this
  rw [List.getElem?_reverse (by rw [h.1]; exact hi), h.1] at q
  exact h.2 _ u q
theorem inpF_bd {N : NetD} (ok : N.Ok) {x : Nat → Int} (bx : Bd x) : ∀ l, Bd (inpF N.p N.w N.W N.s x l)
  | 0 => bx
  | l + 1 => fun k => by
    show 0 ≤ fwdF N.p N.w (N.W l) (N.s l) (inpF N.p N.w N.W N.s x l) k ∧ fwdF N.p N.w (N.W l) (N.s l) (inpF N.p N.w N.W N.s x l) k < 97
    unfold fwdF
    split
    · exact mod_bd ok.pr
    · exact mod_bd ok.pr
/-- the slope of a weight from any slopes of what came out -/
def wlF (N : NetD) (x ls : Nat → Int) (l i k : Nat) : Int :=
  innF N.p N.w (N.W l) (N.s l) (inpF N.p N.w N.W N.s x l) (slF N.p N.n N.w N.W N.s x ls (N.n - 1 - l)) i * inpF N.p N.w N.W N.s x l k % N.p
theorem lst_ne_tup {xs ys : List V} : HO.lst xs ≠ HO.tup ys := nofun
section
variable {P : Program} {w : World} {K : PySem.W.Frag} {mg : Str → Option Value} {base : Heap}
/-! ### layer_inputs -/
def spInp (K : PySem.W.Frag) (C : Addr) : Sp := fun vs H Q _ => ∃ (nv xv : V) (N : NetD) (x : Nat → Int), vs = [nv, xv] ∧ NetAt K C H nv N ∧ N.Ok ∧ SeqV K H xv (ivs N.w x) ∧
  ∀ r iv ov H', Same H H' → SqT K H' r [iv, ov] → TupR K H' iv N.n (fun u l => Vec K H' u N.w (inpF N.p N.w N.W N.s x l)) → Vec K H' ov N.w (inpF N.p N.w N.W N.s x N.n) → Q (.ref r) H'
theorem ok_inp {f C fF fL : Addr} {fd fdF fdL : FuncData} (F : Fun K "layer_inputs" "layer_inputs" sInp f fd) (T : Txt K mg) (TC : NetC K mg C)
    (GL : FnOk P w K mg base CX0 1 fL fdL ["self"] (spLen K C)) (ML : Meth K C "__len__" fL) (bL : Binds K fdL ["self"] [])
    (GF : FnOk P w K mg base CX0 2 fF fdF ["net", "layer", "vector"] (spFwd K C)) (kF : PySem.W.keepIn K (.ref fF) = true) (bF : Binds K fdF ["net", "layer", "vector"] []) (gF : mg "layer_forward" = some (.ref fF)) :
    FnOk P w K mg base CX0 3 f fd ["net", "vector"] (spInp K C) := by
  refine F.ok scInp (fun vs H Q E h => ?_) (fun cdv A outer s H vs Q E hr h => ?_)
  · obtain ⟨nv, xv, N, x, rfl, _⟩ := h
    rfl
  · obtain ⟨nv, xv, N, x, rfl, hN, ok, ⟨xa, c, rfl, hx⟩, q⟩ := h
    obtain ⟨a, dx, fs, wv, kv, rfl, ha, _⟩ := id hN
    have n4 := ok.n4
    refine ⟨_, pss_cons (ps_set (i := 2) scInp.nd rfl (.inl rfl) (pe_lst (pa_cons (pe_callTy c_tup (by rfl) T.tuple bTup (pa_cons (pv 1) pa_nil)) pa_nil)))
      (pss_cons (ps_for PassesOwn.never rfl (pi_range1 (by rfl) T.range (pa_cons (pe_callB (call_lenO TC.cl ML GL hr bL pass0) (by rfl) T.len bLen (pa_cons (pv 0) pa_nil)) pa_nil)) (pg_name (i := 3) scInp.nd rfl (.inl rfl))
        (pss_one (ps_expr (pe_bm PySem.F.plainAttrs_list PySem.F.slot_list_append PySem.F.type_list_append mt_append (pv 2) (pa_cons
          (pe_call GF hr (by rfl) gF kF bF .nil pass0 (pa_cons (pv 0) (pa_cons (pv 3) (pa_cons (e_ix (pv 2) (pe_un un_neg pe_int)) pa_nil)))) pa_nil)))))
      (pss_one (ps_ret (pe_tup (pa_cons (pe_callTy c_tup (by rfl) T.tuple bTup (pa_cons (pe_slice sl_list (pv 2) po_none (po_some (pe_un un_neg pe_int))) pa_nil))
        (pa_cons (e_ix (pv 2) (pe_un un_neg pe_int)) pa_nil)))))), ?_⟩
    -- found = [tuple(vector)]
    refine ⟨_, rfl, ?_⟩
    unfold tNil
    refine rTup_of hx fun t H1 s1 ht => ⟨by show 1 ≤ 16777216; omega, fun D hD => ?_⟩
    have s2 : Same H1 (upd H1 D (.lst [.ref t])) := same_new hD
    -- for layer in range(len(net))
    refine ⟨_, rfl, a, dx, fs, rfl, s2 _ _ (s1 _ _ ha), _, N, rfl, hN.same (s1.trans s2), N.n, rfl, ⟨by omega, by omega⟩, _, rfl, by omega, by omega, ?_⟩
    refine for_it (walk_rngI (n := N.n) rfl) (fun i σ H' => ∃ k3 acc, σ = [some (.ref a), some (.ref xa), some (.ref D), k3] ∧ Same H1 H' ∧ H' D = some (.lst acc) ∧ RowsR (fun u l => Vec K H' u N.w (inpF N.p N.w N.W N.s x l)) (i + 1) acc)
      ⟨none, _, rfl, s2, upd_same, rfl, fun i u e => ?_⟩ (fun _ _ _ _ _ => trivial) (fun i y σ H2 H2' hi hP yy => ?_) (fun σ H2 hP => ?_)
    · cases i with
      | zero =>
        have e' : V.ref t = u := Option.some.inj e
        subst e'
        exact ⟨t, rfl, Same.keepT s2 _ _ ht⟩
      | succ i => simp at e
    · obtain ⟨k3, acc, rfl, s3, hD3, hR⟩ := hP
      obtain ⟨rfl, rfl⟩ := yy
      obtain ⟨u, hu, ru⟩ := rows_last hR
      refine ⟨_, rfl, .inl ⟨rfl, _, SqL.of hD3⟩, ?_⟩
      refine ⟨_, rfl, _, rfl, _, rfl, _, rfl, D, true, acc, -1, u, rfl, rfl, SqL.of hD3, hu, _, u, N, i, _, rfl, hN.same (s1.trans s3), ok, hi, ru, fun r H4 s4 hr4 => ?_⟩
      have hD4 := s4 _ _ hD3
      refine ⟨D, acc, r, rfl, rfl, hD4, by rw [hR.1]; show i + 1 < 16777216; omega, ?_⟩
      have k5 : KeepT K H4 (upd H4 D (.lst (acc ++ [r]))) := keepT_lst hD4
      exact ⟨_, _, rfl, same_upd (s3.trans s4) hD, upd_same, (hR.mono fun u j _ z => z.keep ((Same.keepT s4).trans k5)).snoc (hr4.keep k5)⟩
    · obtain ⟨k3, acc, rfl, s3, hD3, hR⟩ := hP
      -- return (tuple(found[:-1]), found[-1])
      refine ⟨_, rfl, _, rfl, _, rfl, D, acc, rfl, SqL.of hD3, fun p hp => ?_⟩
      have s4 : Same H2 (upd H2 p (.lst (cutV acc none (some (-1))))) := same_new hp
      dsimp only
      refine rTup_of (c := true) (SqL.of upd_same) fun t2 H5 s5 ht2 => ?_
      obtain ⟨u, hu, ru⟩ := rows_last hR
      have hcut := rows_cut hR
      refine ⟨_, rfl, _, rfl, D, true, acc, -1, u, rfl, rfl, SqL.of (s5 _ _ (s4 _ _ hD3)), hu, by show 2 ≤ 16777216; omega, fun t3 ht3 => ?_⟩
      have s6 : Same H5 (upd H5 t3 (.tup [.ref t2, u])) := same_new ht3
      exact q t3 _ _ _ (s1.trans (s3.trans (s4.trans (s5.trans s6)))) (SqT.of upd_same) ⟨t2, _, rfl, Same.keepT s6 _ _ ht2, hcut.mono fun v l _ z => z.keep (Same.keepT (s4.trans (s5.trans s6)))⟩ (ru.keep (Same.keepT (s4.trans (s5.trans s6))))
end
end K5

namespace K5
open PySem PySem.Spec PyProof.Rows L2 K5M
/-- n - 1, n - 2, .., 0 -/
theorem walk_down {a b : Int} {n : Nat} (ha : a = 0) (hb : b = (n : Int)) : Walk (Itc (a + (((b - a).toNat : Nat) : Int) - 1) (-1) (b - a).toNat) n (fun _ => True) (YFn fun i => .int ((n - 1 - i : Nat) : Int)) := by
  subst ha hb
  have e : ((n : Int) - 0).toNat = n := by omega
  rw [e]
  refine ⟨fun _ _ hi _ => hi, fun _ _ => Nat.le_refl _, fun i _ _ _ hi _ y => ⟨y.1, ?_⟩⟩
  rw [y.2]
  congr 1
  omega
section
variable {P : Program} {w : World} {K : PySem.W.Frag} {mg : Str → Option Value} {base : Heap}
/-! ### slopes_back -/
def spSlb (K : PySem.W.Frag) (C : Addr) : Sp := fun vs H Q _ => ∃ (nv iv sv : V) (N : NetD) (x ls : Nat → Int), vs = [nv, iv, sv] ∧ NetAt K C H nv N ∧ N.Ok ∧ Bd x ∧ TupR K H iv N.n (fun u l => Vec K H u N.w (inpF N.p N.w N.W N.s x l)) ∧ Vec K H sv N.w ls ∧
  ∀ r bv mv H', Same H H' → SqT K H' r [bv, mv] → Ten K H' mv N.n N.w (wlF N x ls) → Q (.ref r) H'
theorem ok_slb {f C fB fL : Addr} {fd fdB fdL : FuncData} (F : Fun K "slopes_back" "slopes_back" sSlb f fd) (T : Txt K mg) (TC : NetC K mg C)
    (GL : FnOk P w K mg base CX0 1 fL fdL ["self"] (spLen K C)) (ML : Meth K C "__len__" fL) (bL : Binds K fdL ["self"] [])
    (GB : FnOk P w K mg base CX0 2 fB fdB ["net", "layer", "vector", "slopes"] (spBck K C)) (kB : PySem.W.keepIn K (.ref fB) = true) (bB : Binds K fdB ["net", "layer", "vector", "slopes"] []) (gB : mg "layer_back" = some (.ref fB)) :
    FnOk P w K mg base CX0 3 f fd ["net", "inputs", "slopes"] (spSlb K C) := by
  refine F.ok scSlb (fun vs H Q E h => ?_) (fun cdv A outer s H vs Q E hr h => ?_)
  · obtain ⟨nv, iv, sv, N, x, ls, rfl, _⟩ := h
    rfl
  · obtain ⟨nv, iv, sv, N, x, ls, rfl, hN, ok, bx, ⟨ia, is, rfl, hI, hIR⟩, hs, q⟩ := h
    obtain ⟨a, dx, fs, wv, kv, rfl, ha, _⟩ := id hN
    have n4 := ok.n4
    refine ⟨_, pss_cons (ps_set (i := 3) scSlb.nd rfl (.inl rfl) (pe_lst pa_nil))
      (pss_cons (ps_for PassesOwn.never rfl (pi_revR (by rfl) T.rev (prg_1 (by rfl) T.range (pe_callB (call_lenO TC.cl ML GL hr bL pass0) (by rfl) T.len bLen (pa_cons (pv 0) pa_nil)))) (pg_name (i := 4) scSlb.nd rfl (.inl rfl))
        (pss_cons (ps_asg (pe_call GB hr (by rfl) gB kB bB .nil pass0 (pa_cons (pv 0) (pa_cons (pv 4) (pa_cons (e_ix (pv 1) (pv 4)) (pa_cons (pv 2) pa_nil)))))
          (g_seq (n := 2) rfl (pgs_cons (pg_name (i := 2) scSlb.nd rfl (.inl rfl)) (pgs_cons (pg_name (i := 5) scSlb.nd rfl (.inl rfl)) pgs_nil))))
        (pss_one (ps_expr (pe_bm PySem.F.plainAttrs_list PySem.F.slot_list_append PySem.F.type_list_append mt_append (pv 3) (pa_cons (pv 5) pa_nil))))))
      (pss_one (ps_ret (pe_tup (pa_cons (pv 2) (pa_cons (RT.pe_tupRev rfl (by rfl) T.tuple (by rfl) T.rev (pv 3)) pa_nil)))))), ?_⟩
    -- found = []
    refine ⟨Nat.zero_le _, fun D hD => ?_⟩
    have s1 : Same H (upd H D (.lst [])) := same_new hD
    -- for layer in reversed(range(len(net)))
    refine ⟨_, rfl, a, dx, fs, rfl, s1 _ _ ha, _, N, rfl, hN.same s1, N.n, rfl, ⟨by omega, by omega⟩, _, rfl, by decide, by decide, by omega, by omega, ?_⟩
    refine for_it (walk_down (n := N.n) rfl rfl) (fun j σ H' => ∃ sv k4 m5 acc, σ = [some (.ref a), some (.ref ia), some sv, some (.ref D), k4, m5] ∧ Same H H' ∧ H' D = some (.lst acc) ∧ Vec K H' sv N.w (slF N.p N.n N.w N.W N.s x ls j) ∧
        RowsR (fun u t => Mat K H' u N.w (wlF N x ls (N.n - 1 - t))) j acc)
      ⟨sv, none, none, [], rfl, s1, upd_same, hs.keep (Same.keepT s1), RowsR.nil _⟩ (fun _ _ _ _ _ => trivial) (fun j y σ H2 H2' hj hP yy => ?_) (fun σ H2 hP => ?_)
    · obtain ⟨sv, k4, m5, acc, rfl, s2, hD2, hsv, hR⟩ := hP
      obtain ⟨rfl, rfl⟩ := yy
      have hl : N.n - 1 - j < N.n := by omega
      obtain ⟨u, hu, ru⟩ := hIR.at hl
      -- slopes, matrix = layer_back(net, layer, inputs[layer], slopes)
      refine ⟨_, rfl, _, rfl, _, rfl, _, rfl, ia, false, is, _, u, rfl, rfl, Same.keepT s2 _ _ hI, atI_nat hu, _, rfl, _, u, sv, N, N.n - 1 - j, _, _, rfl, hN.same s2, ok, hl, ru.keep (Same.keepT s2), inpF_bd ok bx _, hsv, fun r bv mv H3 s3 hr3 hb3 hm3 => ?_⟩
      refine ⟨r, false, [bv, mv], rfl, hr3, rfl, bv, [mv], rfl, mv, [], rfl, rfl, ?_⟩
      -- found.append(matrix)
      have hD3 := s3 _ _ hD2
      have k5 : KeepT K H3 (upd H3 D (.lst (acc ++ [mv]))) := keepT_lst hD3
      refine ⟨_, rfl, .inl ⟨rfl, _, SqL.of hD3⟩, _, rfl, D, acc, mv, rfl, rfl, hD3, by rw [hR.1]; show j < 16777216; omega, ?_⟩
      refine ⟨bv, _, some mv, _, rfl, same_upd (s2.trans s3) hD, upd_same, hb3.keep k5, (hR.mono fun v t _ z => z.keep ((Same.keepT s3).trans k5)).snoc ?_⟩
      have e : N.n - 1 - (N.n - 1 - j) = j := by omega
      have hm4 := hm3.keep k5
      unfold wlF
      rw [e]
      exact hm4
    · obtain ⟨sv, k4, m5, acc, rfl, s2, hD2, hsv, hR⟩ := hP
      refine ⟨_, rfl, _, rfl, D, acc, rfl, SqL.of hD2, fun t ht => ⟨by show 2 ≤ 16777216; omega, fun r hr4 => ?_⟩⟩
      have s3 : Same H2 (upd H2 t (.tup acc.reverse)) := same_new ht
      have s4 : Same (upd H2 t (.tup acc.reverse)) (upd (upd H2 t (.tup acc.reverse)) r (.tup [sv, .ref t])) := same_new hr4
      refine q r sv (.ref t) _ (s2.trans (s3.trans s4)) (SqT.of upd_same) ⟨t, _, rfl, Same.keepT s4 _ _ (SqT.of upd_same), (rows_rev hR).mono fun v l hl z => ?_⟩
      have e : N.n - 1 - (N.n - 1 - l) = l := by omega
      have z2 : Mat K H2 v N.w (wlF N x ls (N.n - 1 - (N.n - 1 - l))) := z
      rw [e] at z2
      exact z2.keep (Same.keepT (s3.trans s4))
/-! ### loss_slopes -/
def spLss (K : PySem.W.Frag) (C : Addr) : Sp := fun vs H Q _ => ∃ (nv ov tv : V) (N : NetD) (o t : Nat → Int), vs = [nv, ov, tv] ∧ NetAt K C H nv N ∧ N.Ok ∧ Vec K H ov N.w o ∧ SeqV K H tv (ivs N.w t) ∧ ∀ r H', Same H H' → Vec K H' r N.w (lsF N.p o t) → Q r H'
theorem ok_lss {f C : Addr} {fd : FuncData} {k : Nat} (F : Fun K "loss_slopes" "loss_slopes" sLss f fd) (T : Txt K mg) (TC : NetC K mg C) : FnOk P w K mg base CX0 (k + 1) f fd ["net", "out", "target"] (spLss K C) := by
  refine F.ok scLss (fun vs H Q E h => ?_) (fun cdv A outer s H vs Q E hr h => ?_)
  · obtain ⟨nv, ov, tv, N, o, t, rfl, _⟩ := h
    rfl
  · obtain ⟨nv, ov, tv, N, o, t, rfl, hN, ok, ⟨oa, rfl, ho⟩, ⟨ta, c, rfl, ht⟩, q⟩ := h
    obtain ⟨a, dx, fs, wv, kv, rfl, ha, h1, _⟩ := id hN
    have w3 := ok.w3
    refine ⟨_, pss_one (ps_ret (pe_callTy c_tup (by rfl) T.tuple bTup (pa_cons (pe_lc (own := [("number", 3), ("aim", 4)]) (by rfl) scLss.nd (w_zip (by rfl) T.zip (pa_cons (pv 1) (pa_cons (pv 2) pa_nil)))
      (blkOk_by (N := ["net", "out", "target", "number", "aim"]) (sc := defScope sLss) (by decide +kernel))
      (fun _ _ _ _ _ => g_seq (n := 2) rfl (pgs_cons (pg_name (i := 3) scLss.nd rfl (Or.inl rfl)) (pgs_cons (pg_name (i := 4) scLss.nd rfl (Or.inl rfl)) pgs_nil))) (fun _ _ _ _ _ => pts_nil)
      (fun _ _ _ _ _ => pe_op op_mod (pe_op op_mul pe_int (pe_op op_sub (pv 3) (pv 4))) (e_fld (pv 0) rfl))) pa_nil))), ?_⟩
    refine ⟨_, rfl, _, rfl, oa, ta, false, c, _, _, rfl, ho, ht, fun D hD => ?_⟩
    refine lc_s (K := K) (walk_zipM (ivs_len _ _) (ivs_len _ _)) hD (by show N.w < 16777216; omega) (fun _ v j => v = .int (lsF N.p o t j)) (fun _ _ _ _ _ z => z) (fun H2 st => ⟨Same.keepT st _ _ ho, sqk_same st ht⟩)
      (fun j y H1 H2 Z hj st yy hz => ?_) (fun H2 acc st hD2 hR => ?_)
    · obtain ⟨p, x1, x2, rfl, np, rfl, f1, f2⟩ := yy
      obtain rfl := ivs_at hj f1
      obtain rfl := ivs_at hj f2
      refine ⟨p, false, _, rfl, SqT.of upd_same, rfl, _, _, rfl, _, _, rfl, rfl, rfl, _, rfl, _, rfl, _, _, rfl, rfl, _, _, rfl, rfl, .inl ⟨by decide, by decide⟩, ?_⟩
      refine ⟨_, rfl, a, C, dx, fs, _, rfl, same_new np _ _ (st _ _ ha), TC.cl, TC.nP, h1, _, _, rfl, rfl, ok.p0, ?_⟩
      exact hz _ _ (same_new np) rfl
    · rw [hR.ints] at hD2
      exact ⟨D, _, rfl, .inl ⟨SqL.of hD2, fun r hr2 => q _ _ (st.trans (same_new hr2)) ⟨r, rfl, SqT.of upd_same⟩⟩⟩
/-! ### no_slopes -/
theorem rep_nought (n : Nat) : List.replicate n (V.int 0) = ivs n (fun _ => 0) := by simp [ivs, List.map_const']
def spNos (K : PySem.W.Frag) (C : Addr) : Sp := fun vs H Q _ => ∃ (nv : V) (N : NetD), vs = [nv] ∧ NetAt K C H nv N ∧ N.Ok ∧ ∀ r H', Same H H' → Ten K H' r N.n N.w (fun _ _ _ => 0) → Q r H'
theorem ok_nos {f C : Addr} {fd : FuncData} {k : Nat} (F : Fun K "no_slopes" "no_slopes" sNos f fd) (T : Txt K mg) (TC : NetC K mg C) : FnOk P w K mg base CX0 (k + 1) f fd ["net"] (spNos K C) := by
  refine F.ok scNos (fun vs H Q E h => ?_) (fun cdv A outer s H vs Q E hr h => ?_)
  · obtain ⟨nv, N, rfl, _⟩ := h
    rfl
  · obtain ⟨nv, N, rfl, hN, ok, q⟩ := h
    obtain ⟨a, dx, fs, wv, kv, rfl, ha, h1, h2, h3, ⟨wa, us, rfl, hU, hUR⟩, hK⟩ := id hN
    have w3 := ok.w3
    have w1 := ok.w1
    have n4 := ok.n4
    refine ⟨_, pss_one (ps_ret (pe_callTy c_tup (by rfl) T.tuple bTup (pa_cons (pe_lc (own := [("matrix", 1)]) (by rfl) scNos.nd (w_seq (e_fld (pv 0) rfl))
      (blkOk_by (N := ["net", "matrix", "row"]) (sc := defScope sNos) (by decide +kernel)) (fun _ _ _ _ _ => pg_name (i := 1) scNos.nd rfl (Or.inl rfl)) (fun _ _ _ _ _ => pts_nil)
      (fun _ _ _ _ _ => pe_callTy c_tup (by rfl) T.tuple bTup (pa_cons (pe_lc (own := [("row", 2)]) (by rfl) scNos.nd (w_seq (pv 1))
        (blkOk_by (N := ["net", "matrix", "row"]) (sc := relS (mkSc [(".0", .local), ("matrix", .local), ("tuple", .globalImplicit)]) (defScope sNos)) (by decide +kernel))
        (fun _ _ _ _ _ => pg_name (i := 2) scNos.nd rfl (Or.inl rfl)) (fun _ _ _ _ _ => pts_nil)
        (fun _ _ _ _ _ => pe_op o_rep1 (pe_tup (pa_cons pe_int pa_nil)) (pe_callB c_len (by rfl) T.len bLen (pa_cons (pv 2) pa_nil)))) pa_nil))) pa_nil))), ?_⟩
    refine ⟨_, rfl, a, C, dx, fs, _, rfl, ha, TC.cl, TC.nW, h2, wa, false, rfl, ⟨us, hU⟩, fun D hD => ?_⟩
    refine lc_s (K := K) (walk_seq hUR.1) hD (by show N.n < 16777216; omega) (fun H v _ => Mat K H v N.w (fun _ _ => 0)) (fun _ _ _ _ k z => z.keep k) (fun H2 st => Same.keepT st _ _ hU) (fun l y H1 H2 Z hl st yy hz => ?_) (fun H2 acc st hD2 hR => ?_)
    · obtain ⟨rfl, hy⟩ := yy
      obtain ⟨ma, rows, rfl, hM, hMR⟩ := (hUR.2 l y hy).keep (Same.keepT st)
      refine ⟨rfl, _, rfl, ma, false, rfl, ⟨rows, hM⟩, fun D2 hD2 => ?_⟩
      refine lc_s (K := K) (walk_seq hMR.1) hD2 (by show N.w < 16777216; omega) (fun H v _ => Vec K H v N.w (fun _ => 0)) (fun _ _ _ _ k z => z.keep k) (fun H3 st2 => Same.keepT st2 _ _ hM) (fun i y2 H3 H4 Z2 hi st2 yy2 hz2 => ?_) (fun H3 acc2 st2 hD3 hR2 => ?_)
      · obtain ⟨rfl, hy2⟩ := yy2
        obtain ⟨ra, rfl, hra⟩ := (hMR.2 i y2 hy2).keep (Same.keepT st2)
        refine ⟨rfl, by show 1 ≤ 16777216; omega, fun p hp => ?_⟩
        have s1 : Same H4 (upd H4 p (.tup [.int 0])) := same_new hp
        refine ⟨_, rfl, ra, false, _, rfl, Same.keepT s1 _ _ hra, ?_⟩
        rw [ivs_len]
        refine ⟨p, N.w, .int 0, rfl, rfl, SqT.of upd_same, by omega, by omega, fun e => hz2 _ _ s1 ⟨p, rfl, ?_⟩, fun e p2 hp2 => hz2 _ _ (s1.trans (same_new hp2)) ⟨p2, rfl, ?_⟩⟩
        · have e1 : N.w = 1 := by omega
          rw [e1]
          exact SqT.of upd_same
        · rw [Int.toNat_natCast, rep_nought]
          exact SqT.of upd_same
      · exact ⟨D2, acc2, rfl, .inl ⟨SqL.of hD3, fun r hr2 => hz _ _ (st2.trans (same_new hr2)) ⟨r, acc2, rfl, SqT.of upd_same, hR2.mono fun v j _ z => z.keep (Same.keepT (same_new hr2))⟩⟩⟩
    · exact ⟨D, acc, rfl, .inl ⟨SqL.of hD2, fun r hr2 => q _ _ (st.trans (same_new hr2)) ⟨r, acc, rfl, SqT.of upd_same, hR.mono fun v j _ z => z.keep (Same.keepT (same_new hr2))⟩⟩⟩
end
end K5

namespace K5
open PySem PySem.Spec PyProof.Rows L2 K5M
def addF (p : Int) (A B : Nat → Nat → Nat → Int) (l i k : Nat) : Int := (A l i k + 1 * B l i k) % p
def nAdd : List Str := ["net", "one", "other", "times", "found", "first", "second", "rows", "row", "more", "number", "by"]
section
variable {P : Program} {w : World} {K : PySem.W.Frag} {mg : Str → Option Value} {base : Heap}
/-! ### added -/
def spAdd (K : PySem.W.Frag) (C : Addr) : Sp := fun vs H Q _ => ∃ (nv ov tv : V) (N : NetD) (A B : Nat → Nat → Nat → Int), vs = [nv, ov, tv, .int 1] ∧ NetAt K C H nv N ∧ N.Ok ∧ Ten K H ov N.n N.w A ∧ Ten K H tv N.n N.w B ∧
  ∀ r H', Same H H' → Ten K H' r N.n N.w (addF N.p A B) → Q r H'
theorem ok_add {f C : Addr} {fd : FuncData} {k : Nat} (F : Fun K "added" "added" sAdd f fd) (T : Txt K mg) (TC : NetC K mg C) : FnOk P w K mg base CX0 (k + 1) f fd ["net", "one", "other", "times"] (spAdd K C) := by
  refine F.ok scAdd (fun vs H Q E h => ?_) (fun cdv A outer s H vs Q E hr h => ?_)
  · obtain ⟨nv, ov, tv, N, A, B, rfl, _⟩ := h
    rfl
  · obtain ⟨nv, ov, tv, N, TA, TB, rfl, hN, ok, ⟨oa, os, rfl, hO, hOR⟩, ⟨ta, ts, rfl, hT, hTR⟩, q⟩ := h
    obtain ⟨a, dx, fs, wv, kv, rfl, ha, h1, _⟩ := id hN
    have w3 := ok.w3
    have n4 := ok.n4
    refine ⟨_, pss_cons (ps_set (i := 4) scAdd.nd rfl (.inl rfl) (pe_lst pa_nil))
      (pss_cons (ps_for PassesOwn.never rfl (w_zip (by rfl) T.zip (pa_cons (pv 1) (pa_cons (pv 2) pa_nil))) (g_seq (n := 2) rfl (pgs_cons (pg_name (i := 5) scAdd.nd rfl (.inl rfl)) (pgs_cons (pg_name (i := 6) scAdd.nd rfl (.inl rfl)) pgs_nil)))
        (pss_cons (ps_set (i := 7) scAdd.nd rfl (.inl rfl) (pe_lst pa_nil))
        (pss_cons (ps_for PassesOwn.never rfl (w_zip (by rfl) T.zip (pa_cons (pv 5) (pa_cons (pv 6) pa_nil))) (g_seq (n := 2) rfl (pgs_cons (pg_name (i := 8) scAdd.nd rfl (.inl rfl)) (pgs_cons (pg_name (i := 9) scAdd.nd rfl (.inl rfl)) pgs_nil)))
          (pss_one (ps_expr (pe_bm PySem.F.plainAttrs_list PySem.F.slot_list_append PySem.F.type_list_append mt_append (pv 7) (pa_cons
            (pe_callTy c_tup (by rfl) T.tuple bTup (pa_cons (pe_lc (own := [("number", 10), ("by", 11)]) (by rfl) scAdd.nd (w_zip (by rfl) T.zip (pa_cons (pv 8) (pa_cons (pv 9) pa_nil)))
              (blkOk_by (N := nAdd) (sc := defScope sAdd) (by decide +kernel))
              (fun _ _ _ _ _ => g_seq (n := 2) rfl (pgs_cons (pg_name (i := 10) scAdd.nd rfl (Or.inl rfl)) (pgs_cons (pg_name (i := 11) scAdd.nd rfl (Or.inl rfl)) pgs_nil))) (fun _ _ _ _ _ => pts_nil)
              (fun _ _ _ _ _ => pe_op op_mod (pe_op op_add (pv 10) (pe_op op_mul (pv 3) (pv 11))) (e_fld (pv 0) rfl))) pa_nil)) pa_nil)))))
        (pss_one (ps_expr (pe_bm PySem.F.plainAttrs_list PySem.F.slot_list_append PySem.F.type_list_append mt_append (pv 4) (pa_cons (pe_callTy c_tup (by rfl) T.tuple bTup (pa_cons (pv 7) pa_nil)) pa_nil)))))))
      (pss_one (ps_ret (pe_callTy c_tup (by rfl) T.tuple bTup (pa_cons (pv 4) pa_nil))))), ?_⟩
    -- found = []
    refine ⟨Nat.zero_le _, fun D hD => ?_⟩
    have s1 : Same H (upd H D (.lst [])) := same_new hD
    -- for first, second in zip(one, other)
    refine ⟨_, rfl, _, rfl, oa, ta, false, false, _, _, rfl, Same.keepT s1 _ _ hO, Same.keepT s1 _ _ hT, ?_⟩
    refine for_it (walk_zipM hOR.1 hTR.1) (fun l σ H' => ∃ y5 y6 y7 y8 y9 acc, σ = [some (.ref a), some (.ref oa), some (.ref ta), some (.int 1), some (.ref D), y5, y6, y7, y8, y9, none, none] ∧ Same H H' ∧ H' D = some (.lst acc) ∧
        RowsR (fun u l => Mat K H' u N.w (addF N.p TA TB l)) l acc)
      ⟨none, none, none, none, none, [], rfl, s1, upd_same, RowsR.nil _⟩ (fun l σ H' _ hP => ?_) (fun l y σ H2 H2' hl hP yy => ?_) (fun σ H2 hP => ?_)
    · obtain ⟨_, _, _, _, _, _, _, st, _⟩ := hP
      exact ⟨Same.keepT st _ _ hO, Same.keepT st _ _ hT⟩
    · obtain ⟨y5, y6, y7, y8, y9, acc, rfl, s2, hD2, hR⟩ := hP
      obtain ⟨p, x1, x2, rfl, np, rfl, f1, f2⟩ := yy
      have s3 : Same H2 (upd H2 p (.tup [x1, x2])) := same_new np
      obtain ⟨m1, r1, rfl, hm1, hm1R⟩ := (hOR.2 l x1 f1).keep (Same.keepT (s2.trans s3))
      obtain ⟨m2, r2, rfl, hm2, hm2R⟩ := (hTR.2 l x2 f2).keep (Same.keepT (s2.trans s3))
      refine ⟨p, false, _, rfl, SqT.of upd_same, rfl, _, _, rfl, _, _, rfl, rfl, ?_⟩
      -- rows = []
      refine ⟨Nat.zero_le _, fun E hE => ?_⟩
      have s4 : Same (upd H2 p (.tup [.ref m1, .ref m2])) (upd (upd H2 p (.tup [.ref m1, .ref m2])) E (.lst [])) := same_new hE
      -- for row, more in zip(first, second)
      refine ⟨_, rfl, _, rfl, m1, m2, false, false, _, _, rfl, Same.keepT s4 _ _ hm1, Same.keepT s4 _ _ hm2, ?_⟩
      refine for_it (walk_zipM hm1R.1 hm2R.1) (fun i σ H' => ∃ y8 y9 acc2, σ = [some (.ref a), some (.ref oa), some (.ref ta), some (.int 1), some (.ref D), some (.ref m1), some (.ref m2), some (.ref E), y8, y9, none, none] ∧
          Same (upd H2 p (.tup [.ref m1, .ref m2])) H' ∧ H' E = some (.lst acc2) ∧ RowsR (fun u i => Vec K H' u N.w (addF N.p TA TB l i)) i acc2)
        ⟨y8, y9, [], rfl, s4, upd_same, RowsR.nil _⟩ (fun i σ H' _ hP => ?_) (fun i y σ H3 H3' hi hP yy => ?_) (fun σ H3 hP => ?_)
      · obtain ⟨_, _, _, _, st, _⟩ := hP
        exact ⟨Same.keepT st _ _ hm1, Same.keepT st _ _ hm2⟩
      · obtain ⟨z8, z9, acc2, rfl, s5, hE3, hR2⟩ := hP
        obtain ⟨p2, x3, x4, rfl, np2, rfl, f3, f4⟩ := yy
        have s6 : Same H3 (upd H3 p2 (.tup [x3, x4])) := same_new np2
        obtain ⟨v1, rfl, hv1⟩ := (hm1R.2 i x3 f3).keep (Same.keepT (s5.trans s6))
        obtain ⟨v2, rfl, hv2⟩ := (hm2R.2 i x4 f4).keep (Same.keepT (s5.trans s6))
        refine ⟨p2, false, _, rfl, SqT.of upd_same, rfl, _, _, rfl, _, _, rfl, rfl, ?_⟩
        refine ⟨_, rfl, .inl ⟨rfl, _, SqL.of (s6 _ _ hE3)⟩, ?_⟩
        refine ⟨_, rfl, _, rfl, v1, v2, false, false, _, _, rfl, hv1, hv2, fun D2 hD2 => ?_⟩
        refine lc_s (K := K) (walk_zipM (ivs_len _ _) (ivs_len _ _)) hD2 (by show N.w < 16777216; omega) (fun _ v j => v = .int (addF N.p TA TB l i j)) (fun _ _ _ _ _ z => z) (fun H4 st => ⟨Same.keepT st _ _ hv1, Same.keepT st _ _ hv2⟩)
          (fun j y H4 H5 Z hj st yy hz => ?_) (fun H4 acc3 st hD4 hR4 => ?_)
        · obtain ⟨p3, x5, x6, rfl, np3, rfl, f5, f6⟩ := yy
          obtain rfl := ivs_at hj f5
          obtain rfl := ivs_at hj f6
          refine ⟨p3, false, _, rfl, SqT.of upd_same, rfl, _, _, rfl, _, _, rfl, rfl, rfl, _, rfl, _, rfl, _, rfl, _, _, rfl, rfl, .inl ⟨by decide, by decide⟩, _, _, rfl, rfl, ?_⟩
          refine ⟨_, rfl, a, C, dx, fs, _, rfl, same_new np3 _ _ (st _ _ (s6 _ _ (s5 _ _ (s3 _ _ (s2 _ _ ha))))), TC.cl, TC.nP, h1, _, _, rfl, rfl, ok.p0, ?_⟩
          exact hz _ _ (same_new np3) rfl
        · rw [hR4.ints] at hD4
          refine ⟨D2, _, rfl, .inl ⟨SqL.of hD4, fun r hr2 => ?_⟩⟩
          have s7 : Same H4 (upd H4 r (.tup (ivs N.w (addF N.p TA TB l i)))) := same_new hr2
          have hE5 := s7 _ _ (st _ _ (s6 _ _ hE3))
          have k8 := keepT_lst (K := K) (o' := .lst (acc2 ++ [.ref r])) hE5
          refine ⟨E, acc2, .ref r, rfl, rfl, hE5, by rw [hR2.1]; show i < 16777216; omega, ?_⟩
          refine ⟨_, _, _, rfl, same_upd (s5.trans (s6.trans (st.trans s7))) hE, upd_same, ?_⟩
          exact (hR2.mono fun u j _ z => z.keep ((Same.keepT (s6.trans (st.trans s7))).trans k8)).snoc ⟨r, rfl, k8 _ _ (SqT.of upd_same)⟩
      · obtain ⟨z8, z9, acc2, rfl, s5, hE3, hR2⟩ := hP
        have hD3 := s5 _ _ (s3 _ _ hD2)
        -- found.append(tuple(rows))
        refine ⟨_, rfl, .inl ⟨rfl, _, SqL.of hD3⟩, ?_⟩
        refine ⟨_, rfl, E, acc2, rfl, .inl ⟨SqL.of hE3, fun r hr2 => ?_⟩⟩
        have s7 : Same H3 (upd H3 r (.tup acc2)) := same_new hr2
        have hD5 := s7 _ _ hD3
        have k8 := keepT_lst (K := K) (o' := .lst (acc ++ [.ref r])) hD5
        refine ⟨D, acc, .ref r, rfl, rfl, hD5, by rw [hR.1]; show l < 16777216; omega, ?_⟩
        refine ⟨_, _, _, _, _, _, rfl, same_upd (s2.trans (s3.trans (s5.trans s7))) hD, upd_same, ?_⟩
        exact (hR.mono fun u j _ z => z.keep ((Same.keepT (s3.trans (s5.trans s7))).trans k8)).snoc ⟨r, acc2, rfl, k8 _ _ (SqT.of upd_same), hR2.mono fun u j _ z => z.keep ((Same.keepT s7).trans k8)⟩
    · obtain ⟨y5, y6, y7, y8, y9, acc, rfl, s2, hD2, hR⟩ := hP
      refine ⟨_, rfl, D, acc, rfl, .inl ⟨SqL.of hD2, fun r hr2 => ?_⟩⟩
      have s3 : Same H2 (upd H2 r (.tup acc)) := same_new hr2
      exact q _ _ (s2.trans s3) ⟨r, acc, rfl, SqT.of upd_same, hR.mono fun u j _ z => z.keep (Same.keepT s3)⟩
/-! ### portion_slopes -/
/-- m examples, each a pair of vectors; lists or tuples -/
def PortAt (K : PySem.W.Frag) (H : Hp) (v : V) (m w : Nat) (xs ts : Nat → Nat → Int) : Prop :=
  ∃ us, SeqV K H v us ∧ RowsR (fun u e => ∃ xv tv, SeqV K H u [xv, tv] ∧ SeqV K H xv (ivs w (xs e)) ∧ SeqV K H tv (ivs w (ts e))) m us
def spPor (K : PySem.W.Frag) (C : Addr) : Sp := fun vs H Q _ => ∃ (nv pv : V) (N : NetD) (m : Nat) (xs ts : Nat → Nat → Int), vs = [nv, pv] ∧ NetAt K C H nv N ∧ N.Ok ∧ PortAt K H pv m N.w xs ts ∧ (∀ e, Bd (xs e)) ∧
  ∀ r H', Same H H' → Ten K H' r N.n N.w (totF N.p N.n N.w N.W N.s xs ts m) → Q r H'
theorem ok_por {f C fN fI fA fS fL : Addr} {fd fdN fdI fdA fdS fdL : FuncData} (F : Fun K "portion_slopes" "portion_slopes" sPor f fd)
    (GN : FnOk P w K mg base CX0 3 fN fdN ["net"] (spNos K C)) (kN : PySem.W.keepIn K (.ref fN) = true) (bN : Binds K fdN ["net"] []) (gN : mg "no_slopes" = some (.ref fN))
    (GI : FnOk P w K mg base CX0 3 fI fdI ["net", "vector"] (spInp K C)) (kI : PySem.W.keepIn K (.ref fI) = true) (bI : Binds K fdI ["net", "vector"] []) (gI : mg "layer_inputs" = some (.ref fI))
    (GA : FnOk P w K mg base CX0 3 fA fdA ["net", "one", "other", "times"] (spAdd K C)) (kA : PySem.W.keepIn K (.ref fA) = true) (bA : Binds K fdA ["net", "one", "other", "times"] []) (gA : mg "added" = some (.ref fA))
    (GS : FnOk P w K mg base CX0 3 fS fdS ["net", "inputs", "slopes"] (spSlb K C)) (kS : PySem.W.keepIn K (.ref fS) = true) (bS : Binds K fdS ["net", "inputs", "slopes"] []) (gS : mg "slopes_back" = some (.ref fS))
    (GL : FnOk P w K mg base CX0 3 fL fdL ["net", "out", "target"] (spLss K C)) (kL : PySem.W.keepIn K (.ref fL) = true) (bL : Binds K fdL ["net", "out", "target"] []) (gL : mg "loss_slopes" = some (.ref fL)) :
    FnOk P w K mg base CX0 4 f fd ["net", "portion"] (spPor K C) := by
  refine F.ok scPor (fun vs H Q E h => ?_) (fun cdv A outer s H vs Q E hr h => ?_)
  · obtain ⟨nv, pv, N, m, xs, ts, rfl, _⟩ := h
    rfl
  · obtain ⟨nv, pv, N, m, xs, ts, rfl, hN, ok, ⟨us, ⟨pa, c, rfl, hp⟩, hPR⟩, bx, q⟩ := h
    refine ⟨_, pss_cons (ps_set (i := 2) scPor.nd rfl (.inl rfl) (pe_call GN hr (by rfl) gN kN bN .nil pass0 (pa_cons (L2.pv 0) pa_nil)))
      (pss_cons (ps_for PassesOwn.never rfl (w_seq (L2.pv 1)) (g_seq (n := 2) rfl (pgs_cons (pg_name (i := 3) scPor.nd rfl (.inl rfl)) (pgs_cons (pg_name (i := 4) scPor.nd rfl (.inl rfl)) pgs_nil)))
        (pss_cons (ps_asg (pe_call GI hr (by rfl) gI kI bI .nil pass0 (pa_cons (L2.pv 0) (pa_cons (L2.pv 3) pa_nil)))
          (g_seq (n := 2) rfl (pgs_cons (pg_name (i := 5) scPor.nd rfl (.inl rfl)) (pgs_cons (pg_name (i := 6) scPor.nd rfl (.inl rfl)) pgs_nil))))
        (pss_one (ps_set (i := 2) scPor.nd rfl (.inl rfl) (pe_call GA hr (by rfl) gA kA bA .nil pass0 (pa_cons (L2.pv 0) (pa_cons (L2.pv 2) (pa_cons
          (e_ix (pe_call GS hr (by rfl) gS kS bS .nil pass0 (pa_cons (L2.pv 0) (pa_cons (L2.pv 5) (pa_cons
            (pe_call GL hr (by rfl) gL kL bL .nil pass0 (pa_cons (L2.pv 0) (pa_cons (L2.pv 6) (pa_cons (L2.pv 4) pa_nil)))) pa_nil)))) pe_int) (pa_cons pe_int pa_nil)))))))))
      (pss_one (ps_ret (L2.pv 2)))), ?_⟩
    -- total = no_slopes(net)
    refine ⟨_, rfl, nv, N, rfl, hN, ok, fun r0 H1 s1 hr0 => ?_⟩
    -- for vector, target in portion
    refine ⟨_, rfl, pa, c, rfl, ⟨us, sqk_same s1 hp⟩, ?_⟩
    refine for_it (walk_seq hPR.1) (fun e σ H' => ∃ tot y3 y4 y5 y6, σ = [some nv, some (.ref pa), some tot, y3, y4, y5, y6] ∧ Same H H' ∧ Ten K H' tot N.n N.w (totF N.p N.n N.w N.W N.s xs ts e))
      ⟨r0, none, none, none, none, rfl, s1, hr0⟩ (fun e σ H' _ hP => ?_) (fun e y σ H2 H2' he hP yy => ?_) (fun σ H2 hP => ?_)
    · obtain ⟨_, _, _, _, _, _, st, _⟩ := hP
      exact sqk_same st hp
    · obtain ⟨tot, y3, y4, y5, y6, rfl, s2, hT⟩ := hP
      obtain ⟨rfl, hy⟩ := yy
      obtain ⟨xv, tv, ⟨ea, ce, rfl, hE⟩, hx, ht⟩ := hPR.2 e y hy
      refine ⟨ea, ce, [xv, tv], rfl, sqk_same s2 hE, rfl, xv, [tv], rfl, tv, [], rfl, rfl, ?_⟩
      -- inputs, out = layer_inputs(net, vector)
      refine ⟨_, rfl, _, rfl, nv, xv, N, xs e, rfl, hN.same s2, ok, hx.same s2, fun r iv ov H3 s3 hr3 hiv hov => ?_⟩
      refine ⟨r, false, [iv, ov], rfl, hr3, rfl, iv, [ov], rfl, ov, [], rfl, rfl, ?_⟩
      -- total = added(..)
      refine ⟨_, rfl, _, rfl, _, rfl, _, rfl, _, rfl, _, rfl, _, rfl, nv, ov, tv, N, _, ts e, rfl, hN.same (s2.trans s3), ok, hov, ht.same (s2.trans s3), fun r4 H4 s4 hr4 => ?_⟩
      refine ⟨nv, iv, r4, N, xs e, _, rfl, hN.same (s2.trans (s3.trans s4)), ok, bx e, ?_, hr4, fun r5 bv mv H5 s5 hr5 hm5 => ?_⟩
      · exact hiv.keep (Same.keepT s4) fun u l _ z => z.keep (Same.keepT s4)
      · refine ⟨r5, false, [bv, mv], 1, mv, rfl, rfl, hr5, atI_nat (j := 1) rfl, nv, tot, mv, N, _, _, rfl, hN.same (s2.trans (s3.trans (s4.trans s5))), ok, hT.keep (Same.keepT (s3.trans (s4.trans s5))), hm5, fun r6 H6 s6 hr6 => ?_⟩
        exact ⟨r6, _, _, _, _, rfl, s2.trans (s3.trans (s4.trans (s5.trans s6))), hr6⟩
    · obtain ⟨tot, y3, y4, y5, y6, rfl, s2, hT⟩ := hP
      exact ⟨_, rfl, q _ _ s2 hT⟩
end
end K5

namespace K5
open PySem PySem.Spec PyProof.Rows L2 K5M
/-- a list of whole numbers -/
def IsInts (vs : List V) : Prop := ∀ (i : Nat) (u : V), vs[i]? = some u → ∃ z, u = V.int z
theorem IsInts.nil : IsInts [] := fun i u e => by simp at e
theorem IsInts.snoc {vs : List V} (h : IsInts vs) (z : Int) : IsInts (vs ++ [.int z]) := fun i u e => by
  by_cases hi : i < vs.length
  · rw [List.getElem?_append_left hi] at e
    exact h i u e
  · have hm : u ∈ vs ++ [V.int z] := List.mem_of_getElem? e
    rcases List.mem_append.mp hm with q | q
    · obtain ⟨j, hj⟩ := List.getElem?_of_mem q
      exact h j u hj
    · exact ⟨z, List.mem_singleton.mp q⟩
theorem IsInts.set {vs : List V} (h : IsInts vs) (j : Nat) (z : Int) : IsInts (vs.set j (.int z)) := fun i u e => by
  rw [List.getElem?_set] at e
  split at e
  · split at e
    · exact ⟨z, (Option.some.inj e).symm⟩
    · cases e
  · exact h i u e
theorem IsInts.map (ns : List Int) : IsInts (ns.map V.int) := fun i u e => by
  rw [List.getElem?_map] at e
  cases q : ns[i]? with
  | none => rw [q] at e; cases e
  | some z =>
    rw [q] at e
    exact ⟨z, (Option.some.inj e).symm⟩
theorem p47 : (0 : Int) < 2147483647 := by decide
theorem p29 : (0 : Int) < 2147483629 := by decide
def forBody (s : Stmt) : List Stmt := match s with
  | .For _ _ b _ _ => b
  | _ => []
def nLdr : List Str := ["_law_script", "_law_many", "_law_cell", "_law_rests", "_law_draws_here", "_law_k", "_law_spot", "_law_mixed"]
section
variable {P : Program} {w : World} {K : PySem.W.Frag} {mg : Str → Option Value} {base : Heap}
/-! ### _law_draws -/
def spLdr (K : PySem.W.Frag) : Sp := fun vs H Q _ => ∃ (a : Addr) (ns : List Int), vs = [.ref a, .int 150] ∧ SqL K H a (ns.map V.int) ∧ ns.length ≤ 63 ∧ ∀ r dv H', Same H H' → H r = none → H' r = some (.lst dv) → IsInts dv → Q (.ref r) H'
theorem ok_ldr {f : Addr} {fd : FuncData} {k : Nat} (F : Fun K "_law_draws" "_law_draws" sLdr f fd) (T : Txt K mg) : FnOk P w K mg base CX0 (k + 1) f fd ["_law_script", "_law_many"] (spLdr K) := by
  refine F.ok scLdr (fun vs H Q E h => ?_) (fun cdv A outer s H vs Q E hr h => ?_)
  · obtain ⟨a, ns, rfl, _⟩ := h
    rfl
  · obtain ⟨a, ns, rfl, hS, hn, q⟩ := h
    -- the last three statements of a turn
    obtain ⟨u, hu, hq⟩ : ∃ u, PSs (cxOf CX0 P w K mg base nLdr "_law_draws" (defScope sLdr) f cdv A outer s H E).nox ((forBody ((defBody sLdr).getD 2 (.Pass ⟨0, 0, 0, 0⟩))).drop 2) u ∧
        ∀ (D0 : Ends) (z : Int) (i : Nat) (R D : Addr) (y6 y7 : Option V) (dv : List V) (H1 : Hp), H1 D = some (.lst dv) → dv.length ≤ 1000 →
          (∀ (z7 z8 : Int), D0.nx [some (.ref a), some (.int 150), some (.int z), some (.ref R), some (.ref D), some (.int (i : Nat)), y6, some (.int z7)] (upd H1 D (.lst (dv ++ [.int z8])))) →
          u D0 [some (.ref a), some (.int 150), some (.int z), some (.ref R), some (.ref D), some (.int (i : Nat)), y6, y7] H1 := by
      refine ⟨_, pss_cons (ps_set (i := 7) scLdr.nd rfl (.inl rfl) (pe_op op_mod (pe_callTy call_int1 (by rfl) T.int bInt (pa_cons (pe_op op_add (pe_op op_add (pe_op op_mul (pv 2) pe_int) (pe_op op_mul (pv 5) pe_int)) pe_int) pa_nil)) pe_int))
        (pss_cons (ps_set (i := 7) scLdr.nd rfl (.inl rfl) (pe_op op_mod (pe_callTy call_int1 (by rfl) T.int bInt (pa_cons (pe_op op_add (pe_op op_fdiv (pe_op op_mul (pv 7) (pv 7)) pe_int) (pv 7)) pa_nil)) pe_int))
        (pss_one (ps_expr (pe_bm PySem.F.plainAttrs_list PySem.F.slot_list_append PySem.F.type_list_append mt_append (pv 4) (pa_cons
          (pe_op op_mod (pe_callTy call_int1 (by rfl) T.int bInt (pa_cons (pe_op op_add (pe_op op_fdiv (pe_op op_mul (pv 7) (pv 7)) pe_int) (pe_op op_mul (pv 5) pe_int)) pa_nil)) pe_int) pa_nil))))), fun D0 z i R D y6 y7 dv H1 hD hl hx => ?_⟩
      have b1 := Int.emod_nonneg (z * 48271 + (i : Int) * 69621 + 11) (show (2147483647 : Int) ≠ 0 by decide)
      have b2 := Int.emod_lt_of_pos (z * 48271 + (i : Int) * 69621 + 11) (show (0 : Int) < 2147483647 by decide)
      refine ⟨_, rfl, _, _, rfl, rfl, .inr ⟨by decide, by decide⟩, _, rfl, _, _, rfl, rfl, .inr ⟨by decide, by decide⟩, _, _, rfl, rfl, _, _, rfl, rfl, .inl ⟨_, rfl, _, _, rfl, rfl, p47, ?_⟩⟩
      generalize (z * 48271 + (i : Int) * 69621 + 11) % 2147483647 = m at b1 b2 ⊢
      have c1 := Int.emod_nonneg (m * m / 4096 + m) (show (2147483629 : Int) ≠ 0 by decide)
      have c2 := Int.emod_lt_of_pos (m * m / 4096 + m) (show (0 : Int) < 2147483629 by decide)
      refine ⟨_, rfl, _, rfl, _, _, rfl, rfl, .inl ⟨by omega, by omega⟩, _, _, rfl, rfl, ⟨by decide, by decide⟩, _, rfl, _, _, rfl, rfl, .inl ⟨_, rfl, _, _, rfl, rfl, p29, ?_⟩⟩
      generalize (m * m / 4096 + m) % 2147483629 = m2 at c1 c2 ⊢
      refine ⟨_, rfl, .inl ⟨rfl, _, SqL.of hD⟩, _, rfl, _, rfl, _, _, rfl, rfl, .inl ⟨by omega, by omega⟩, _, _, rfl, rfl, ⟨by decide, by decide⟩, _, rfl, _, _, rfl, rfl, .inr ⟨by decide, by decide⟩, _, _, rfl, rfl, .inl ⟨_, rfl, _, _, rfl, rfl, p29, ?_⟩⟩
      exact ⟨D, dv, _, rfl, rfl, hD, small1000 hl, hx _ _⟩
    refine ⟨_, pss_cons (ps_setLc (i := 3) (own := [("_law_cell", 2)]) (by rfl) scLdr.nd rfl rfl (sw_true rfl rfl rfl (by decide +kernel)) (w_seq (pv 0))
        (blkOk_by (N := nLdr) (sc := defScope sLdr) (by decide +kernel)) (fun _ _ _ _ _ => pg_name (i := 2) scLdr.nd rfl (Or.inl rfl)) (fun _ _ _ _ _ => pts_nil)
        (fun _ _ _ _ _ => pe_callB call_abs (by rfl) T.abs bAbs (pa_cons (pe_callTy call_int1 (by rfl) T.int bInt (pa_cons (pv 2) pa_nil)) pa_nil)))
      (pss_cons (ps_set (i := 4) scLdr.nd rfl (.inl rfl) (pe_lst pa_nil))
      (pss_cons (ps_for PassesOwn.never rfl (pi_range1 (by rfl) T.range (pa_cons (pv 1) pa_nil)) (pg_name (i := 5) scLdr.nd rfl (.inl rfl))
        (pss_cons (ps_set (i := 2) scLdr.nd rfl (.inl rfl) (pv 5))
        (pss_cons (ps_if (pt_cmpR op_gt (pe_callB c_len (by rfl) T.len bLen (pa_cons (pv 0) pa_nil)) pe_int (nomark _))
          (pss_cons (ps_set (i := 6) scLdr.nd rfl (.inl rfl) (pe_op op_mod (pv 5) (pe_callB c_len (by rfl) T.len bLen (pa_cons (pv 0) pa_nil))))
          (pss_cons (ps_set (i := 2) scLdr.nd rfl (.inl rfl) (pe_callTy call_int1 (by rfl) T.int bInt (pa_cons (e_ix (pv 0) (pv 6)) pa_nil)))
          (pss_one (ps_if (PW.pt (pw_and (pt_cmpR op_ge (pv 2) (pe_op op_pow pe_int pe_int) (nomark _)) (pw_and1 (pt_cmpR op_gt (e_ix (pv 3) (pv 6)) pe_int (nomark _)))))
            (pss_cons (ps_expr (pe_bm PySem.F.plainAttrs_list PySem.F.slot_list_append PySem.F.type_list_append mt_append (pv 4) (pa_cons
              (pe_op op_mod (pe_callTy call_int1 (by rfl) T.int bInt (pa_cons (e_ix (pv 3) (pv 6)) pa_nil)) pe_int) pa_nil)))
            (pss_cons (ps_asg (pe_op op_fdiv (pe_callTy call_int1 (by rfl) T.int bInt (pa_cons (e_ix (pv 3) (pv 6)) pa_nil)) pe_int) (pg_sub (pv 3) (pv 6) set_list))
            (pss_one ps_continue))) pss_nil)))) pss_nil) hu)))
      (pss_one (ps_ret (pv 4))))), ?_⟩
    -- rests = [abs(int(cell)) for cell in script]
    have ln : (ns.map V.int).length = ns.length := List.length_map _
    refine ⟨_, rfl, a, true, rfl, ⟨_, hS⟩, fun R hR0 => ?_⟩
    refine lc_s (K := K) (walk_seq (c := true) ln) hR0 (by show ns.length < 16777216; omega) (fun _ v _ => ∃ z, v = .int z) (fun _ _ _ _ _ z => z) (fun H' st => st.seq hS) (fun i y H0 H' Z hi st yy hz => ?_) (fun H1 rv s1 hR hRR => ?_)
    · obtain ⟨rfl, hy⟩ := yy
      obtain ⟨z, rfl⟩ := IsInts.map ns i y hy
      exact ⟨rfl, _, rfl, .inl ⟨_, rfl, _, rfl, hz _ _ (Same.refl _) ⟨_, rfl⟩⟩⟩
    · -- draws = []
      refine ⟨Nat.zero_le _, fun D hD0 => ?_⟩
      have s2 : Same H1 (upd H1 D (.lst [])) := same_new hD0
      have nRD : R ≠ D := ne_of_none hR hD0
      have hDH : H D = none := (s1).free hD0
      refine ⟨_, rfl, 150, rfl, by decide, by decide, ?_⟩
      refine for_it (walk_rngI (n := 150) rfl) (fun i σ H' => ∃ y2 y5 y6 y7 rv dv, σ = [some (.ref a), some (.int 150), y2, some (.ref R), some (.ref D), y5, y6, y7] ∧ Same H H' ∧ H' R = some (.lst rv) ∧ rv.length = ns.length ∧ IsInts rv ∧
          H' D = some (.lst dv) ∧ dv.length = i ∧ IsInts dv)
        ⟨none, none, none, none, rv, [], rfl, s1.trans s2, s2 _ _ hR, hRR.1, hRR.2, upd_same, rfl, .nil⟩ (fun _ _ _ _ _ => trivial) (fun i y σ H2x H2 hi hP yy => ?_) (fun σ H2 hP => ?_)
      · obtain ⟨y2, y5, y6, y7, rv, dv, rfl, s3, hR2, hlr, hir, hD2, hld, hid⟩ := hP
        obtain ⟨rfl, rfl⟩ := yy
        have hS3 := s3.seq hS
        have go : ∀ (z : Int) (y6 : Option V) (z7 z8 : Int), ∃ y2 y5 y6' y7 rv' dv', ([some (.ref a), some (.int 150), some (.int z), some (.ref R), some (.ref D), some (.int (i : Nat)), y6, some (.int z7)] : L2.St) = [some (.ref a), some (.int 150), y2, some (.ref R), some (.ref D), y5, y6', y7] ∧
            Same H (upd H2 D (.lst (dv ++ [.int z8]))) ∧ (upd H2 D (.lst (dv ++ [.int z8]))) R = some (.lst rv') ∧ rv'.length = ns.length ∧ IsInts rv' ∧ (upd H2 D (.lst (dv ++ [.int z8]))) D = some (.lst dv') ∧ dv'.length = i + 1 ∧ IsInts dv' := fun z y6 z7 z8 =>
          ⟨_, _, _, _, rv, _, rfl, same_upd s3 hDH, by rw [upd_ne nRD]; exact hR2, hlr, hir, upd_same, by rw [List.length_append, hld]; rfl, hid.snoc z8⟩
        -- cell = k
        refine ⟨_, rfl, ?_⟩
        refine ⟨_, rfl, a, true, _, rfl, hS3, _, _, rfl, rfl, _, rfl, ite2 (fun e => ?_) fun e => ?_⟩
        · have h0 : 0 < ns.length := by
            have e' := of_decide_eq_true e
            rw [ln] at e'
            omega
          obtain ⟨j, hj, ej⟩ : ∃ j : Nat, j < ns.length ∧ ((i : Nat) : Int) % (((ns.map V.int).length : Nat) : Int) = ((j : Nat) : Int) :=
            ⟨i % ns.length, Nat.mod_lt _ h0, by rw [ln]; exact (Int.natCast_emod i ns.length).symm⟩
          refine ⟨_, rfl, _, rfl, a, true, _, rfl, hS3, _, _, rfl, rfl, by rw [ln]; omega, ?_⟩
          have g1 : (ns.map V.int)[j]? = some (.int ns[j]) := by rw [List.getElem?_map, List.getElem?_eq_getElem hj]; rfl
          have hj2 : j < rv.length := by rw [hlr]; exact hj
          obtain ⟨z2, ez2⟩ := hir j rv[j] (List.getElem?_eq_getElem hj2)
          have g2 : rv[j]? = some (.int z2) := by rw [← ez2]; exact List.getElem?_eq_getElem hj2
          have t1 : atI (ns.map V.int) (((i : Nat) : Int) % (((ns.map V.int).length : Nat) : Int)) = some (.int ns[j]) := by rw [ej]; exact atI_nat g1
          have t2 : atI rv (((i : Nat) : Int) % (((ns.map V.int).length : Nat) : Int)) = some (.int z2) := by rw [ej]; exact atI_nat g2
          refine ⟨_, rfl, _, rfl, a, true, _, _, _, rfl, rfl, hS3, t1, .inl ⟨_, rfl, ?_⟩⟩
          -- if cell >= 10 ** 18 and rests[spot] > 0
          refine ⟨_, rfl, _, _, rfl, rfl, ⟨by decide, by decide, by decide⟩, _, _, rfl, rfl, _, rfl, ite2 (fun e1 => ?_) fun e1 => iteF (hq _ _ _ _ _ _ _ _ _ hD2 (by omega) (go _ _))⟩
          refine ⟨_, rfl, _, rfl, R, true, rv, _, _, rfl, rfl, SqL.of hR2, t2, _, _, rfl, rfl, _, rfl, ite2 (fun e2 => ?_) fun e2 => hq _ _ _ _ _ _ _ _ _ hD2 (by omega) (go _ _)⟩
          refine ⟨_, rfl, .inl ⟨rfl, _, SqL.of hD2⟩, _, rfl, _, rfl, R, true, rv, _, _, rfl, rfl, SqL.of hR2, t2, .inl ⟨_, rfl, _, _, rfl, rfl, (by show (0 : Int) < 1000003; decide), D, dv, _, rfl, rfl, hD2, small1000 (by omega), ?_⟩⟩
          have hR4 : (upd H2 D (.lst (dv ++ [.int (z2 % 1000003)]))) R = some (.lst rv) := by rw [upd_ne nRD]; exact hR2
          refine ⟨_, rfl, _, rfl, R, true, rv, _, _, rfl, rfl, SqL.of hR4, t2, .inl ⟨_, rfl, _, _, rfl, rfl, ⟨by decide, by decide⟩, _, rfl, _, rfl, R, rv, _, j, rfl, rfl, hR4, ?_, ?_⟩⟩
          · rw [ej]
            unfold ixN
            rw [if_pos (by omega), if_pos (by omega), Int.toNat_natCast]
          · refine ⟨_, _, _, _, _, _, rfl, same_upd (same_upd s3 hDH) hR0, upd_same, by rw [List.length_set]; exact hlr, hir.set j _, by rw [upd_ne nRD.symm, upd_same], by rw [List.length_append, hld]; rfl, hid.snoc _⟩
        · exact hq _ _ _ _ _ _ _ _ _ hD2 (by omega) (go _ _)
      · obtain ⟨y2, y5, y6, y7, rv, dv, rfl, s3, hR2, hlr, hir, hD2, hld, hid⟩ := hP
        exact ⟨_, rfl, q _ _ _ s3 hDH hD2 hid⟩
end
end K5

namespace K5
open PySem PySem.Spec PyProof.Rows L2 K5M
/-- the law's hand at h, its draws at d -/
def HandAt (H : Hp) (h d : Addr) : Prop := ∃ (n : Nat) (dv : List V), H h = some (.lst [.ref d, .int n]) ∧ H d = some (.lst dv) ∧ IsInts dv
theorem HandAt.ne {H : Hp} {h d : Addr} : HandAt H h d → d ≠ h := by
  rintro ⟨n, dv, e1, e2, hi⟩ rfl
  rw [e1] at e2
  have e3 : [V.ref d, V.int n] = dv := HO.lst.inj (Option.some.inj e2)
  rw [← e3] at hi
  obtain ⟨z, hz⟩ := hi 0 (.ref d) rfl
  cases hz
theorem HandAt.same {H H' : Hp} {h d : Addr} (s : Same H H') : HandAt H h d → HandAt H' h d
  | ⟨n, dv, e1, e2, hi⟩ => ⟨n, dv, s _ _ e1, s _ _ e2, hi⟩
theorem HandAt.off {H : Hp} {h d D : Addr} {o : HO} (n1 : h ≠ D) (n2 : d ≠ D) : HandAt H h d → HandAt (upd H D o) h d
  | ⟨n, dv, e1, e2, hi⟩ => ⟨n, dv, by rw [upd_ne n1]; exact e1, by rw [upd_ne n2]; exact e2, hi⟩
theorem HandAt.new {H : Hp} {h d D : Addr} (hD : H D = none) : HandAt H h d → h ≠ D ∧ d ≠ D
  | ⟨n, dv, e1, e2, hi⟩ => ⟨ne_of_none e1 hD, ne_of_none e2 hD⟩
theorem HandAt.keep {K : PySem.W.Frag} {H H' : Hp} {h d : Addr} (b : But h H H') : HandAt H h d → KeepT K H H'
  | ⟨_, _, e1, _, _⟩ => b.keepT e1
/-- from what stood at H0 (without D) on -/
theorem But.upd_new {h D : Addr} {H H' : Hp} {o : HO} (b : But h H H') (hD : H D = none) : But h H (L2.upd H' D o) := fun c x n e => by
  rw [upd_ne (ne_of_none e hD)]
  exact b _ _ n e
theorem rows_fun {Pz : Int → Prop} {n : Nat} {vs : List V} (h : RowsR (fun u _ => ∃ z, u = .int z ∧ Pz z) n vs) (p0 : Pz 0) : ∃ f : Nat → Int, vs = ivs n f ∧ ∀ k, Pz (f k) := by
  refine ⟨fun k => match vs[k]? with | some (.int z) => z | _ => 0, ?_, fun k => ?_⟩
  · refine RowsR.ints ⟨h.1, fun i u e => ?_⟩
    obtain ⟨z, rfl, _⟩ := h.2 i u e
    simp only [e]
  · cases e : vs[k]? with
    | none =>
      simp only [e]
      exact p0
    | some u =>
      obtain ⟨z, rfl, hz⟩ := h.2 k u e
      simp only [e]
      exact hz
theorem rows_choose {α : Type} {R : V → Nat → α → Prop} {Pa : α → Prop} {n : Nat} {vs : List V} (a0 : α) (p0 : Pa a0) (h : RowsR (fun u i => ∃ a, R u i a ∧ Pa a) n vs) :
    ∃ F : Nat → α, RowsR (fun u i => R u i (F i)) n vs ∧ ∀ i, Pa (F i) := by
  have each : ∀ i : Nat, ∃ a, (∀ u, vs[i]? = some u → R u i a) ∧ Pa a := fun i => by
    cases e : vs[i]? with
    | none => exact ⟨a0, (fun u q => nomatch q), p0⟩
    | some u =>
      obtain ⟨a, r, pa⟩ := h.2 i u e
      exact ⟨a, fun u' q => by rw [← Option.some.inj q]; exact r, pa⟩
  exact ⟨fun i => (each i).choose, ⟨h.1, fun i u e => (each i).choose_spec.1 u e⟩, fun i => (each i).choose_spec.2⟩
/-! ### primes -/
def isPb (n : Nat) : Bool := decide (2 ≤ n) && decide (n ≤ 97) && (List.range n).all fun d => decide (d < 2) || decide (n % d ≠ 0)
theorem isP_of {n : Nat} (h : isPb n = true) : IsP (n : Int) := by
  unfold isPb at h
  simp only [Bool.and_eq_true, decide_eq_true_eq, List.all_eq_true, Bool.or_eq_true, List.mem_range] at h
  obtain ⟨⟨h1, h2⟩, h3⟩ := h
  refine ⟨by omega, by omega, fun d d1 d2 e => ?_⟩
  obtain ⟨m, rfl⟩ : ∃ m : Nat, d = (m : Int) := ⟨d.toNat, by omega⟩
  have e2 : n % m = 0 := by
    have := Int.natCast_emod n m
    omega
  rcases h3 m (by omega) with q | q
  · omega
  · exact q e2
def isPv : V → Bool
  | .int i => decide (0 ≤ i) && isPb i.toNat
  | _ => false
theorem isP_at {xs : List V} {i : Nat} {u : V} (h : xs.all isPv = true) (e : xs[i]? = some u) : ∃ p, u = .int p ∧ IsP p := by
  have q := List.all_eq_true.mp h u (List.mem_of_getElem? e)
  cases u with
  | int p =>
    unfold isPv at q
    simp only [Bool.and_eq_true, decide_eq_true_eq] at q
    refine ⟨p, rfl, ?_⟩
    have e2 : ((p.toNat : Nat) : Int) = p := by omega
    rw [← e2]
    exact isP_of q.2
  | _ => cases q
section
variable {P : Program} {w : World} {K : PySem.W.Frag} {mg : Str → Option Value} {base : Heap}
/-! ### _law_take -/
def spLtk : Sp := fun vs H Q _ => ∃ (h d : Addr) (m : Int), vs = [.ref h, .int m] ∧ HandAt H h d ∧ 0 < m ∧ ∀ r H', HandAt H' h d → But h H H' → 0 ≤ r → r < m → Q (.int r) H'
theorem ok_ltk {f : Addr} {fd : FuncData} {k : Nat} (F : Fun K "_law_take" "_law_take" sLtk f fd) (T : Txt K mg) : FnOk P w K mg base CX0 (k + 1) f fd ["_law_hand", "_law_many"] spLtk := by
  refine F.ok scLtk (fun vs H Q E h => ?_) (fun cdv A outer s H vs Q E hr h => ?_)
  · obtain ⟨h, d, m, rfl, _⟩ := h
    rfl
  · obtain ⟨h, d, m, rfl, hH, hm, q⟩ := h
    have hne := hH.ne
    obtain ⟨n, dv, e1, e2, hi⟩ := hH
    refine ⟨_, pss_cons (ps_set (i := 2) scLtk.nd rfl (.inl rfl) (e_ix (pv 0) pe_int))
      (pss_cons (ps_asg (pe_op op_add (pv 2) pe_int) (pg_sub (pv 0) pe_int set_list))
      (pss_cons (ps_set (i := 3) scLtk.nd rfl (.inl rfl) (e_ix (pv 0) pe_int))
      (pss_cons (ps_if (pt_cmpR op_ge (pv 2) (pe_callB c_len (by rfl) T.len bLen (pa_cons (pv 3) pa_nil)) (nomark _)) (pss_one (ps_ret pe_int)) pss_nil)
      (pss_one (ps_ret (pe_op op_mod (pe_op op_fdiv (pe_callTy call_int1 (by rfl) T.int bInt (pa_cons (e_ix (pv 3) (pv 2)) pa_nil)) pe_int) (pv 1))))))), ?_⟩
    refine ⟨_, rfl, h, true, _, 1, .int n, rfl, rfl, SqL.of e1, atI_nat (j := 1) rfl, ?_⟩
    refine ⟨_, rfl, _, _, rfl, rfl, _, rfl, h, [.ref d, .int n], 1, 1, rfl, rfl, e1, rfl, ?_⟩
    have f1 : (upd H h (.lst ([.ref d, .int n].set 1 (.int ((n : Int) + 1))))) h = some (.lst [.ref d, .int ((n + 1 : Nat) : Int)]) := by
      rw [upd_same]
      rfl
    have f2 : (upd H h (.lst ([.ref d, .int n].set 1 (.int ((n : Int) + 1))))) d = some (.lst dv) := by
      rw [upd_ne hne]
      exact e2
    have hH2 : HandAt (upd H h (.lst ([.ref d, .int n].set 1 (.int ((n : Int) + 1))))) h d := ⟨n + 1, dv, f1, f2, hi⟩
    refine ⟨_, rfl, h, true, _, 0, .ref d, rfl, rfl, SqL.of f1, atI_nat (j := 0) rfl, ?_⟩
    refine ⟨_, rfl, _, rfl, d, true, dv, rfl, SqL.of f2, _, _, rfl, rfl, _, rfl, ite2 (fun e => ?_) fun e => ?_⟩
    · exact q 0 _ hH2 But.upd (Int.le_refl 0) hm
    · have hlt : n < dv.length := by
        refine Nat.lt_of_not_le fun z => e (decide_eq_true ?_)
        omega
      obtain ⟨z, hz⟩ := hi n dv[n] (List.getElem?_eq_getElem hlt)
      have g : dv[n]? = some (.int z) := by rw [← hz]; exact List.getElem?_eq_getElem hlt
      refine ⟨_, rfl, _, rfl, d, true, dv, _, _, rfl, rfl, SqL.of f2, atI_nat g, .inl ⟨_, rfl, _, _, rfl, rfl, ⟨by decide, by decide⟩, _, rfl, _, _, rfl, rfl, hm, ?_⟩⟩
      exact q _ _ hH2 But.upd (Int.emod_nonneg _ (by omega)) (Int.emod_lt_of_pos _ hm)
/-! ### _law_prime -/
def spLpr : Sp := fun vs H Q _ => ∃ (h d : Addr), vs = [.ref h] ∧ HandAt H h d ∧ ∀ p H', HandAt H' h d → But h H H' → IsP p → Q (.int p) H'
theorem ok_lpr {f fT : Addr} {fd fdT : FuncData} (F : Fun K "_law_prime" "_law_prime" sLpr f fd)
    (GT : FnOk P w K mg base CX0 1 fT fdT ["_law_hand", "_law_many"] spLtk) (kT : PySem.W.keepIn K (.ref fT) = true) (bT : Binds K fdT ["_law_hand", "_law_many"] []) (gT : mg "_law_take" = some (.ref fT)) :
    FnOk P w K mg base CX0 2 f fd ["_law_hand"] spLpr := by
  refine F.ok scLpr (fun vs H Q E h => ?_) (fun cdv A outer s H vs Q E hr h => ?_)
  · obtain ⟨h, d, rfl, _⟩ := h
    rfl
  · obtain ⟨h, d, rfl, hH, q⟩ := h
    refine ⟨_, pss_cons (ps_if (pt_cmpR op_eq (pe_call GT hr (by rfl) gT kT bT .nil pass0 (pa_cons (pv 0) (pa_cons pe_int pa_nil))) pe_int (nomark _))
        (pss_one (ps_ret (e_ix (pe_lst (pa_cons pe_int (pa_cons pe_int (pa_cons pe_int (pa_cons pe_int pa_nil))))) (pe_call GT hr (by rfl) gT kT bT .nil pass0 (pa_cons (pv 0) (pa_cons pe_int pa_nil)))))) pss_nil)
      (pss_cons (ps_set (i := 1) scLpr.nd rfl (.inl rfl) (pe_lst (pa_cons pe_int (pa_cons pe_int (pa_cons pe_int (pa_cons pe_int (pa_cons pe_int (pa_cons pe_int (pa_cons pe_int (pa_cons pe_int (pa_cons pe_int (pa_cons pe_int (pa_cons pe_int
        (pa_cons pe_int (pa_cons pe_int (pa_cons pe_int (pa_cons pe_int (pa_cons pe_int (pa_cons pe_int (pa_cons pe_int (pa_cons pe_int (pa_cons pe_int (pa_cons pe_int pa_nil)))))))))))))))))))))))
      (pss_one (ps_ret (e_ix (pv 1) (pe_call GT hr (by rfl) gT kT bT .nil pass0 (pa_cons (pv 0) (pa_cons pe_int pa_nil))))))), ?_⟩
    refine ⟨_, rfl, h, d, 2, rfl, hH, by decide, fun r H1 hH1 b1 r0 r1 => ⟨rfl, _, rfl, ite2 (fun e => ?_) fun e => ?_⟩⟩
    · refine ⟨by decide, fun p hp => ?_⟩
      have n1 := hH1.new hp
      refine ⟨_, rfl, h, d, 4, rfl, hH1.off n1.1 n1.2, by decide, fun r2 H2 hH2 b2 r3 r4 => ?_⟩
      obtain ⟨j, rfl⟩ : ∃ j : Nat, r2 = (j : Int) := ⟨r2.toNat, by omega⟩
      have hlist := b2 _ _ n1.1.symm (upd_same (H := H1) (a := p) (o := .lst [.int 2, .int 3, .int 5, .int 7]))
      have hj : j < ([.int 2, .int 3, .int 5, .int 7] : List V).length := by show j < 4; omega
      obtain ⟨pp, e1, hP⟩ := isP_at (xs := [.int 2, .int 3, .int 5, .int 7]) (by decide) (List.getElem?_eq_getElem hj)
      refine ⟨p, true, _, _, .int pp, rfl, rfl, SqL.of hlist, atI_nat (by rw [← e1]; exact List.getElem?_eq_getElem hj), ?_⟩
      exact q pp _ hH2 (b1.trans (But.trans (But.of_same (same_new hp)) b2)) hP
    · refine ⟨by decide, fun p hp => ?_⟩
      have n1 := hH1.new hp
      refine ⟨_, rfl, _, rfl, h, d, 21, rfl, hH1.off n1.1 n1.2, by decide, fun r2 H2 hH2 b2 r3 r4 => ?_⟩
      obtain ⟨j, rfl⟩ : ∃ j : Nat, r2 = (j : Int) := ⟨r2.toNat, by omega⟩
      have hlist := b2 _ _ n1.1.symm (upd_same (H := H1) (a := p) (o := .lst [.int 11, .int 13, .int 17, .int 19, .int 23, .int 29, .int 31, .int 37, .int 41, .int 43, .int 47, .int 53, .int 59, .int 61, .int 67, .int 71, .int 73, .int 79, .int 83, .int 89, .int 97]))
      have hj : j < ([.int 11, .int 13, .int 17, .int 19, .int 23, .int 29, .int 31, .int 37, .int 41, .int 43, .int 47, .int 53, .int 59, .int 61, .int 67, .int 71, .int 73, .int 79, .int 83, .int 89, .int 97] : List V).length := by show j < 21; omega
      obtain ⟨pp, e1, hP⟩ := isP_at (xs := [.int 11, .int 13, .int 17, .int 19, .int 23, .int 29, .int 31, .int 37, .int 41, .int 43, .int 47, .int 53, .int 59, .int 61, .int 67, .int 71, .int 73, .int 79, .int 83, .int 89, .int 97]) (by decide +kernel) (List.getElem?_eq_getElem hj)
      refine ⟨p, true, _, _, .int pp, rfl, rfl, SqL.of hlist, atI_nat (by rw [← e1]; exact List.getElem?_eq_getElem hj), ?_⟩
      exact q pp _ hH2 (b1.trans (But.trans (But.of_same (same_new hp)) b2)) hP
/-! ### _law_vector -/
def Bp (p : Int) (f : Nat → Int) : Prop := ∀ k, 0 ≤ f k ∧ f k < p
def spLve (K : PySem.W.Frag) : Sp := fun vs H Q _ => ∃ (h d : Addr) (p : Int) (w : Nat), vs = [.ref h, .int p, .int w] ∧ HandAt H h d ∧ IsP p ∧ w ≤ 3 ∧ ∀ r f H', HandAt H' h d → But h H H' → Vec K H' r w f → Bp p f → Q r H'
theorem ok_lve {f fT : Addr} {fd fdT : FuncData} (F : Fun K "_law_vector" "_law_vector" sLve f fd) (T : Txt K mg)
    (GT : FnOk P w K mg base CX0 1 fT fdT ["_law_hand", "_law_many"] spLtk) (kT : PySem.W.keepIn K (.ref fT) = true) (bT : Binds K fdT ["_law_hand", "_law_many"] []) (gT : mg "_law_take" = some (.ref fT)) :
    FnOk P w K mg base CX0 2 f fd ["_law_hand", "_law_prime_here", "_law_width"] (spLve K) := by
  refine F.ok scLve (fun vs H Q E h => ?_) (fun cdv A outer s H vs Q E hr h => ?_)
  · obtain ⟨h, d, p, w, rfl, _⟩ := h
    rfl
  · obtain ⟨h, d, p, w, rfl, hH, hp, hw, q⟩ := h
    refine ⟨_, pss_one (ps_ret (pe_callTy c_tup (by rfl) T.tuple bTup (pa_cons (pe_lc (own := [("_law_k", 3)]) (by rfl) scLve.nd (pi_range1 (by rfl) T.range (pa_cons (pv 2) pa_nil))
      (blkOk_by (N := ["_law_hand", "_law_prime_here", "_law_width", "_law_k"]) (sc := defScope sLve) (by decide +kernel)) (fun _ _ _ _ _ => pg_name (i := 3) scLve.nd rfl (Or.inl rfl)) (fun _ _ _ _ _ => pts_nil)
      (fun _ _ _ _ _ => pe_call GT hr (by rfl) gT kT bT .nil pass0 (pa_cons (pv 0) (pa_cons (pv 1) pa_nil)))) pa_nil))), ?_⟩
    refine ⟨_, rfl, _, rfl, by omega, by omega, fun D hD => ?_⟩
    have n1 := hH.new hD
    have p1 := hp.1
    refine lc_g (K := K) (walk_rngI (n := w) rfl) (by show w < 16777216; omega) (fun H' => HandAt H' h d ∧ But h H H') (fun _ v _ => ∃ z, v = .int z ∧ (0 ≤ z ∧ z < p)) ⟨hH.off n1.1 n1.2, But.of_same (same_new hD)⟩
      (fun H' acc acc' hP hD' => ⟨hP.1.off n1.1 n1.2, hP.2.upd_new hD⟩) (fun _ _ _ _ _ z => z) (fun _ _ => trivial) (fun i y H0x H0 Z hi hP yy hz => ?_) (fun H' acc hP hD' hR => ?_)
    · obtain ⟨rfl, rfl⟩ := yy
      refine ⟨rfl, _, rfl, _, rfl, h, d, p, rfl, hP.1, by omega, fun r H1 hH1 b1 r0 r1 => ?_⟩
      exact hz _ _ ⟨hH1, hP.2.trans b1⟩ (HandAt.keep b1 hP.1) (fun acc e => b1 _ _ n1.1.symm e) ⟨r, rfl, r0, r1⟩
    · obtain ⟨f, rfl, hf⟩ := rows_fun (Pz := fun z => 0 ≤ z ∧ z < p) hR ⟨Int.le_refl 0, by omega⟩
      exact ⟨D, _, rfl, .inl ⟨SqL.of hD', fun t ht => q _ f _ (hP.1.same (same_new ht)) (hP.2.trans (But.of_same (same_new ht))) ⟨t, rfl, SqT.of upd_same⟩ hf⟩⟩
end
end K5

namespace K5
open PySem PySem.Spec PyProof.Rows L2 K5M
theorem But.free {h A : Addr} {H H' : Hp} (b : But h H H') (n : A ≠ h) (hA : H' A = none) : H A = none := by
  cases e : H A with
  | none => rfl
  | some o =>
    rw [b _ _ n e] at hA
    cases hA
def nLne : List Str := ["_law_hand", "_law_most", "_law_prime_here", "_law_width", "_law_weights", "_law_kinds", "_law_layer", "_law_k"]
section
variable {P : Program} {w : World} {K : PySem.W.Frag} {mg : Str → Option Value} {base : Heap}
/-! ### _law_net -/
def spLne (K : PySem.W.Frag) : Sp := fun vs H Q _ => ∃ (h d : Addr), vs = [.ref h, .int 4] ∧ HandAt H h d ∧
  ∀ r wv kv N H', HandAt H' h d → But h H H' → NetD.Ok N → SqT K H' r [.int N.p, wv, kv] → Ten K H' wv N.n N.w N.W → Kinds K H' kv N.n N.s → Q (.ref r) H'
theorem ok_lne {f fT fP fV : Addr} {fd fdT fdP fdV : FuncData} (F : Fun K "_law_net" "_law_net" sLne f fd) (T : Txt K mg)
    (GT : FnOk P w K mg base CX0 2 fT fdT ["_law_hand", "_law_many"] spLtk) (kT : PySem.W.keepIn K (.ref fT) = true) (bT : Binds K fdT ["_law_hand", "_law_many"] []) (gT : mg "_law_take" = some (.ref fT))
    (GP : FnOk P w K mg base CX0 2 fP fdP ["_law_hand"] spLpr) (kP : PySem.W.keepIn K (.ref fP) = true) (bP : Binds K fdP ["_law_hand"] []) (gP : mg "_law_prime" = some (.ref fP))
    (GV : FnOk P w K mg base CX0 2 fV fdV ["_law_hand", "_law_prime_here", "_law_width"] (spLve K)) (kV : PySem.W.keepIn K (.ref fV) = true) (bV : Binds K fdV ["_law_hand", "_law_prime_here", "_law_width"] []) (gV : mg "_law_vector" = some (.ref fV)) :
    FnOk P w K mg base CX0 3 f fd ["_law_hand", "_law_most"] (spLne K) := by
  refine F.ok scLne (fun vs H Q E h => ?_) (fun cdv A outer s H vs Q E hr h => ?_)
  · obtain ⟨h, d, rfl, _⟩ := h
    rfl
  · obtain ⟨h, d, rfl, hH, q⟩ := h
    refine ⟨_, pss_cons (ps_set (i := 2) scLne.nd rfl (.inr rfl) (pe_call GP hr (by rfl) gP kP bP .nil pass0 (pa_cons (pv 0) pa_nil)))
      (pss_cons (ps_set (i := 3) scLne.nd rfl (.inr rfl) (pe_op op_add pe_int (pe_call GT hr (by rfl) gT kT bT .nil pass0 (pa_cons (pv 0) (pa_cons pe_int pa_nil)))))
      (pss_cons (ps_set (i := 4) scLne.nd rfl (.inl rfl) (pe_lst pa_nil))
      (pss_cons (ps_set (i := 5) scLne.nd rfl (.inl rfl) (pe_lst pa_nil))
      (pss_cons (ps_for PassesOwn.never rfl (pi_range1 (by rfl) T.range (pa_cons (pe_op op_add pe_int (pe_call GT hr (by rfl) gT kT bT .nil pass0 (pa_cons (pv 0) (pa_cons (pv 1) pa_nil)))) pa_nil)) (pg_name (i := 6) scLne.nd rfl (.inl rfl))
        (pss_cons (ps_expr (pe_bm PySem.F.plainAttrs_list PySem.F.slot_list_append PySem.F.type_list_append mt_append (pv 4) (pa_cons
          (pe_callTy c_tup (by rfl) T.tuple bTup (pa_cons (pe_lc (own := [("_law_k", 7)]) (by rfl) scLne.nd (pi_range1 (by rfl) T.range (pa_cons (pv 3) pa_nil))
            (blkOk_by (N := nLne) (sc := defScope sLne) (by decide +kernel)) (fun _ _ _ _ _ => pg_name (i := 7) scLne.nd rfl (Or.inl rfl)) (fun _ _ _ _ _ => pts_nil)
            (fun _ _ _ _ _ => pe_call GV hr (by rfl) gV kV bV .nil pass0 (pa_cons (pv 0) (pa_cons (pv 2) (pa_cons (pv 3) pa_nil))))) pa_nil)) pa_nil)))
        (pss_one (ps_expr (pe_bm PySem.F.plainAttrs_list PySem.F.slot_list_append PySem.F.type_list_append mt_append (pv 5) (pa_cons
          (e_ix (pe_lst (pa_cons pe_str (pa_cons pe_str pa_nil))) (pe_call GT hr (by rfl) gT kT bT .nil pass0 (pa_cons (pv 0) (pa_cons pe_int pa_nil)))) pa_nil))))))
      (pss_one (ps_ret (pe_tup (pa_cons (pv 2) (pa_cons (pe_callTy c_tup (by rfl) T.tuple bTup (pa_cons (pv 4) pa_nil)) (pa_cons (pe_callTy c_tup (by rfl) T.tuple bTup (pa_cons (pv 5) pa_nil)) pa_nil)))))))))), ?_⟩
    -- prime, width
    refine ⟨_, rfl, h, d, rfl, hH, fun p H1 hH1 b1 hp => ?_⟩
    refine ⟨_, rfl, h, d, 3, rfl, hH1, by decide, fun r H2 hH2 b2 r0 r1 => ⟨_, _, rfl, rfl, ?_⟩⟩
    obtain ⟨w', ew, w1, w3⟩ : ∃ w' : Nat, 1 + r = (w' : Int) ∧ 1 ≤ w' ∧ w' ≤ 3 := ⟨(1 + r).toNat, by omega, by omega, by omega⟩
    -- weights = []; kinds = []
    refine ⟨Nat.zero_le _, fun A hA => ⟨Nat.zero_le _, fun B hB => ?_⟩⟩
    have nA := hH2.new hA
    have hH3 := hH2.off (o := .lst []) nA.1 nA.2
    have nB := hH3.new hB
    have nAB : A ≠ B := ne_of_none (upd_same (H := H2) (a := A) (o := .lst [])) hB
    have hB2 : H2 B = none := by
      rw [upd_ne nAB.symm] at hB
      exact hB
    have b12 := b1.trans b2
    have hA0 := b12.free nA.1.symm hA
    have hB0 := b12.free nB.1.symm hB2
    have hH4 := hH3.off (o := .lst []) nB.1 nB.2
    have b4 : But h H (upd (upd H2 A (.lst [])) B (.lst [])) := (b12.upd_new hA0).upd_new hB0
    -- for layer in range(1 + take(hand, most))
    refine ⟨_, rfl, _, rfl, h, d, 4, rfl, hH4, by decide, fun r4 H5 hH5 b5 r5 r6 => ⟨_, _, rfl, rfl, _, rfl, by omega, by omega, ?_⟩⟩
    obtain ⟨n, en, n1, n4⟩ : ∃ n : Nat, 1 + r4 = (n : Int) ∧ 1 ≤ n ∧ n ≤ 4 := ⟨(1 + r4).toNat, by omega, by omega, by omega⟩
    refine for_it (walk_rngI (n := n) en) (fun i σ H' => ∃ y6 wacc kacc, σ = [some (.ref h), some (.int 4), some (.int p), some (.int (1 + r)), some (.ref A), some (.ref B), y6, none] ∧ HandAt H' h d ∧ But h H H' ∧ H' A = some (.lst wacc) ∧ H' B = some (.lst kacc) ∧
        RowsR (fun u _ => ∃ m : Nat → Nat → Int, Mat K H' u w' m ∧ ∀ i, Bp p (m i)) i wacc ∧ RowsR (fun u _ => ∃ b : Bool, u = .str (kindT b) ∧ True) i kacc)
      ⟨none, [], [], rfl, hH5, b4.trans b5, b5 _ _ nA.1.symm (by rw [upd_ne nAB, upd_same]), b5 _ _ nB.1.symm upd_same, RowsR.nil _, RowsR.nil _⟩ (fun _ _ _ _ _ => trivial) (fun i y σ H6x H6 hi hP yy => ?_) (fun σ H6 hP => ?_)
    · obtain ⟨y6, wacc, kacc, rfl, hH6, b6, hA6, hB6, hW, hKd⟩ := hP
      obtain ⟨rfl, rfl⟩ := yy
      -- weights.append(tuple([..]))
      refine ⟨_, rfl, .inl ⟨rfl, _, SqL.of hA6⟩, _, rfl, _, rfl, by omega, by omega, fun D hD => ?_⟩
      have nD := hH6.new hD
      refine lc_g (K := K) (walk_rngI (n := w') ew) (by show w' < 16777216; omega) (fun H' => HandAt H' h d ∧ But h H6 H') (fun H v _ => ∃ f, Vec K H v w' f ∧ Bp p f) ⟨hH6.off nD.1 nD.2, But.of_same (same_new hD)⟩
        (fun H' acc acc' hP hD' => ⟨hP.1.off nD.1 nD.2, hP.2.upd_new hD⟩) (fun _ _ _ _ k z => z.elim fun f z => ⟨f, z.1.keep k, z.2⟩) (fun _ _ => trivial) (fun j y H7x H7 Z hj hP yy hz => ?_) (fun H7 acc hP hD7 hR => ?_)
      · obtain ⟨rfl, rfl⟩ := yy
        refine ⟨rfl, _, rfl, _, rfl, _, rfl, h, d, p, w', by rw [← ew]; rfl, hP.1, hp, w3, fun r f H8 hH8 b8 hv hf => ?_⟩
        exact hz _ _ ⟨hH8, hP.2.trans b8⟩ (HandAt.keep b8 hP.1) (fun acc e => b8 _ _ nD.1.symm e) ⟨f, hv, hf⟩
      · refine ⟨D, acc, rfl, .inl ⟨SqL.of hD7, fun t ht => ?_⟩⟩
        obtain ⟨m, hm, hmb⟩ := rows_choose (R := fun u _ f => Vec K H7 u w' f) (Pa := Bp p) (fun _ => 0) (fun k => ⟨Int.le_refl 0, by have := hp.1; show (0 : Int) < p; omega⟩) hR
        have s8 : Same H7 (upd H7 t (.tup acc)) := same_new ht
        have hA8 := s8 _ _ (hP.2 _ _ nA.1.symm hA6)
        have hB8 := s8 _ _ (hP.2 _ _ nB.1.symm hB6)
        have hH8 := hP.1.same s8
        have hM : Mat K (upd H7 t (.tup acc)) (.ref t) w' m := ⟨t, acc, rfl, SqT.of upd_same, hm.mono fun u j _ z => z.keep (Same.keepT s8)⟩
        have k68 : KeepT K H6 (upd H7 t (.tup acc)) := (HandAt.keep hP.2 hH6).trans (Same.keepT s8)
        refine ⟨A, wacc, .ref t, rfl, rfl, hA8, by rw [hW.1]; show i < 16777216; omega, ?_⟩
        have k9 := keepT_lst (K := K) (o' := .lst (wacc ++ [.ref t])) hA8
        have hH9 := hH8.off (o := .lst (wacc ++ [.ref t])) nA.1 nA.2
        have hB9 : (upd (upd H7 t (.tup acc)) A (.lst (wacc ++ [.ref t]))) B = some (.lst kacc) := by rw [upd_ne nAB.symm]; exact hB8
        have hW9 : RowsR (fun u _ => ∃ m : Nat → Nat → Int, Mat K (upd (upd H7 t (.tup acc)) A (.lst (wacc ++ [.ref t]))) u w' m ∧ ∀ i, Bp p (m i)) (i + 1) (wacc ++ [.ref t]) :=
          (hW.mono fun u j _ z => z.elim fun m z => ⟨m, z.1.keep (k68.trans k9), z.2⟩).snoc ⟨m, hM.keep k9, hmb⟩
        have b9 : But h H (upd (upd H7 t (.tup acc)) A (.lst (wacc ++ [.ref t]))) := (b6.trans (hP.2.trans (But.of_same s8))).upd_new hA0
        -- kinds.append(['line', 'square'][take(hand, 2)])
        refine ⟨_, rfl, .inl ⟨rfl, _, SqL.of hB9⟩, by decide, fun G hG => ?_⟩
        have nG := hH9.new hG
        have s10 := same_new (o := .lst [.str "line", .str "square"]) hG
        refine ⟨_, rfl, h, d, 2, rfl, hH9.off nG.1 nG.2, by decide, fun r11 H11 hH11 b11 r12 r13 => ?_⟩
        obtain ⟨b, e1⟩ : ∃ b : Bool, atI ([.str "line", .str "square"] : List V) r11 = some (.str (kindT b)) := by
          obtain e | e : r11 = 0 ∨ r11 = 1 := by omega
          · subst e
            exact ⟨false, atI_nat (j := 0) rfl⟩
          · subst e
            exact ⟨true, atI_nat (j := 1) rfl⟩
        have hG11 := b11 _ _ nG.1.symm upd_same
        have hA11 := b11 _ _ nA.1.symm (s10 _ _ upd_same)
        have hB11 := b11 _ _ nB.1.symm (s10 _ _ hB9)
        have k11 : KeepT K (upd (upd H7 t (.tup acc)) A (.lst (wacc ++ [.ref t]))) H11 := (Same.keepT s10).trans (HandAt.keep b11 (hH9.off nG.1 nG.2))
        refine ⟨G, true, _, _, _, rfl, rfl, SqL.of hG11, e1, B, kacc, _, rfl, rfl, hB11, by rw [hKd.1]; show i < 16777216; omega, ?_⟩
        have k12 := keepT_lst (K := K) (o' := .lst (kacc ++ [.str (kindT b)])) hB11
        refine ⟨_, _, _, rfl, hH11.off nB.1 nB.2, (b9.trans (But.trans (But.of_same s10) b11)).upd_new hB0, by rw [upd_ne nAB]; exact hA11, upd_same, ?_, hKd.snoc ⟨b, rfl, trivial⟩⟩
        exact hW9.mono fun u j _ z => z.elim fun m z => ⟨m, z.1.keep (k11.trans k12), z.2⟩
    · obtain ⟨y6, wacc, kacc, rfl, hH6, b6, hA6, hB6, hW, hKd⟩ := hP
      obtain ⟨W, hW2, hWb⟩ := rows_choose (R := fun u _ m => Mat K H6 u w' m) (Pa := fun m : Nat → Nat → Int => ∀ i, Bp p (m i)) (fun _ _ => 0) (fun i k => ⟨Int.le_refl 0, by have := hp.1; show (0 : Int) < p; omega⟩) hW
      obtain ⟨S, hS2, _⟩ := rows_choose (R := fun u _ b => u = .str (kindT b)) (Pa := fun _ => True) false trivial hKd
      have p97 := hp.2.1
      have ok : NetD.Ok ⟨p, n, w', W, S⟩ := ⟨hp, n1, n4, w1, w3, fun l i k => (hWb l i k).1, fun l i k => by have := (hWb l i k).2; show W l i k < 97; omega⟩
      refine ⟨_, rfl, _, rfl, A, wacc, rfl, .inl ⟨SqL.of hA6, fun t1 ht1 => ?_⟩⟩
      have s7 : Same H6 (upd H6 t1 (.tup wacc)) := same_new ht1
      refine ⟨_, rfl, B, kacc, rfl, .inl ⟨SqL.of (s7 _ _ hB6), fun t2 ht2 => ⟨by show 3 ≤ 16777216; omega, fun t3 ht3 => ?_⟩⟩⟩
      have s8 : Same (upd H6 t1 (.tup wacc)) (upd (upd H6 t1 (.tup wacc)) t2 (.tup kacc)) := same_new ht2
      have s9 : Same (upd (upd H6 t1 (.tup wacc)) t2 (.tup kacc)) (upd (upd (upd H6 t1 (.tup wacc)) t2 (.tup kacc)) t3 (.tup [.int p, .ref t1, .ref t2])) := same_new ht3
      refine q t3 (.ref t1) (.ref t2) ⟨p, n, w', W, S⟩ _ (hH6.same (s7.trans (s8.trans s9))) (b6.trans (But.of_same (s7.trans (s8.trans s9)))) ok (SqT.of upd_same)
        ⟨t1, wacc, rfl, Same.keepT (s8.trans s9) _ _ (SqT.of upd_same), hW2.mono fun u l _ z => z.keep (Same.keepT (s7.trans (s8.trans s9)))⟩ ⟨t2, kacc, rfl, Same.keepT s9 _ _ (SqT.of upd_same), hS2⟩
end
end K5

namespace K5
open PySem PySem.Spec PyProof.Rows L2 K5M
/-- m pairs of vectors, all tuples -/
def PortT (K : PySem.W.Frag) (H : Hp) (v : V) (m w : Nat) (xs ts : Nat → Nat → Int) : Prop :=
  TupR K H v m fun u e => ∃ (t : Addr) (xv tv : V), u = .ref t ∧ SqT K H t [xv, tv] ∧ Vec K H xv w (xs e) ∧ Vec K H tv w (ts e)
theorem PortT.keep {K : PySem.W.Frag} {H H' : Hp} {v : V} {m w : Nat} {xs ts : Nat → Nat → Int} (k : KeepT K H H') (h : PortT K H v m w xs ts) : PortT K H' v m w xs ts :=
  TupR.keep k (fun _ _ _ ⟨t, xv, tv, e, h1, h2, h3⟩ => ⟨t, xv, tv, e, k _ _ h1, h2.keep k, h3.keep k⟩) h
def nLth : List Str := ["_law_net_here", "_law_layer", "_law_spot", "_law_vector_here", "_law_prime_here", "_law_plain", "_law_rises", "_law_l", "_law_one", "_law_more", "_law_i", "_law_row", "_law_value", "_law_rise", "_law_k"]
theorem sumN_bd {f : Nat → Int} {B : Int} : ∀ n : Nat, (∀ i, i < n → 0 ≤ f i ∧ f i ≤ B) → 0 ≤ sumN n f ∧ sumN n f ≤ (n : Int) * B
  | 0, _ => ⟨Int.le_refl 0, by show (0 : Int) ≤ 0 * B; rw [Int.zero_mul]; exact Int.le_refl 0⟩
  | n + 1, h => by
    have ih := sumN_bd n fun i hi => h i (by omega)
    have hn := h n (by omega)
    have e : ((n + 1 : Nat) : Int) * B = (n : Int) * B + B := by
      rw [Int.natCast_add, Int.add_mul]
      show (n : Int) * B + 1 * B = _
      rw [Int.one_mul]
    rw [e]
    show 0 ≤ sumN n f + f n ∧ sumN n f + f n ≤ (n : Int) * B + B
    omega
theorem mul_bd {a b : Int} (ha : 0 ≤ a ∧ a < 97) (hb : 0 ≤ b ∧ b < 97) : 0 ≤ a * b ∧ a * b ≤ 9409 := by
  refine ⟨Int.mul_nonneg ha.1 hb.1, ?_⟩
  have h1 : a * b ≤ 97 * b := Int.mul_le_mul_of_nonneg_right (by omega) hb.1
  omega
theorem dot_bd {w : Nat} {r x : Nat → Int} (hw : w ≤ 3) (hr : Bd r) (hx : Bd x) : 0 ≤ dot w r x ∧ dot w r x ≤ 28227 := by
  have h := sumN_bd (f := fun k => r k * x k) (B := 9409) w fun i _ => mul_bd (hr i) (hx i)
  have h2 : (w : Int) * 9409 ≤ 28227 := by omega
  exact ⟨h.1, Int.le_trans h.2 h2⟩
theorem thr_bd {N : NetD} (ok : N.Ok) {x : Nat → Int} (bx : Bd x) (L a b : Nat) : ∀ l, Bd (thrF N.p N.w N.W N.s x L a b l).1 ∧ Bd (thrF N.p N.w N.W N.s x L a b l).2
  | 0 => ⟨bx, fun _ => ⟨Int.le_refl 0, by show (0 : Int) < 97; decide⟩⟩
  | l + 1 => ⟨fun k => mod_bd ok.pr, fun k => mod_bd ok.pr⟩
section
variable {P : Program} {w : World} {K : PySem.W.Frag} {mg : Str → Option Value} {base : Heap}
/-! ### _law_portion -/
def spLpo (K : PySem.W.Frag) : Sp := fun vs H Q _ => ∃ (h d : Addr) (p : Int) (w most : Nat), vs = [.ref h, .int p, .int w, .int most] ∧ HandAt H h d ∧ IsP p ∧ w ≤ 3 ∧ 1 ≤ most ∧ most ≤ 3 ∧
  ∀ r m xs ts H', HandAt H' h d → But h H H' → m ≤ 3 → PortT K H' r m w xs ts → (∀ e, Bp p (xs e)) → (∀ e, Bp p (ts e)) → Q r H'
theorem ok_lpo {f fT fV : Addr} {fd fdT fdV : FuncData} (F : Fun K "_law_portion" "_law_portion" sLpo f fd) (T : Txt K mg)
    (GT : FnOk P w K mg base CX0 2 fT fdT ["_law_hand", "_law_many"] spLtk) (kT : PySem.W.keepIn K (.ref fT) = true) (bT : Binds K fdT ["_law_hand", "_law_many"] []) (gT : mg "_law_take" = some (.ref fT))
    (GV : FnOk P w K mg base CX0 2 fV fdV ["_law_hand", "_law_prime_here", "_law_width"] (spLve K)) (kV : PySem.W.keepIn K (.ref fV) = true) (bV : Binds K fdV ["_law_hand", "_law_prime_here", "_law_width"] []) (gV : mg "_law_vector" = some (.ref fV)) :
    FnOk P w K mg base CX0 3 f fd ["_law_hand", "_law_prime_here", "_law_width", "_law_most"] (spLpo K) := by
  refine F.ok scLpo (fun vs H Q E h => ?_) (fun cdv A outer s H vs Q E hr h => ?_)
  · obtain ⟨h, d, p, w, most, rfl, _⟩ := h
    rfl
  · obtain ⟨h, d, p, w', most, rfl, hH, hp, hw, m1, m3, q⟩ := h
    refine ⟨_, pss_cons (ps_set (i := 4) scLpo.nd rfl (.inl rfl) (pe_lst pa_nil))
      (pss_cons (ps_for PassesOwn.never rfl (pi_range1 (by rfl) T.range (pa_cons (pe_op op_add pe_int (pe_call GT hr (by rfl) gT kT bT .nil pass0 (pa_cons (pv 0) (pa_cons (pv 3) pa_nil)))) pa_nil)) (pg_name (i := 5) scLpo.nd rfl (.inl rfl))
        (pss_one (ps_expr (pe_bm PySem.F.plainAttrs_list PySem.F.slot_list_append PySem.F.type_list_append mt_append (pv 4) (pa_cons
          (pe_tup (pa_cons (pe_call GV hr (by rfl) gV kV bV .nil pass0 (pa_cons (pv 0) (pa_cons (pv 1) (pa_cons (pv 2) pa_nil))))
            (pa_cons (pe_call GV hr (by rfl) gV kV bV .nil pass0 (pa_cons (pv 0) (pa_cons (pv 1) (pa_cons (pv 2) pa_nil)))) pa_nil))) pa_nil)))))
      (pss_one (ps_ret (pe_callTy c_tup (by rfl) T.tuple bTup (pa_cons (pv 4) pa_nil))))), ?_⟩
    refine ⟨Nat.zero_le _, fun A hA => ?_⟩
    have nA := hH.new hA
    refine ⟨_, rfl, _, rfl, h, d, most, rfl, hH.off nA.1 nA.2, by omega, fun r4 H5 hH5 b5 r5 r6 => ⟨_, _, rfl, rfl, _, rfl, by omega, by omega, ?_⟩⟩
    obtain ⟨n, en, n4⟩ : ∃ n : Nat, 1 + r4 = (n : Int) ∧ n ≤ 3 := ⟨(1 + r4).toNat, by omega, by omega⟩
    refine for_it (walk_rngI (n := n) en) (fun i σ H' => ∃ y5 acc, σ = [some (.ref h), some (.int p), some (.int w'), some (.int most), some (.ref A), y5] ∧ HandAt H' h d ∧ But h H H' ∧ H' A = some (.lst acc) ∧
        RowsR (fun u _ => ∃ g : (Nat → Int) × (Nat → Int), (∃ (t : Addr) (xv tv : V), u = .ref t ∧ SqT K H' t [xv, tv] ∧ Vec K H' xv w' g.1 ∧ Vec K H' tv w' g.2) ∧ (Bp p g.1 ∧ Bp p g.2)) i acc)
      ⟨none, [], rfl, hH5, But.trans (But.of_same (same_new hA)) b5, b5 _ _ nA.1.symm upd_same, RowsR.nil _⟩ (fun _ _ _ _ _ => trivial) (fun i y σ H6x H6 hi hP yy => ?_) (fun σ H6 hP => ?_)
    · obtain ⟨y5, acc, rfl, hH6, b6, hA6, hR⟩ := hP
      obtain ⟨rfl, rfl⟩ := yy
      refine ⟨_, rfl, .inl ⟨rfl, _, SqL.of hA6⟩, _, rfl, _, rfl, _, rfl, h, d, p, w', rfl, hH6, hp, hw, fun r1 f1 H7 hH7 b7 v1 g1 => ?_⟩
      refine ⟨_, rfl, _, rfl, _, rfl, h, d, p, w', rfl, hH7, hp, hw, fun r2 f2 H8 hH8 b8 v2 g2 => ⟨by show 2 ≤ 16777216; omega, fun t ht => ?_⟩⟩
      have k7 : KeepT K H6 H7 := HandAt.keep b7 hH6
      have k8 : KeepT K H7 H8 := HandAt.keep b8 hH7
      have s9 : Same H8 (upd H8 t (.tup [r1, r2])) := same_new ht
      have hA9 := s9 _ _ (b8 _ _ nA.1.symm (b7 _ _ nA.1.symm hA6))
      have kA := keepT_lst (K := K) (o' := .lst (acc ++ [.ref t])) hA9
      refine ⟨A, acc, .ref t, rfl, rfl, hA9, by rw [hR.1]; show i < 16777216; omega, ?_⟩
      have kall := (k7.trans k8).trans ((Same.keepT s9).trans kA)
      refine ⟨_, _, rfl, (hH8.same s9).off nA.1 nA.2, (b6.trans (b7.trans (b8.trans (But.of_same s9)))).upd_new hA, upd_same, ?_⟩
      refine (hR.mono fun u j _ z => ?_).snoc ⟨(f1, f2), ⟨t, r1, r2, rfl, kA _ _ (SqT.of upd_same), v1.keep (k8.trans ((Same.keepT s9).trans kA)), v2.keep ((Same.keepT s9).trans kA)⟩, g1, g2⟩
      obtain ⟨g, ⟨t', xv, tv, e, h1, h2, h3⟩, hb⟩ := z
      exact ⟨g, ⟨t', xv, tv, e, kall _ _ h1, h2.keep kall, h3.keep kall⟩, hb⟩
    · obtain ⟨y5, acc, rfl, hH6, b6, hA6, hR⟩ := hP
      have p0 : (0 : Int) < p := by have := hp.1; omega
      obtain ⟨g, hg, hb⟩ := rows_choose (R := fun u _ (g : (Nat → Int) × (Nat → Int)) => ∃ (t : Addr) (xv tv : V), u = .ref t ∧ SqT K H6 t [xv, tv] ∧ Vec K H6 xv w' g.1 ∧ Vec K H6 tv w' g.2)
        (Pa := fun g : (Nat → Int) × (Nat → Int) => Bp p g.1 ∧ Bp p g.2) (fun _ => 0, fun _ => 0) ⟨fun _ => ⟨Int.le_refl 0, p0⟩, fun _ => ⟨Int.le_refl 0, p0⟩⟩ hR
      refine ⟨_, rfl, A, acc, rfl, .inl ⟨SqL.of hA6, fun t ht => ?_⟩⟩
      have s7 : Same H6 (upd H6 t (.tup acc)) := same_new ht
      refine q (.ref t) n (fun e => (g e).1) (fun e => (g e).2) _ (hH6.same s7) (b6.trans (But.of_same s7)) n4 ⟨t, acc, rfl, SqT.of upd_same, hg.mono fun u e _ z => ?_⟩ (fun e => (hb e).1) fun e => (hb e).2
      obtain ⟨t', xv, tv, ee, h1, h2, h3⟩ := z
      exact ⟨t', xv, tv, ee, Same.keepT s7 _ _ h1, h2.keep (Same.keepT s7), h3.keep (Same.keepT s7)⟩
end
end K5

namespace K5
open PySem PySem.Spec PyProof.Rows L2 K5M
def oBody : List Stmt := forBody ((defBody sLth).getD 3 (.Pass ⟨0, 0, 0, 0⟩))
def iBody : List Stmt := forBody (oBody.getD 2 (.Pass ⟨0, 0, 0, 0⟩))
section
variable {P : Program} {w : World} {K : PySem.W.Frag} {mg : Str → Option Value} {base : Heap}
/-! ### _law_through -/
def spLth (K : PySem.W.Frag) : Sp := fun vs H Q _ => ∃ (nt st : Addr) (xv wv kv : V) (N : NetD) (L a b : Nat) (x : Nat → Int), vs = [.ref nt, .int L, .ref st, xv] ∧ N.Ok ∧ SqT K H nt [.int N.p, wv, kv] ∧ Ten K H wv N.n N.w N.W ∧ Kinds K H kv N.n N.s ∧
  SqT K H st [.int a, .int b] ∧ b < N.w ∧ Vec K H xv N.w x ∧ Bd x ∧
  ∀ r l1 l2 H', Same H H' → H' r = some (.lst [.ref l1, .ref l2]) → H' l1 = some (.lst (ivs N.w (thrF N.p N.w N.W N.s x L a b N.n).1)) → H' l2 = some (.lst (ivs N.w (thrF N.p N.w N.W N.s x L a b N.n).2)) → Q (.ref r) H'
theorem ok_lth {f : Addr} {fd : FuncData} {k : Nat} (F : Fun K "_law_through" "_law_through" sLth f fd) (T : Txt K mg) : FnOk P w K mg base CX0 (k + 1) f fd ["_law_net_here", "_law_layer", "_law_spot", "_law_vector_here"] (spLth K) := by
  refine F.ok scLth (fun vs H Q E h => ?_) (fun cdv A outer s H vs Q E hr h => ?_)
  · obtain ⟨nt, st, xv, wv, kv, N, L, a, b, x, rfl, _⟩ := h
    rfl
  · obtain ⟨nt, st, xv, wv, kv, N, L, a, b, x, rfl, ok, hnt, hW, hK, hst, hb, ⟨xa, rfl, hx⟩, bx, q⟩ := h
    obtain ⟨wa, us, rfl, hU, hUR⟩ := id hW
    obtain ⟨ka, ks, rfl, hS, hSR⟩ := id hK
    have w3 := ok.w3
    have n4 := ok.n4
    have wsz : N.w < 16777216 := by omega
    -- one.append(int(value) % prime); more.append(int(rise) % prime)
    obtain ⟨u2, hu2, hq2⟩ : ∃ u, PSs (cxOf CX0 P w K mg base nLth "_law_through" (defScope sLth) f cdv A outer s H E).nox (iBody.drop 5) u ∧
        ∀ (D0 : Ends) (pa ra O M rw : Addr) (l i : Nat) (z y : Int) (oacc macc : List V) (H1 : Hp), H1 O = some (.lst oacc) → H1 M = some (.lst macc) → O ≠ M → oacc.length ≤ 1000 → macc.length ≤ 1000 →
          D0.nx [some (.ref nt), some (.int L), some (.ref st), some (.ref xa), some (.int N.p), some (.ref pa), some (.ref ra), some (.int l), some (.ref O), some (.ref M), some (.int i), some (.ref rw), some (.int z), some (.int y), none]
            (upd (upd H1 O (.lst (oacc ++ [.int (z % N.p)]))) M (.lst (macc ++ [.int (y % N.p)]))) →
          u D0 [some (.ref nt), some (.int L), some (.ref st), some (.ref xa), some (.int N.p), some (.ref pa), some (.ref ra), some (.int l), some (.ref O), some (.ref M), some (.int i), some (.ref rw), some (.int z), some (.int y), none] H1 := by
      refine ⟨_, pss_cons (ps_expr (pe_bm PySem.F.plainAttrs_list PySem.F.slot_list_append PySem.F.type_list_append mt_append (pv 8) (pa_cons (pe_op op_mod (pe_callTy call_int1 (by rfl) T.int bInt (pa_cons (pv 12) pa_nil)) (pv 4)) pa_nil)))
        (pss_one (ps_expr (pe_bm PySem.F.plainAttrs_list PySem.F.slot_list_append PySem.F.type_list_append mt_append (pv 9) (pa_cons (pe_op op_mod (pe_callTy call_int1 (by rfl) T.int bInt (pa_cons (pv 13) pa_nil)) (pv 4)) pa_nil)))),
        fun D0 pa ra O M rw l i z y oacc macc H1 hO hM hne l1 l2 hx => ?_⟩
      refine ⟨_, rfl, .inl ⟨rfl, _, SqL.of hO⟩, _, rfl, .inl ⟨_, rfl, _, rfl, _, _, rfl, rfl, ok.p0, O, oacc, _, rfl, rfl, hO, small1000 l1, ?_⟩⟩
      have hM2 : (upd H1 O (.lst (oacc ++ [.int (z % N.p)]))) M = some (.lst macc) := by rw [upd_ne hne.symm]; exact hM
      refine ⟨_, rfl, .inl ⟨rfl, _, SqL.of hM2⟩, _, rfl, .inl ⟨_, rfl, _, rfl, _, _, rfl, rfl, ok.p0, M, macc, _, rfl, rfl, hM2, small1000 l2, hx⟩⟩
    -- if net_here[2][l] == 'square'
    obtain ⟨u1, hu1, hq1⟩ : ∃ u, PSs (cxOf CX0 P w K mg base nLth "_law_through" (defScope sLth) f cdv A outer s H E).nox (iBody.drop 4) u ∧
        ∀ (D0 : Ends) (pa ra O M rw : Addr) (l i : Nat) (z y : Int) (oacc macc : List V) (H1 : Hp), l < N.n → Same H H1 → (0 ≤ z ∧ z ≤ 28227) → H1 O = some (.lst oacc) → H1 M = some (.lst macc) → O ≠ M → oacc.length ≤ 1000 → macc.length ≤ 1000 →
          (∀ z' y' : Int, D0.nx [some (.ref nt), some (.int L), some (.ref st), some (.ref xa), some (.int N.p), some (.ref pa), some (.ref ra), some (.int l), some (.ref O), some (.ref M), some (.int i), some (.ref rw), some (.int z'), some (.int y'), none]
            (upd (upd H1 O (.lst (oacc ++ [.int ((if N.s l = true then z * z else z) % N.p)]))) M (.lst (macc ++ [.int ((if N.s l = true then 2 * z * y else y) % N.p)])))) →
          u D0 [some (.ref nt), some (.int L), some (.ref st), some (.ref xa), some (.int N.p), some (.ref pa), some (.ref ra), some (.int l), some (.ref O), some (.ref M), some (.int i), some (.ref rw), some (.int z), some (.int y), none] H1 := by
      refine ⟨_, pss_cons (ps_if (pt_cmpR op_eq (e_ix (e_ix (pv 0) pe_int) (pv 7)) pe_str (nomark _))
        (pss_one (ps_par (i := 12) (j := 13) (by rfl) scLth.nd rfl rfl (by decide) rfl rfl (pa_cons (pe_op op_mul (pv 12) (pv 12)) (pa_cons (pe_op op_mul (pe_op op_mul pe_int (pv 12)) (pv 13)) pa_nil)) (by rfl))) pss_nil) hu2,
        fun D0 pa ra O M rw l i z y oacc macc H1 hl s1 bz hO hM hne l1 l2 hx => ?_⟩
      obtain ⟨kl, hkl, rfl⟩ := hSR.at hl
      refine ⟨_, rfl, nt, false, _, 2, .ref ka, rfl, rfl, Same.keepT s1 _ _ hnt, atI_nat (j := 2) rfl, _, rfl, ka, false, ks, l, _, rfl, rfl, Same.keepT s1 _ _ hS, atI_nat hkl, rfl, _, rfl, ?_⟩
      cases es : N.s l with
      | true =>
        rw [kind_sq]
        have hx2 := hx (z * z) (2 * z * y)
        rw [es, if_pos rfl, if_pos rfl] at hx2
        exact iteT ⟨_, rfl, _, rfl, _, _, rfl, rfl, .inl ⟨by omega, by omega⟩, _, rfl, _, _, rfl, rfl, .inl ⟨by decide, by decide⟩, _, rfl, _, _, rfl, rfl, .inl ⟨by omega, by omega⟩, _, _, rfl, hq2 _ _ _ _ _ _ _ _ _ _ _ _ _ hO hM hne l1 l2 hx2⟩
      | false =>
        rw [kind_li]
        have hx2 := hx z y
        rw [es, if_neg Bool.false_ne_true, if_neg Bool.false_ne_true] at hx2
        exact iteF (hq2 _ _ _ _ _ _ _ _ _ _ _ _ _ hO hM hne l1 l2 hx2)
    refine ⟨_, pss_cons (ps_set (i := 4) scLth.nd rfl (.inl rfl) (e_ix (pv 0) pe_int))
      (pss_cons (ps_set (i := 5) scLth.nd rfl (.inr rfl) (pe_callTy c_lst (by rfl) T.list bLst (pa_cons (pv 3) pa_nil)))
      (pss_cons (ps_set (i := 6) scLth.nd rfl (.inr rfl) (pe_op op_rep (pe_lst (pa_cons pe_int pa_nil)) (pe_callB c_len (by rfl) T.len bLen (pa_cons (pv 3) pa_nil))))
      (pss_cons (ps_for PassesOwn.never rfl (pi_range1 (by rfl) T.range (pa_cons (pe_callB c_len (by rfl) T.len bLen (pa_cons (e_ix (pv 0) pe_int) pa_nil)) pa_nil)) (pg_name (i := 7) scLth.nd rfl (.inl rfl))
        (pss_cons (ps_set (i := 8) scLth.nd rfl (.inl rfl) (pe_lst pa_nil))
        (pss_cons (ps_set (i := 9) scLth.nd rfl (.inl rfl) (pe_lst pa_nil))
        (pss_cons (ps_for PassesOwn.never rfl (pi_range1 (by rfl) T.range (pa_cons (pe_callB c_len (by rfl) T.len bLen (pa_cons (pv 3) pa_nil)) pa_nil)) (pg_name (i := 10) scLth.nd rfl (.inl rfl))
          (pss_cons (ps_set (i := 11) scLth.nd rfl (.inr rfl) (e_ix (e_ix (e_ix (pv 0) pe_int) (pv 7)) (pv 10)))
          (pss_cons (ps_set (i := 12) scLth.nd rfl (.inl rfl) (pe_callB c_sum (by rfl) T.sum bSum (pa_cons (pe_lc (own := [("_law_k", 14)]) (by rfl) scLth.nd
            (pi_range1 (by rfl) T.range (pa_cons (pe_callB c_len (by rfl) T.len bLen (pa_cons (pv 5) pa_nil)) pa_nil)) (blkOk_by (N := nLth) (sc := defScope sLth) (by decide +kernel))
            (fun _ _ _ _ _ => pg_name (i := 14) scLth.nd rfl (Or.inl rfl)) (fun _ _ _ _ _ => pts_nil) (fun _ _ _ _ _ => pe_op op_mul (e_ix (pv 11) (pv 14)) (e_ix (pv 5) (pv 14)))) pa_nil)))
          (pss_cons (ps_set (i := 13) scLth.nd rfl (.inl rfl) (pe_callB c_sum (by rfl) T.sum bSum (pa_cons (pe_lc (own := [("_law_k", 14)]) (by rfl) scLth.nd
            (pi_range1 (by rfl) T.range (pa_cons (pe_callB c_len (by rfl) T.len bLen (pa_cons (pv 5) pa_nil)) pa_nil)) (blkOk_by (N := nLth) (sc := defScope sLth) (by decide +kernel))
            (fun _ _ _ _ _ => pg_name (i := 14) scLth.nd rfl (Or.inl rfl)) (fun _ _ _ _ _ => pts_nil) (fun _ _ _ _ _ => pe_op op_mul (e_ix (pv 11) (pv 14)) (e_ix (pv 6) (pv 14)))) pa_nil)))
          (pss_cons (ps_if (PW.pt (pw_and (pt_cmpR op_eq (pv 7) (pv 1) (nomark _)) (pw_and1 (pt_cmpR op_eq (pv 10) (e_ix (pv 2) pe_int) (nomark _)))))
            (pss_one (ps_set (i := 13) scLth.nd rfl (.inl rfl) (pe_op op_add (pv 13) (e_ix (pv 5) (e_ix (pv 2) pe_int))))) pss_nil) hu1)))))
        (pss_cons (ps_set (i := 5) scLth.nd rfl (.inr rfl) (pv 8))
        (pss_one (ps_set (i := 6) scLth.nd rfl (.inr rfl) (pv 9))))))))
      (pss_one (ps_ret (pe_lst (pa_cons (pv 5) (pa_cons (pv 6) pa_nil)))))))), ?_⟩
    -- prime, plain, rises
    refine ⟨_, rfl, nt, false, _, 0, _, rfl, rfl, hnt, atI_nat (j := 0) rfl, ?_⟩
    refine ⟨_, rfl, xa, false, _, rfl, hx, fun p1 hp1 => ?_⟩
    have s1 : Same H (upd H p1 (.lst (ivs N.w x))) := same_new hp1
    refine ⟨by show 1 ≤ 16777216; omega, fun p2 hp2 => ?_⟩
    have s2 : Same (upd H p1 (.lst (ivs N.w x))) (upd (upd H p1 (.lst (ivs N.w x))) p2 (.lst [.int 0])) := same_new hp2
    have hx2 := Same.keepT (K := K) (s1.trans s2) _ _ hx
    refine ⟨_, rfl, xa, false, _, rfl, hx2, p2, _, [.int 0], rfl, rfl, upd_same, by omega, by rw [ivs_len]; omega, by rw [ivs_len, Int.toNat_natCast]; show 1 * N.w ≤ 16777216; omega, fun p3 hp3 => ?_⟩
    rw [ivs_len, Int.toNat_natCast, rep_one, rep_nought]
    have s3 := same_new (o := .lst (ivs N.w fun _ => 0)) hp3
    have s123 := s1.trans (s2.trans s3)
    have hp13 := s3 _ _ (s2 _ _ upd_same)
    -- for l in range(len(net_here[1]))
    refine ⟨_, rfl, nt, false, _, 1, .ref wa, rfl, rfl, Same.keepT s123 _ _ hnt, atI_nat (j := 1) rfl, wa, false, us, rfl, Same.keepT s123 _ _ hU, _, rfl, by omega, by rw [hUR.1]; omega, ?_⟩
    refine for_it (walk_rngI (n := N.n) (by rw [hUR.1])) (fun l σ H' => ∃ pa ra y7 y8 y9 y10 y11 y12 y13, σ = [some (.ref nt), some (.int L), some (.ref st), some (.ref xa), some (.int N.p), some (.ref pa), some (.ref ra), y7, y8, y9, y10, y11, y12, y13, none] ∧ Same H H' ∧
        H' pa = some (.lst (ivs N.w (thrF N.p N.w N.W N.s x L a b l).1)) ∧ H' ra = some (.lst (ivs N.w (thrF N.p N.w N.W N.s x L a b l).2)))
      ⟨p1, p3, none, none, none, none, none, none, none, rfl, s123, hp13, upd_same⟩ (fun _ _ _ _ _ => trivial) (fun l y σ H2x H2 hl hP yy => ?_) (fun σ H2 hP => ?_)
    · obtain ⟨pa, ra, y7, y8, y9, y10, y11, y12, y13, rfl, t2, hpa, hra⟩ := hP
      obtain ⟨rfl, rfl⟩ := yy
      obtain ⟨bd1, bd2⟩ := thr_bd ok bx L a b l
      obtain ⟨ul, hul, ma, rows, rfl, hM, hMR⟩ := hUR.at hl
      -- one = []; more = []
      refine ⟨Nat.zero_le _, fun O hO => ⟨Nat.zero_le _, fun M hM0 => ?_⟩⟩
      have t3 : Same H2 (upd H2 O (.lst [])) := same_new hO
      have t4 : Same (upd H2 O (.lst [])) (upd (upd H2 O (.lst [])) M (.lst [])) := same_new hM0
      have nOM : O ≠ M := ne_of_none upd_same hM0
      have hM2 : H2 M = none := t3.free hM0
      -- for i in range(len(vector_here))
      refine ⟨_, rfl, xa, false, _, rfl, Same.keepT (t2.trans (t3.trans t4)) _ _ hx, _, rfl, by omega, by rw [ivs_len]; omega, ?_⟩
      refine for_it (walk_rngI (n := N.w) (by rw [ivs_len])) (fun i σ H' => ∃ z10 z11 z12 z13, σ = [some (.ref nt), some (.int L), some (.ref st), some (.ref xa), some (.int N.p), some (.ref pa), some (.ref ra), some (.int l), some (.ref O), some (.ref M), z10, z11, z12, z13, none] ∧ Same H2 H' ∧
          H' O = some (.lst (ivs i (thrF N.p N.w N.W N.s x L a b (l + 1)).1)) ∧ H' M = some (.lst (ivs i (thrF N.p N.w N.W N.s x L a b (l + 1)).2)))
        ⟨y10, y11, y12, y13, rfl, t3.trans t4, t4 _ _ upd_same, upd_same⟩ (fun _ _ _ _ _ => trivial) (fun i y σ H5x H5 hi hP yy => ?_) (fun σ H5 hP => ?_)
      · obtain ⟨z10, z11, z12, z13, rfl, t5, hO5, hM5⟩ := hP
        obtain ⟨rfl, rfl⟩ := yy
        have t25 := t2.trans t5
        obtain ⟨ui, hui, rw5, rfl, hrw⟩ := hMR.at hi
        have hpa5 := t5 _ _ hpa
        have hra5 := t5 _ _ hra
        have hrw5 := Same.keepT t25 _ _ hrw
        -- row = net_here[1][l][i]
        refine ⟨_, rfl, nt, false, _, 1, .ref wa, rfl, rfl, Same.keepT t25 _ _ hnt, atI_nat (j := 1) rfl, _, rfl, wa, false, us, l, _, rfl, rfl, Same.keepT t25 _ _ hU, atI_nat hul, _, rfl, ma, false, rows, i, _, rfl, rfl, Same.keepT t25 _ _ hM, atI_nat hui, ?_⟩
        -- value = sum([..])
        refine ⟨_, rfl, pa, true, _, rfl, SqL.of hpa5, _, rfl, by omega, by rw [ivs_len]; omega, fun D hD => ?_⟩
        refine lc_s (K := K) (walk_rngI (n := N.w) (by rw [ivs_len])) hD wsz (fun _ v k => v = .int (N.W l i k * (thrF N.p N.w N.W N.s x L a b l).1 k)) (fun _ _ _ _ _ z => z) (fun _ _ => trivial) (fun k y H6x H6 Z hk t6 yy hz => ?_) (fun H6 acc t6 hD6 hR6 => ?_)
        · obtain ⟨rfl, rfl⟩ := yy
          refine ⟨rfl, _, rfl, _, rfl, rw5, false, _, k, _, rfl, rfl, Same.keepT t6 _ _ hrw5, atI_nat (ivs_get hk), _, rfl, _, rfl, pa, true, _, k, _, rfl, rfl, SqL.of (t6 _ _ hpa5), atI_nat (ivs_get hk), _, _, rfl, rfl, small_mul (ok.lo l i k) (ok.hi l i k), ?_⟩
          exact hz _ _ (Same.refl _) rfl
        rw [hR6.ints, ivs_ints] at hD6
        refine ⟨D, _, rfl, SqL.of hD6, ?_⟩
        rw [sum_range]
        -- rise = sum([..])
        refine ⟨_, rfl, pa, true, _, rfl, SqL.of (t6 _ _ hpa5), _, rfl, by omega, by rw [ivs_len]; omega, fun D2 hD2 => ?_⟩
        refine lc_s (K := K) (walk_rngI (n := N.w) (by rw [ivs_len])) hD2 wsz (fun _ v k => v = .int (N.W l i k * (thrF N.p N.w N.W N.s x L a b l).2 k)) (fun _ _ _ _ _ z => z) (fun _ _ => trivial) (fun k y H7x H7 Z hk t7 yy hz => ?_) (fun H7 acc2 t7 hD7 hR7 => ?_)
        · obtain ⟨rfl, rfl⟩ := yy
          refine ⟨rfl, _, rfl, _, rfl, rw5, false, _, k, _, rfl, rfl, Same.keepT (t6.trans t7) _ _ hrw5, atI_nat (ivs_get hk), _, rfl, _, rfl, ra, true, _, k, _, rfl, rfl, SqL.of (t7 _ _ (t6 _ _ hra5)), atI_nat (ivs_get hk), _, _, rfl, rfl, small_mul (ok.lo l i k) (ok.hi l i k), ?_⟩
          exact hz _ _ (Same.refl _) rfl
        rw [hR7.ints, ivs_ints] at hD7
        refine ⟨D2, _, rfl, SqL.of hD7, ?_⟩
        rw [sum_range]
        have t67 := t6.trans t7
        have hv := dot_bd w3 (fun k => ⟨ok.lo l i k, ok.hi l i k⟩) bd1
        -- what the turn leaves
        have fin : ∀ (rise : Int) (z' y' : Int), rise = risF N.w (N.W l) (thrF N.p N.w N.W N.s x L a b l).1 (thrF N.p N.w N.W N.s x L a b l).2 (decide (l = L)) a b i →
            ∃ z10 z11 z12 z13, ([some (.ref nt), some (.int L), some (.ref st), some (.ref xa), some (.int N.p), some (.ref pa), some (.ref ra), some (.int l), some (.ref O), some (.ref M), some (.int i), some (.ref rw5), some (.int z'), some (.int y'), none] : L2.St) =
              [some (.ref nt), some (.int L), some (.ref st), some (.ref xa), some (.int N.p), some (.ref pa), some (.ref ra), some (.int l), some (.ref O), some (.ref M), z10, z11, z12, z13, none] ∧
            Same H2 (upd (upd H7 O (.lst (ivs i (thrF N.p N.w N.W N.s x L a b (l + 1)).1 ++ [.int ((if N.s l = true then dot N.w (N.W l i) (thrF N.p N.w N.W N.s x L a b l).1 * dot N.w (N.W l i) (thrF N.p N.w N.W N.s x L a b l).1 else dot N.w (N.W l i) (thrF N.p N.w N.W N.s x L a b l).1) % N.p)]))) M
              (.lst (ivs i (thrF N.p N.w N.W N.s x L a b (l + 1)).2 ++ [.int ((if N.s l = true then 2 * dot N.w (N.W l i) (thrF N.p N.w N.W N.s x L a b l).1 * rise else rise) % N.p)]))) ∧
            (upd (upd H7 O (.lst (ivs i (thrF N.p N.w N.W N.s x L a b (l + 1)).1 ++ [.int ((if N.s l = true then dot N.w (N.W l i) (thrF N.p N.w N.W N.s x L a b l).1 * dot N.w (N.W l i) (thrF N.p N.w N.W N.s x L a b l).1 else dot N.w (N.W l i) (thrF N.p N.w N.W N.s x L a b l).1) % N.p)]))) M
              (.lst (ivs i (thrF N.p N.w N.W N.s x L a b (l + 1)).2 ++ [.int ((if N.s l = true then 2 * dot N.w (N.W l i) (thrF N.p N.w N.W N.s x L a b l).1 * rise else rise) % N.p)]))) O = some (.lst (ivs (i + 1) (thrF N.p N.w N.W N.s x L a b (l + 1)).1)) ∧
            (upd (upd H7 O (.lst (ivs i (thrF N.p N.w N.W N.s x L a b (l + 1)).1 ++ [.int ((if N.s l = true then dot N.w (N.W l i) (thrF N.p N.w N.W N.s x L a b l).1 * dot N.w (N.W l i) (thrF N.p N.w N.W N.s x L a b l).1 else dot N.w (N.W l i) (thrF N.p N.w N.W N.s x L a b l).1) % N.p)]))) M
              (.lst (ivs i (thrF N.p N.w N.W N.s x L a b (l + 1)).2 ++ [.int ((if N.s l = true then 2 * dot N.w (N.W l i) (thrF N.p N.w N.W N.s x L a b l).1 * rise else rise) % N.p)]))) M = some (.lst (ivs (i + 1) (thrF N.p N.w N.W N.s x L a b (l + 1)).2)) := by
          intro rise z' y' er
          subst er
          refine ⟨_, _, _, _, rfl, same_upd (same_upd (t5.trans t67) hO) hM2, ?_, ?_⟩
          · rw [upd_ne nOM, upd_same, ivs_succ]
            rfl
          · rw [upd_same, ivs_succ]
            rfl
        -- if l == layer and i == spot[0]
        refine ⟨_, rfl, _, rfl, rfl, _, rfl, ite2 (fun e1 => ?_) fun e1 => iteF ?_⟩
        · have el : l = L := by
            have := V.int.inj (of_decide_eq_true e1)
            omega
          have hst7 := Same.keepT (t25.trans t67) _ _ hst
          refine ⟨_, rfl, _, rfl, st, false, _, 0, _, rfl, rfl, hst7, atI_nat (j := 0) rfl, rfl, _, rfl, ite2 (fun e2 => ?_) fun e2 => ?_⟩
          · have ei : i = a := by
              have := V.int.inj (of_decide_eq_true e2)
              omega
            refine ⟨_, rfl, _, rfl, _, rfl, st, false, _, 1, _, rfl, rfl, hst7, atI_nat (j := 1) rfl, pa, true, _, b, _, rfl, rfl, SqL.of (t67 _ _ hpa5), atI_nat (ivs_get hb), _, _, rfl, rfl, ?_⟩
            refine hq1 _ _ _ _ _ _ _ _ _ _ _ _ _ hl (t25.trans t67) hv (t67 _ _ hO5) (t67 _ _ hM5) nOM (by rw [ivs_len]; omega) (by rw [ivs_len]; omega) fun z' y' => fin _ z' y' ?_
            unfold risF
            rw [if_pos ⟨decide_eq_true el, ei⟩]
            rfl
          · refine hq1 _ _ _ _ _ _ _ _ _ _ _ _ _ hl (t25.trans t67) hv (t67 _ _ hO5) (t67 _ _ hM5) nOM (by rw [ivs_len]; omega) (by rw [ivs_len]; omega) fun z' y' => fin _ z' y' ?_
            unfold risF
            rw [if_neg fun z => e2 (decide_eq_true (by rw [z.2]))]
            rfl
        · refine hq1 _ _ _ _ _ _ _ _ _ _ _ _ _ hl (t25.trans t67) hv (t67 _ _ hO5) (t67 _ _ hM5) nOM (by rw [ivs_len]; omega) (by rw [ivs_len]; omega) fun z' y' => fin _ z' y' ?_
          unfold risF
          rw [if_neg fun z => e1 (decide_eq_true (by rw [of_decide_eq_true z.1]))]
          rfl
      · obtain ⟨z10, z11, z12, z13, rfl, t5, hO5, hM5⟩ := hP
        -- plain = one; rises = more
        exact ⟨_, rfl, _, rfl, O, M, _, _, _, _, _, _, _, rfl, t2.trans t5, hO5, hM5⟩
    · obtain ⟨pa, ra, y7, y8, y9, y10, y11, y12, y13, rfl, t2, hpa, hra⟩ := hP
      refine ⟨_, rfl, _, rfl, by show 2 ≤ 16777216; omega, fun r hr2 => ?_⟩
      have t3 := same_new (o := .lst [.ref pa, .ref ra]) hr2
      exact q r pa ra _ (t2.trans t3) upd_same (t3 _ _ hpa) (t3 _ _ hra)
end
end K5

namespace K5
open PySem PySem.Spec PyProof.Rows L2 K5M
section
variable {P : Program} {w : World} {K : PySem.W.Frag} {mg : Str → Option Value} {base : Heap}
/-! ### _law_coefficient -/
def spLco (K : PySem.W.Frag) : Sp := fun vs H Q _ => ∃ (nt st : Addr) (pv wv kv : V) (N : NetD) (L a b m : Nat) (xs ts : Nat → Nat → Int), vs = [.ref nt, pv, .int L, .ref st] ∧ N.Ok ∧ SqT K H nt [.int N.p, wv, kv] ∧ Ten K H wv N.n N.w N.W ∧ Kinds K H kv N.n N.s ∧
  SqT K H st [.int a, .int b] ∧ b < N.w ∧ PortT K H pv m N.w xs ts ∧ (∀ e, Bd (xs e)) ∧ (∀ e, Bd (ts e)) ∧ ∀ H', Same H H' → Q (.int (cofF N.p N.n N.w N.W N.s xs ts L a b m % N.p)) H'
theorem ok_lco {f fT : Addr} {fd fdT : FuncData} (F : Fun K "_law_coefficient" "_law_coefficient" sLco f fd) (T : Txt K mg)
    (GT : FnOk P w K mg base CX0 1 fT fdT ["_law_net_here", "_law_layer", "_law_spot", "_law_vector_here"] (spLth K)) (kT : PySem.W.keepIn K (.ref fT) = true) (bT : Binds K fdT ["_law_net_here", "_law_layer", "_law_spot", "_law_vector_here"] []) (gT : mg "_law_through" = some (.ref fT)) :
    FnOk P w K mg base CX0 2 f fd ["_law_net_here", "_law_portion_here", "_law_layer", "_law_spot"] (spLco K) := by
  refine F.ok scLco (fun vs H Q E h => ?_) (fun cdv A outer s H vs Q E hr h => ?_)
  · obtain ⟨nt, st, pv, wv, kv, N, L, a, b, m, xs, ts, rfl, _⟩ := h
    rfl
  · obtain ⟨nt, st, pv, wv, kv, N, L, a, b, m, xs, ts, rfl, ok, hnt, hW, hK, hst, hb, ⟨pa, us, rfl, hp, hPR⟩, bx, bt, q⟩ := h
    have w3 := ok.w3
    refine ⟨_, pss_cons (ps_set (i := 4) scLco.nd rfl (.inl rfl) pe_int)
      (pss_cons (ps_for PassesOwn.never rfl (w_seq (L2.pv 1)) (g_seq (n := 2) rfl (pgs_cons (pg_name (i := 5) scLco.nd rfl (.inl rfl)) (pgs_cons (pg_name (i := 6) scLco.nd rfl (.inl rfl)) pgs_nil)))
        (pss_cons (ps_asg (pe_call GT hr (by rfl) gT kT bT .nil pass0 (pa_cons (L2.pv 0) (pa_cons (L2.pv 2) (pa_cons (L2.pv 3) (pa_cons (L2.pv 5) pa_nil)))))
          (g_seq (n := 2) rfl (pgs_cons (pg_name (i := 7) scLco.nd rfl (.inl rfl)) (pgs_cons (pg_name (i := 8) scLco.nd rfl (.inl rfl)) pgs_nil))))
        (pss_one (ps_for PassesOwn.never rfl (pi_range1 (by rfl) T.range (pa_cons (pe_callB c_len (by rfl) T.len bLen (pa_cons (L2.pv 6) pa_nil)) pa_nil)) (pg_name (i := 9) scLco.nd rfl (.inl rfl))
          (pss_one (ps_set (i := 4) scLco.nd rfl (.inl rfl) (pe_op op_add (L2.pv 4) (pe_op op_mul (pe_op op_mul pe_int (pe_op op_sub (e_ix (L2.pv 7) (L2.pv 9)) (e_ix (L2.pv 6) (L2.pv 9)))) (e_ix (L2.pv 8) (L2.pv 9))))))))))
      (pss_one (ps_ret (pe_op op_mod (pe_callTy call_int1 (by rfl) T.int bInt (pa_cons (L2.pv 4) pa_nil)) (e_ix (L2.pv 0) pe_int))))), ?_⟩
    refine ⟨_, rfl, pa, false, rfl, ⟨us, hp⟩, ?_⟩
    refine for_it (walk_seq (c := false) hPR.1) (fun e σ H' => ∃ y5 y6 y7 y8 y9, σ = [some (.ref nt), some (.ref pa), some (.int L), some (.ref st), some (.int (cofF N.p N.n N.w N.W N.s xs ts L a b e)), y5, y6, y7, y8, y9] ∧ Same H H')
      ⟨none, none, none, none, none, rfl, Same.refl _⟩ (fun e σ H' _ hP => ?_) (fun e y σ H2x H2 he hP yy => ?_) (fun σ H2 hP => ?_)
    · obtain ⟨_, _, _, _, _, _, s1⟩ := hP
      exact Same.keepT s1 _ _ hp
    · obtain ⟨y5, y6, y7, y8, y9, rfl, s1⟩ := hP
      obtain ⟨rfl, hy⟩ := yy
      obtain ⟨ea, xv, tv, rfl, hE, hx, ht⟩ := hPR.2 e y hy
      have k1 := Same.keepT (K := K) s1
      refine ⟨ea, false, [xv, tv], rfl, k1 _ _ hE, rfl, xv, [tv], rfl, tv, [], rfl, rfl, ?_⟩
      -- plain, rises = through(..)
      refine ⟨_, rfl, _, rfl, _, rfl, _, rfl, nt, st, xv, wv, kv, N, L, a, b, xs e, rfl, ok, k1 _ _ hnt, hW.keep k1, hK.keep k1, k1 _ _ hst, hb, hx.keep k1, bx e, fun r l1 l2 H3 s3 hr3 h1 h2 => ?_⟩
      refine ⟨r, true, [.ref l1, .ref l2], rfl, SqL.of hr3, rfl, .ref l1, [.ref l2], rfl, .ref l2, [], rfl, rfl, ?_⟩
      obtain ⟨bd1, bd2⟩ := thr_bd ok (bx e) L a b N.n
      obtain ⟨ta, rfl, hta⟩ := ht.keep (Same.keepT (s1.trans s3))
      -- for k in range(len(target))
      refine ⟨_, rfl, ta, false, _, rfl, hta, _, rfl, by omega, by rw [ivs_len]; omega, ?_⟩
      refine for_it (walk_rngI (n := N.w) (by rw [ivs_len])) (fun k σ H' => ∃ z9, σ = [some (.ref nt), some (.ref pa), some (.int L), some (.ref st),
          some (.int (cofF N.p N.n N.w N.W N.s xs ts L a b e + sumN k fun k => 2 * ((thrF N.p N.w N.W N.s (xs e) L a b N.n).1 k - ts e k) * (thrF N.p N.w N.W N.s (xs e) L a b N.n).2 k)), some xv, some (.ref ta), some (.ref l1), some (.ref l2), z9] ∧ H' = H3)
        ⟨y9, by rw [show sumN 0 (fun k => 2 * ((thrF N.p N.w N.W N.s (xs e) L a b N.n).1 k - ts e k) * (thrF N.p N.w N.W N.s (xs e) L a b N.n).2 k) = 0 from rfl, Int.add_zero]; rfl, rfl⟩ (fun _ _ _ _ _ => trivial) (fun k y σ H5x H5 hk hP yy => ?_) (fun σ H5 hP => ?_)
      · obtain ⟨z9, rfl, rfl⟩ := hP
        obtain ⟨rfl, rfl⟩ := yy
        have c1 := bd1 k
        have c2 := bt e k
        refine ⟨_, rfl, _, rfl, _, rfl, l1, true, _, k, _, rfl, rfl, SqL.of h1, atI_nat (ivs_get hk), _, rfl, _, rfl, ta, false, _, k, _, rfl, rfl, hta, atI_nat (ivs_get hk), _, _, rfl, rfl, _, _, rfl, rfl, .inl ⟨by decide, by decide⟩, ?_⟩
        refine ⟨_, rfl, _, rfl, l2, true, _, k, _, rfl, rfl, SqL.of h2, atI_nat (ivs_get hk), _, _, rfl, rfl, .inl ⟨by omega, by omega⟩, _, _, rfl, rfl, ?_⟩
        have e5 : ∀ (F : Nat → Int) (c : Int), c + sumN k F + F k = c + sumN (k + 1) F := fun F c => Int.add_assoc c (sumN k F) (F k)
        refine ⟨some (.int k), ?_, rfl⟩
        rw [← e5]
        rfl
      · obtain ⟨z9, rfl, rfl⟩ := hP
        exact ⟨_, _, _, _, _, rfl, s1.trans s3⟩
    · obtain ⟨y5, y6, y7, y8, y9, rfl, s1⟩ := hP
      exact ⟨_, rfl, .inl ⟨_, rfl, _, rfl, nt, false, _, 0, _, rfl, rfl, Same.keepT s1 _ _ hnt, atI_nat (j := 0) rfl, _, _, rfl, rfl, ok.p0, q _ s1⟩⟩
end
end K5

namespace K5
open PySem PySem.Spec PyProof.Rows L2 K5M
/-! ### data that is shown and compared -/
structure Good (q W : Nat) (d : PyData) : Prop where
  sh : d.showable = true
  nd : d.hasDict = false
  cl : d.canLay0 = true
  dp : d.depth ≤ q
  ls : d.leavesShort 8 = true
  wt : d.weight ≤ W
theorem short_ints : (List.range 97).all (fun n => decide ((PyData.shown (.int (n : Int))).length ≤ 8) && decide (((n : Int).natAbs.log2 < 1920)) && decide (PyData.weight (.int (n : Int)) ≤ 7)) = true := by decide +kernel
theorem good_int {i : Int} (h : 0 ≤ i ∧ i < 97) : Good 0 7 (.int i) := by
  obtain ⟨n, rfl⟩ : ∃ n : Nat, i = (n : Int) := ⟨i.toNat, by omega⟩
  have q := List.all_eq_true.mp short_ints n (List.mem_range.mpr (by omega))
  simp only [Bool.and_eq_true, decide_eq_true_eq] at q
  refine ⟨?_, ?_, ?_, ?_, ?_, q.2⟩
  · simp only [PyData.showable, decide_eq_true_eq]
    exact q.1.2
  · rfl
  · rfl
  · simp [PyData.depth]
  · simp only [PyData.leavesShort, decide_eq_true_eq]
    exact q.1.1
theorem good_all {q W : Nat} : ∀ l : List PyData, (∀ d ∈ l, Good q W d) → PyData.showableAll l = true ∧ PyData.hasDictAll l = false ∧ PyData.canLayAll0 l = true ∧ PyData.depthAll l ≤ q ∧ PyData.leavesShortAll 8 l = true ∧ PyData.weightAll l ≤ l.length * (W + 1)
  | [], _ => ⟨by simp [PyData.showableAll], by simp [PyData.hasDictAll], by simp [PyData.canLayAll0], by simp [PyData.depthAll], by simp [PyData.leavesShortAll], by simp [PyData.weightAll]⟩
  | d :: l, h => by
    obtain ⟨h1, h2, h3, h4, h5, h6⟩ := good_all l fun e he => h e (List.mem_cons_of_mem _ he)
    have g := h d List.mem_cons_self
    refine ⟨?_, ?_, ?_, ?_, ?_, ?_⟩
    · simp only [PyData.showableAll, g.sh, h1, Bool.and_self]
    · simp only [PyData.hasDictAll, g.nd, h2, Bool.or_self]
    · simp only [PyData.canLayAll0, g.cl, h3, Bool.and_self]
    · simp only [PyData.depthAll]
      have := g.dp
      omega
    · simp only [PyData.leavesShortAll, g.ls, h5, Bool.and_self]
    · simp only [PyData.weightAll, List.length_cons]
      have e : (l.length + 1) * (W + 1) = l.length * (W + 1) + (W + 1) := by rw [Nat.add_mul, Nat.one_mul]
      have := g.wt
      omega
theorem good_tup {q W n : Nat} {l : List PyData} (hl : l.length ≤ n) (h : ∀ d ∈ l, Good q W d) : Good (q + 1) (n * (W + 1)) (.tuple l) := by
  obtain ⟨h1, h2, h3, h4, h5, h6⟩ := good_all l h
  have e : l.length * (W + 1) ≤ n * (W + 1) := Nat.mul_le_mul_right _ hl
  refine ⟨?_, ?_, ?_, ?_, ?_, ?_⟩
  · simpa only [PyData.showable] using h1
  · simpa only [PyData.hasDict] using h2
  · simpa only [PyData.canLay0] using h3
  · simp only [PyData.depth]
    omega
  · simpa only [PyData.leavesShort] using h5
  · simp only [PyData.weight]
    omega
theorem Good.fits {q W : Nat} {d : PyData} (g : Good q W d) (h : W ≤ 1000) : d.shown.length ≤ sizeLine :=
  PyData.shown_fits (B := 8) (by decide) (by decide) g.ls (Nat.le_trans g.wt (Nat.le_trans h (by decide)))
theorem Good.shaped {q W : Nat} {d : PyData} (g : Good q W d) (h : q ≤ 64) : SeqAt.shaped d = true := by
  unfold SeqAt.shaped
  rw [g.cl, decide_eq_true (Nat.le_trans g.dp h)]
  rfl
def vecD (w : Nat) (f : Nat → Int) : PyData := .tuple ((List.range w).map fun k => .int (f k))
def matD (w : Nat) (m : Nat → Nat → Int) : PyData := .tuple ((List.range w).map fun i => vecD w (m i))
def tenD (n w : Nat) (t : Nat → Nat → Nat → Int) : PyData := .tuple ((List.range n).map fun l => matD w (t l))
def porD (m w : Nat) (xs ts : Nat → Nat → Int) : PyData := .tuple ((List.range m).map fun e => .tuple [vecD w (xs e), vecD w (ts e)])
theorem dpAll_of {K : PySem.W.Frag} {H : Hp} : ∀ (vs : List V) (d : Nat → PyData), (∀ (i : Nat) (u : V), vs[i]? = some u → Dp K H u (d i)) → DpAll K H vs ((List.range vs.length).map d)
  | [], _, _ => .nil
  | v :: vs, d, h => by
    rw [List.length_cons, List.range_succ_eq_map, List.map_cons, List.map_map]
    exact .cons (h 0 v rfl) (dpAll_of vs (d ∘ Nat.succ) fun i u e => h (i + 1) u e)
theorem tupR_dp {K : PySem.W.Frag} {H : Hp} {v : V} {n : Nat} {d : Nat → PyData} (h : TupR K H v n fun u i => Dp K H u (d i)) : Dp K H v (.tuple ((List.range n).map d)) := by
  obtain ⟨a, vs, rfl, hT, hR⟩ := h
  have := dpAll_of vs d hR.2
  rw [hR.1] at this
  exact .tup hT this
theorem vec_dp {K : PySem.W.Frag} {H : Hp} {v : V} {w : Nat} {f : Nat → Int} (h : Vec K H v w f) : Dp K H v (vecD w f) := by
  obtain ⟨a, rfl, hT⟩ := h
  exact tupR_dp ⟨a, _, rfl, hT, (rows_ivs w f).mono fun u i _ e => by rw [e]; exact .int _⟩
theorem mat_dp {K : PySem.W.Frag} {H : Hp} {v : V} {w : Nat} {m : Nat → Nat → Int} (h : Mat K H v w m) : Dp K H v (matD w m) := tupR_dp (TupR.keep (KeepT.refl K H) (fun _ _ _ z => vec_dp z) h)
theorem ten_dp {K : PySem.W.Frag} {H : Hp} {v : V} {n w : Nat} {t : Nat → Nat → Nat → Int} (h : Ten K H v n w t) : Dp K H v (tenD n w t) := tupR_dp (TupR.keep (KeepT.refl K H) (fun _ _ _ z => mat_dp z) h)
theorem por_dp {K : PySem.W.Frag} {H : Hp} {v : V} {m w : Nat} {xs ts : Nat → Nat → Int} (h : PortT K H v m w xs ts) : Dp K H v (porD m w xs ts) :=
  tupR_dp (TupR.keep (KeepT.refl K H) (fun u e _ ⟨t, xv, tv, eu, h1, h2, h3⟩ => by rw [eu]; exact .tup h1 (.cons (vec_dp h2) (.cons (vec_dp h3) .nil))) h)
theorem good_vec {w : Nat} {f : Nat → Int} (hw : w ≤ 3) (h : Bd f) : Good 1 24 (vecD w f) := by
  refine good_tup (n := 3) (q := 0) (W := 7) (l := (List.range w).map fun k => PyData.int (f k)) (by rw [List.length_map, List.length_range]; exact hw) fun d hd => ?_
  obtain ⟨k, _, rfl⟩ := List.mem_map.mp hd
  exact good_int (h k)
theorem good_mat {w : Nat} {m : Nat → Nat → Int} (hw : w ≤ 3) (h : ∀ i, Bd (m i)) : Good 2 75 (matD w m) := by
  refine good_tup (n := 3) (q := 1) (W := 24) (l := (List.range w).map fun i => vecD w (m i)) (by rw [List.length_map, List.length_range]; exact hw) fun d hd => ?_
  obtain ⟨k, _, rfl⟩ := List.mem_map.mp hd
  exact good_vec hw (h k)
theorem good_ten {n w : Nat} {t : Nat → Nat → Nat → Int} (hn : n ≤ 4) (hw : w ≤ 3) (h : ∀ l i, Bd (t l i)) : Good 3 304 (tenD n w t) := by
  refine good_tup (n := 4) (q := 2) (W := 75) (l := (List.range n).map fun l => matD w (t l)) (by rw [List.length_map, List.length_range]; exact hn) fun d hd => ?_
  obtain ⟨k, _, rfl⟩ := List.mem_map.mp hd
  exact good_mat hw (h k)
theorem good_por {m w : Nat} {xs ts : Nat → Nat → Int} (hm : m ≤ 3) (hw : w ≤ 3) (hx : ∀ e, Bd (xs e)) (ht : ∀ e, Bd (ts e)) : Good 3 153 (porD m w xs ts) := by
  refine good_tup (n := 3) (W := 50) (l := (List.range m).map fun e => .tuple [vecD w (xs e), vecD w (ts e)]) (by rw [List.length_map, List.length_range]; exact hm) fun d hd => ?_
  obtain ⟨k, _, rfl⟩ := List.mem_map.mp hd
  refine good_tup (n := 2) (W := 24) (Nat.le_refl 2) fun d hd => ?_
  rcases List.mem_cons.mp hd with e | e
  · rw [e]
    exact good_vec hw (hx k)
  · rw [List.mem_singleton.mp e]
    exact good_vec hw (ht k)
/-! ### a call by keywords alone, in the parameters' order -/
section
variable {X : Cx} {CX : CXT} {k : Nat} {f : Addr} {fd : FuncData} {ps : List Str} {sp : Sp} {E : XK} {x : Str} {p pos : Pos} {kws : List Keyword} {tk : TA}
theorem pe_callKw (F : FnOk X.prog X.w X.K X.mg X.base CX k f fd ps sp) (hr : Room k X.A) (hg : Gl X x) (hm : X.mg x = some (.ref f)) (hk : PySem.W.keepIn X.K (.ref f) = true)
    (hb : ∀ (s : Shared) (ws : List Value), ws.length = ps.length → BindsTo s fd ⟨[], ps.zip ws⟩ (ps.zip ws)) (hx : Passes CX X E) (hkw : PK X kws tk)
    (hall : (backToKw pos (keywordEach kws X.env)).all (·.1.isSome) = true := by rfl) (hks : (backToKw pos (keywordEach kws X.env)).filterMap (·.1) = ps := by rfl) (hdb : (x == ("__debug__" : Str)) = false := by decide)
    (hpl : ((backTo pos (starEach [] X.env)).any (·.1) || (backToKw pos (keywordEach kws X.env)).any (·.1.isNone)) = false := by rfl) : PE X (.Call (.Name x p) [] kws pos) (tCall sp [] E tk) := by
  refine ⟨fun pins s σ H Q I h => ?_⟩
  refine wpAny_Call_Name_kw (ld_glob I hg hm ?_ hdb)
  refine PySem.W.callWith_KW0 (h₀ := X.base) I.ok.mod.kin hk hall (thn (hkw.run pos pins s σ H _ I h) fun ws s2 ⟨zs, H2, I2, rz, q2⟩ => ⟨I2.kIn, ?_⟩) hpl
  rw [hks]
  have q3 : sp zs H2 Q E := by
    have q4 : sp (zs ++ []) H2 Q E := q2
    rw [List.append_nil] at q4
    exact q4
  have hl : ws.length = ps.length := by rw [← rz.length]; exact F.len _ _ _ _ q3
  refine wpAny_call (codeAny_mono (F.run X.A X.stack s2 H2 ⟨[], ps.zip ws⟩ ws zs Q E hr I2.env0 (hb s2 ws hl) rz q3) fun r s' hq => ?_)
  cases r with
  | error e => exact hx pins σ H2 s2 e s' I2 hq
  | ok fl =>
    cases fl with
    | ret u => exact I2.after hq
    | next => exact False.elim hq
    | brk => exact False.elim hq
    | cont => exact False.elim hq
end
theorem por_kw {K : PySem.W.Frag} {f : Addr} {fd : FuncData} (F : Fun K "portion_slopes" "portion_slopes" sPor f fd) : ∀ (s : Shared) (ws : List Value), ws.length = (["net", "portion"] : List Str).length → BindsTo s fd ⟨[], (["net", "portion"] : List Str).zip ws⟩ ((["net", "portion"] : List Str).zip ws) := by
  obtain ⟨oc, od, kV, doc, pm, an, cdv, ct, osl, rfl, lk, hcd⟩ := F.ex
  intro s ws hl
  match ws, hl with
  | [u, v], _ => exact .of_eq rfl
end K5

namespace K5
open PySem PySem.Spec PyProof.Rows L2 K5M
def nLaw : List Str := ["_law_script", "_law_hand", "_law_own", "_law_width", "_law_net_here", "_law_portion_here", "_law_passed", "_law_due", "_law_layer", "_law_matrix", "_law_i", "_law_again", "_law_vector_here", "_law_target", "_law_k", "_law_pair"]
theorem PortAt.same {K : PySem.W.Frag} {H H' : Hp} {v : V} {m w : Nat} {xs ts : Nat → Nat → Int} (s : Same H H') : PortAt K H v m w xs ts → PortAt K H' v m w xs ts
  | ⟨us, h, r⟩ => ⟨us, h.same s, r.mono fun _ _ _ ⟨xv, tv, h1, h2, h3⟩ => ⟨xv, tv, h1.same s, h2.same s, h3.same s⟩⟩
theorem PortT.at {K : PySem.W.Frag} {H : Hp} {v : V} {m w : Nat} {xs ts : Nat → Nat → Int} : PortT K H v m w xs ts → PortAt K H v m w xs ts
  | ⟨a, us, e, h, r⟩ => ⟨us, ⟨a, false, e, h⟩, r.mono fun _ _ _ ⟨t, xv, tv, eu, h1, h2, h3⟩ => ⟨xv, tv, ⟨t, false, eu, h1⟩, h2.seq, h3.seq⟩⟩
/-- what the law holds behind its sixth statement -/
structure Held (K : PySem.W.Frag) (C : Addr) (H : Hp) (nt pa : Addr) (x pv wv kv : V) (N : NetD) (m : Nat) (xs ts : Nat → Nat → Int) : Prop where
  ok : N.Ok
  nt : SqT K H nt [.int N.p, wv, kv]
  wt : Ten K H wv N.n N.w N.W
  kd : Kinds K H kv N.n N.s
  po : PortT K H (.ref pa) m N.w xs ts
  net : NetAt K C H x N
  pas : PortAt K H pv m N.w xs ts
  m3 : m ≤ 3
  bx : ∀ e, Bd (xs e)
  bt : ∀ e, Bd (ts e)
theorem Held.same {K : PySem.W.Frag} {C : Addr} {H H' : Hp} {nt pa : Addr} {x pv wv kv : V} {N : NetD} {m : Nat} {xs ts : Nat → Nat → Int} (s : Same H H') (h : Held K C H nt pa x pv wv kv N m xs ts) : Held K C H' nt pa x pv wv kv N m xs ts :=
  ⟨h.ok, Same.keepT s _ _ h.nt, h.wt.keep (Same.keepT s), h.kd.keep (Same.keepT s), h.po.keep (Same.keepT s), h.net.same s, h.pas.same s, h.m3, h.bx, h.bt⟩
theorem totF_bd {N : NetD} (ok : N.Ok) (xs ts : Nat → Nat → Int) : ∀ m l i, Bd (totF N.p N.n N.w N.W N.s xs ts m l i)
  | 0, _, _ => fun _ => ⟨Int.le_refl 0, by show (0 : Int) < 97; decide⟩
  | _ + 1, _, _ => fun _ => mod_bd ok.pr
section
variable {P : Program} {w : World} {K : PySem.W.Frag} {mg : Str → Option Value} {base : Heap}
theorem law_end {f C fO : Addr} {fdO : FuncData} (T : Txt K mg) (FO : Fun K "portion_slopes" "portion_slopes" sPor fO fdO)
    (GO : FnOk P w K mg base CX0 4 fO fdO ["net", "portion"] (spPor K C)) (gO : mg "portion_slopes" = some (.ref fO)) {cdv : Value} {A : Around} {outer : List Env} {s : Shared} {H : Hp}
    (hgd : (A.deeper (envOfC "law" (defScope sLaw) s.heap.objs.size f cdv)).guards = some []) (hr : Room 4 (A.deeper (envOfC "law" (defScope sLaw) s.heap.objs.size f cdv))) :
    ∃ u, PSs (cxOf CX0 P w K mg base nLaw "law" (defScope sLaw) f cdv A outer s H E0).nox ((defBody sLaw).drop 8) u ∧
      ∀ (D0 : Ends) (a h nt pa D : Addr) (x pv wv kv : V) (N : NetD) (m : Nat) (xs ts : Nat → Nat → Int) (y8 y9 y10 : Option V) (H1 : Hp) (acc : List V), Held K C H1 nt pa x pv wv kv N m xs ts → H1 D = some (.lst acc) →
        RowsR (fun u l => Mat K H1 u N.w (totF N.p N.n N.w N.W N.s xs ts m l)) N.n acc → (∀ H', D0.rt (.bl true) H') →
        u D0 [some (.ref a), some (.ref h), some (.ref nt), some (.int N.w), some x, some (.ref pa), some pv, some (.ref D), y8, y9, y10, none, none, none, none, none] H1 := by
  refine ⟨_, pss_cons (ps_for PassesOwn.never rfl (pi_range1 (by rfl) T.range (pa_cons pe_int pa_nil)) (pg_name (i := 11) scLaw.nd rfl (.inl rfl))
      (pss_one (ps_if (pt_cmpR op_ne (pe_callB (call_reprD hgd hr) (by rfl) T.repr bRep (pa_cons (pe_callKw GO hr (by rfl) gO FO.kp (por_kw FO) pass0 (pk_cons (L2.pv 4) (pk_cons (L2.pv 6) pk_nil))) pa_nil))
        (pe_callB (call_reprD hgd hr) (by rfl) T.repr bRep (pa_cons (pe_callTy c_tup (by rfl) T.tuple bTup (pa_cons (L2.pv 7) pa_nil)) pa_nil)) (nomark _)) (pss_one (ps_ret pe_bl)) pss_nil)))
    (pss_one (ps_ret (pe_cmpR (op_eqD hr.units) (pe_callTy c_tup (by rfl) T.tuple bTup (pa_cons (pe_lc (own := [("_law_pair", 15)]) (by rfl) scLaw.nd (w_seq (L2.pv 6))
        (blkOk_by (N := nLaw) (sc := defScope sLaw) (by decide +kernel)) (fun _ _ _ _ _ => pg_name (i := 15) scLaw.nd rfl (Or.inl rfl)) (fun _ _ _ _ _ => pts_nil)
        (fun _ _ _ _ _ => pe_tup (pa_cons (pe_callTy c_tup (by rfl) T.tuple bTup (pa_cons (e_ix (L2.pv 15) pe_int) pa_nil)) (pa_cons (pe_callTy c_tup (by rfl) T.tuple bTup (pa_cons (e_ix (L2.pv 15) pe_int) pa_nil)) pa_nil)))) pa_nil)) (L2.pv 5) (nomark _)))),
    fun D0 a h nt pa D x pv wv kv N m xs ts y8 y9 y10 H1 acc hH hD hR hq => ?_⟩
  have n4 := hH.ok.n4
  have w3 := hH.ok.w3
  have m3 := hH.m3
  have gt := good_ten n4 w3 fun l i => totF_bd hH.ok xs ts m l i
  refine ⟨_, rfl, by decide, by decide, ?_⟩
  refine for_it (walk_rngI (n := 2) rfl) (fun i σ H' => ∃ y11, σ = [some (.ref a), some (.ref h), some (.ref nt), some (.int N.w), some x, some (.ref pa), some pv, some (.ref D), y8, y9, y10, y11, none, none, none, none] ∧ Same H1 H')
    ⟨none, rfl, Same.refl _⟩ (fun _ _ _ _ _ => trivial) (fun i y σ H2x H2 hi hP yy => ?_) (fun σ H2 hP => ?_)
  · obtain ⟨y11, rfl, s1⟩ := hP
    obtain ⟨rfl, rfl⟩ := yy
    have h2 := hH.same s1
    refine ⟨_, rfl, _, rfl, x, pv, N, m, xs, ts, rfl, h2.net, h2.ok, h2.pas, h2.bx, fun r H3 s3 hr3 => ?_⟩
    obtain ⟨ra, us, rfl, hU, hUR⟩ := id hr3
    refine ⟨ra, _, rfl, ten_dp hr3, gt.sh, gt.nd, Nat.le_trans gt.dp (by decide), gt.fits (by decide), ?_⟩
    refine ⟨_, rfl, D, acc, rfl, .inl ⟨SqL.of (s3 _ _ (s1 _ _ hD)), fun t ht => ?_⟩⟩
    have s4 : Same H3 (upd H3 t (.tup acc)) := same_new ht
    refine ⟨t, _, rfl, ten_dp ⟨t, acc, rfl, SqT.of upd_same, hR.mono fun u l _ z => z.keep (Same.keepT (s1.trans (s3.trans s4)))⟩, gt.sh, gt.nd, Nat.le_trans gt.dp (by decide), gt.fits (by decide), rfl, _, rfl, ?_⟩
    rw [decide_eq_true rfl]
    exact iteF ⟨_, rfl, s1.trans (s3.trans s4)⟩
  · obtain ⟨y11, rfl, s1⟩ := hP
    have h2 := hH.same s1
    obtain ⟨us, ⟨pa2, c, rfl, hp⟩, hPR⟩ := id h2.pas
    refine ⟨_, rfl, pa2, c, rfl, ⟨us, hp⟩, fun L hL => ?_⟩
    refine lc_s (K := K) (walk_seq hPR.1) hL (by show m < 16777216; omega) (fun H3 u e => ∃ (t : Addr) (xv tv : V), u = .ref t ∧ SqT K H3 t [xv, tv] ∧ Vec K H3 xv N.w (xs e) ∧ Vec K H3 tv N.w (ts e))
      (fun _ _ _ _ k ⟨t, xv, tv, e, h1, h2, h3⟩ => ⟨t, xv, tv, e, k _ _ h1, h2.keep k, h3.keep k⟩) (fun H3 st => sqk_same st hp) (fun i y H3x H3 Z hi st yy hz => ?_) (fun H3 acc3 st hL3 hR3 => ?_)
    · obtain ⟨rfl, hy⟩ := yy
      obtain ⟨xv, tv, ⟨ea, ce, rfl, hE⟩, ⟨xa, cx, rfl, hx⟩, ⟨ta, ct, rfl, ht⟩⟩ := hPR.2 i y hy
      refine ⟨rfl, _, rfl, ea, ce, _, _, _, rfl, rfl, sqk_same st hE, atI_nat (j := 0) rfl, ?_⟩
      unfold tNil
      refine rTup_of (sqk_same st hx) fun r1 H4 s4 hr1 => ?_
      refine ⟨_, rfl, ea, ce, _, _, _, rfl, rfl, sqk_same (st.trans s4) hE, atI_nat (j := 1) rfl, ?_⟩
      dsimp only
      refine rTup_of (sqk_same (st.trans s4) ht) fun r2 H5 s5 hr2 => ⟨by show 2 ≤ 16777216; omega, fun t hT => ?_⟩
      have s6 : Same H5 (upd H5 t (.tup [.ref r1, .ref r2])) := same_new hT
      exact hz _ _ (s4.trans (s5.trans s6)) ⟨t, _, _, rfl, SqT.of upd_same, ⟨r1, rfl, Same.keepT (s5.trans s6) _ _ hr1⟩, ⟨r2, rfl, Same.keepT s6 _ _ hr2⟩⟩
    · have gp := good_por m3 w3 hH.bx hH.bt
      refine ⟨L, _, rfl, .inl ⟨SqL.of hL3, fun t ht => ?_⟩⟩
      have s6 : Same H3 (upd H3 t (.tup acc3)) := same_new ht
      have k6 := Same.keepT (K := K) s6
      have hP3 : PortT K (upd H3 t (.tup acc3)) (.ref t) m N.w xs ts :=
        ⟨t, acc3, rfl, SqT.of upd_same, hR3.mono fun _ _ _ ⟨t, xv, tv, e, h1, h2, h3⟩ => ⟨t, xv, tv, e, k6 _ _ h1, h2.keep k6, h3.keep k6⟩⟩
      refine ⟨_, rfl, _, _, por_dp hP3, por_dp (h2.po.keep (Same.keepT (st.trans s6))), gp.shaped (by decide), gp.shaped (by decide), ?_⟩
      rw [PySem.SeqAt.eqv_refl _ gp.cl]
      exact hq _
theorem law_mid {f C fO fC : Addr} {fdO fdC : FuncData} (T : Txt K mg) (FO : Fun K "portion_slopes" "portion_slopes" sPor fO fdO)
    (GO : FnOk P w K mg base CX0 4 fO fdO ["net", "portion"] (spPor K C)) (gO : mg "portion_slopes" = some (.ref fO))
    (GC : FnOk P w K mg base CX0 4 fC fdC ["_law_net_here", "_law_portion_here", "_law_layer", "_law_spot"] (spLco K)) (kC : PySem.W.keepIn K (.ref fC) = true) (bC : Binds K fdC ["_law_net_here", "_law_portion_here", "_law_layer", "_law_spot"] []) (gC : mg "_law_coefficient" = some (.ref fC))
    {cdv : Value} {A : Around} {outer : List Env} {s : Shared} {H : Hp}
    (hgd : (A.deeper (envOfC "law" (defScope sLaw) s.heap.objs.size f cdv)).guards = some []) (hr : Room 4 (A.deeper (envOfC "law" (defScope sLaw) s.heap.objs.size f cdv))) :
    ∃ u, PSs (cxOf CX0 P w K mg base nLaw "law" (defScope sLaw) f cdv A outer s H E0).nox ((defBody sLaw).drop 6) u ∧
      ∀ (D0 : Ends) (a h nt pa : Addr) (x pv wv kv : V) (N : NetD) (m : Nat) (xs ts : Nat → Nat → Int) (H1 : Hp), Held K C H1 nt pa x pv wv kv N m xs ts → (∀ H', D0.rt (.bl true) H') →
        u D0 [some (.ref a), some (.ref h), some (.ref nt), some (.int N.w), some x, some (.ref pa), some pv, none, none, none, none, none, none, none, none, none] H1 := by
  obtain ⟨uE, huE, hqE⟩ := law_end (P := P) (w := w) (base := base) (f := f) T FO GO gO hgd hr
  refine ⟨_, pss_cons (ps_set (i := 7) scLaw.nd rfl (.inl rfl) (pe_lst pa_nil))
    (pss_cons (ps_for PassesOwn.never rfl (pi_range1 (by rfl) T.range (pa_cons (pe_callB c_len (by rfl) T.len bLen (pa_cons (e_ix (L2.pv 2) pe_int) pa_nil)) pa_nil)) (pg_name (i := 8) scLaw.nd rfl (.inr rfl))
      (pss_cons (ps_set (i := 9) scLaw.nd rfl (.inl rfl) (pe_lst pa_nil))
      (pss_cons (ps_for PassesOwn.never rfl (pi_range1 (by rfl) T.range (pa_cons (L2.pv 3) pa_nil)) (pg_name (i := 10) scLaw.nd rfl (.inr rfl))
        (pss_one (ps_expr (pe_bm PySem.F.plainAttrs_list PySem.F.slot_list_append PySem.F.type_list_append mt_append (L2.pv 9) (pa_cons
          (pe_callTy c_tup (by rfl) T.tuple bTup (pa_cons (pe_lc (own := [("_law_k", 14)]) (by rfl) scLaw.nd (pi_range1 (by rfl) T.range (pa_cons (L2.pv 3) pa_nil))
            (blkOk_by (N := nLaw) (sc := defScope sLaw) (by decide +kernel)) (fun _ _ _ _ _ => pg_name (i := 14) scLaw.nd rfl (Or.inl rfl)) (fun _ _ _ _ _ => pts_nil)
            (fun _ _ _ _ _ => pe_call GC hr (by rfl) gC kC bC .nil pass0 (pa_cons (L2.pv 2) (pa_cons (L2.pv 5) (pa_cons (L2.pv 8) (pa_cons (pe_tup (pa_cons (L2.pv 10) (pa_cons (L2.pv 14) pa_nil))) pa_nil)))))) pa_nil)) pa_nil)))))
      (pss_one (ps_expr (pe_bm PySem.F.plainAttrs_list PySem.F.slot_list_append PySem.F.type_list_append mt_append (L2.pv 7) (pa_cons (pe_callTy c_tup (by rfl) T.tuple bTup (pa_cons (L2.pv 9) pa_nil)) pa_nil)))))))
    huE), fun D0 a h nt pa x pv wv kv N m xs ts H1 hH hq => ?_⟩
  have n4 := hH.ok.n4
  have w3 := hH.ok.w3
  obtain ⟨wa, us, rfl, hU, hUR⟩ := id hH.wt
  -- due = []
  refine ⟨Nat.zero_le _, fun D hD => ?_⟩
  have s0 : Same H1 (upd H1 D (.lst [])) := same_new hD
  -- for layer in range(len(own[1]))
  refine ⟨_, rfl, nt, false, _, 1, .ref wa, rfl, rfl, Same.keepT s0 _ _ hH.nt, atI_nat (j := 1) rfl, wa, false, us, rfl, Same.keepT s0 _ _ hU, _, rfl, by omega, by rw [hUR.1]; omega, ?_⟩
  refine for_it (walk_rngI (n := N.n) (by rw [hUR.1])) (fun l σ H' => ∃ y8 y9 y10 acc, σ = [some (.ref a), some (.ref h), some (.ref nt), some (.int N.w), some x, some (.ref pa), some pv, some (.ref D), y8, y9, y10, none, none, none, none, none] ∧
      Same H1 H' ∧ H' D = some (.lst acc) ∧ RowsR (fun u j => Mat K H' u N.w (totF N.p N.n N.w N.W N.s xs ts m j)) l acc)
    ⟨none, none, none, [], rfl, s0, upd_same, RowsR.nil _⟩ (fun _ _ _ _ _ => trivial) (fun l y σ H2x H2 hl hP yy => ?_) (fun σ H2 hP => ?_)
  · obtain ⟨y8, y9, y10, acc, rfl, s1, hD2, hR⟩ := hP
    obtain ⟨rfl, rfl⟩ := yy
    -- matrix = []
    refine ⟨Nat.zero_le _, fun E hE => ?_⟩
    have nED : D ≠ E := ne_of_none hD2 hE
    have s2 : Same H2 (upd H2 E (.lst [])) := same_new hE
    -- for i in range(width)
    refine ⟨_, rfl, _, rfl, by omega, by omega, ?_⟩
    refine for_it (walk_rngI (n := N.w) rfl) (fun i σ H' => ∃ z10 acc2, σ = [some (.ref a), some (.ref h), some (.ref nt), some (.int N.w), some x, some (.ref pa), some pv, some (.ref D), some (.int l), some (.ref E), z10, none, none, none, none, none] ∧
        Same H2 H' ∧ H' E = some (.lst acc2) ∧ RowsR (fun u j => Vec K H' u N.w (totF N.p N.n N.w N.W N.s xs ts m l j)) i acc2)
      ⟨y10, [], rfl, s2, upd_same, RowsR.nil _⟩ (fun _ _ _ _ _ => trivial) (fun i y σ H3x H3 hi hP yy => ?_) (fun σ H3 hP => ?_)
    · obtain ⟨z10, acc2, rfl, s3, hE3, hR3⟩ := hP
      obtain ⟨rfl, rfl⟩ := yy
      refine ⟨_, rfl, .inl ⟨rfl, _, SqL.of hE3⟩, _, rfl, _, rfl, by omega, by omega, fun L hL => ?_⟩
      refine lc_s (K := K) (walk_rngI (n := N.w) rfl) hL (by show N.w < 16777216; omega) (fun _ v k => v = .int (totF N.p N.n N.w N.W N.s xs ts m l i k)) (fun _ _ _ _ _ z => z) (fun _ _ => trivial)
        (fun k y H4x H4 Z hk st yy hz => ?_) (fun H4 acc3 st hL4 hR4 => ?_)
      · obtain ⟨rfl, rfl⟩ := yy
        refine ⟨rfl, _, rfl, _, rfl, _, rfl, _, rfl, _, rfl, by show 2 ≤ 16777216; omega, fun t ht => ?_⟩
        have s5 : Same H4 (upd H4 t (.tup [.int i, .int k])) := same_new ht
        have h5 := hH.same (s1.trans (s3.trans (st.trans s5)))
        refine ⟨nt, t, .ref pa, .ref wa, kv, N, l, i, k, m, xs, ts, rfl, h5.ok, h5.nt, h5.wt, h5.kd, SqT.of upd_same, hk, h5.po, h5.bx, h5.bt, fun H6 s6 => ?_⟩
        exact hz _ _ (s5.trans s6) (by rw [law_holds hl hi m])
      · rw [hR4.ints] at hL4
        refine ⟨L, _, rfl, .inl ⟨SqL.of hL4, fun t ht => ?_⟩⟩
        have s5 : Same H4 (upd H4 t (.tup (ivs N.w (totF N.p N.n N.w N.W N.s xs ts m l i)))) := same_new ht
        have hE5 := s5 _ _ (st _ _ hE3)
        have kE := keepT_lst (K := K) (o' := .lst (acc2 ++ [.ref t])) hE5
        refine ⟨E, acc2, .ref t, rfl, rfl, hE5, by rw [hR3.1]; show i < 16777216; omega, ?_⟩
        refine ⟨_, _, rfl, same_upd (s3.trans (st.trans s5)) hE, upd_same, ?_⟩
        exact (hR3.mono fun u j _ z => z.keep ((Same.keepT (st.trans s5)).trans kE)).snoc ⟨t, rfl, kE _ _ (SqT.of upd_same)⟩
    · obtain ⟨z10, acc2, rfl, s3, hE3, hR3⟩ := hP
      have hD3 := s3 _ _ hD2
      refine ⟨_, rfl, .inl ⟨rfl, _, SqL.of hD3⟩, _, rfl, E, acc2, rfl, .inl ⟨SqL.of hE3, fun t ht => ?_⟩⟩
      have s5 : Same H3 (upd H3 t (.tup acc2)) := same_new ht
      have hD5 := s5 _ _ hD3
      have kD := keepT_lst (K := K) (o' := .lst (acc ++ [.ref t])) hD5
      refine ⟨D, acc, .ref t, rfl, rfl, hD5, by rw [hR.1]; show l < 16777216; omega, ?_⟩
      refine ⟨_, _, _, _, rfl, same_upd (s1.trans (s3.trans s5)) hD, upd_same, ?_⟩
      exact (hR.mono fun u j _ z => z.keep ((Same.keepT (s3.trans s5)).trans kD)).snoc ⟨t, acc2, rfl, kD _ _ (SqT.of upd_same), hR3.mono fun u j _ z => z.keep ((Same.keepT s5).trans kD)⟩
  · obtain ⟨y8, y9, y10, acc, rfl, s1, hD2, hR⟩ := hP
    exact hqE _ _ _ _ _ _ _ _ _ _ _ _ _ _ _ _ _ _ _ (hH.same s1) hD2 hR hq
end
end K5

namespace K5
open PySem PySem.Spec PyProof.Rows L2 K5M
/-- an example as a list of two lists, none of them at D or h -/
def Pel (D h : Addr) (H : Hp) (w : Nat) (xv tv : Nat → Int) (u : V) : Prop := ∃ el lv lt : Addr, u = .ref el ∧ (el ≠ D ∧ lv ≠ D ∧ lt ≠ D) ∧ (el ≠ h ∧ lv ≠ h ∧ lt ≠ h) ∧
  H el = some (.lst [.ref lv, .ref lt]) ∧ H lv = some (.lst (ivs w xv)) ∧ H lt = some (.lst (ivs w tv))
section
variable {D h : Addr} {H H' : Hp} {w : Nat} {xv tv : Nat → Int} {u : V}
theorem Pel.same (s : Same H H') : Pel D h H w xv tv u → Pel D h H' w xv tv u
  | ⟨el, lv, lt, e, n1, n2, h1, h2, h3⟩ => ⟨el, lv, lt, e, n1, n2, s _ _ h1, s _ _ h2, s _ _ h3⟩
theorem Pel.offD {o : HO} : Pel D h H w xv tv u → Pel D h (upd H D o) w xv tv u
  | ⟨el, lv, lt, e, n1, n2, h1, h2, h3⟩ => ⟨el, lv, lt, e, n1, n2, by rw [upd_ne n1.1]; exact h1, by rw [upd_ne n1.2.1]; exact h2, by rw [upd_ne n1.2.2]; exact h3⟩
theorem Pel.but (b : But h H H') : Pel D h H w xv tv u → Pel D h H' w xv tv u
  | ⟨el, lv, lt, e, n1, n2, h1, h2, h3⟩ => ⟨el, lv, lt, e, n1, n2, b _ _ n2.1 h1, b _ _ n2.2.1 h2, b _ _ n2.2.2 h3⟩
end
theorem NetAt.but {K : PySem.W.Frag} {C h x : Addr} {H H' : Hp} {N : NetD} (n : x ≠ h) (b : But h H H') (k : KeepT K H H') : NetAt K C H (.ref x) N → NetAt K C H' (.ref x) N
  | ⟨a, dx, fs, wv, kv, ev, ea, h1, h2, h3, h4, h5⟩ => ⟨x, dx, fs, wv, kv, rfl, b _ _ n (by cases ev; exact ea), h1, h2, h3, h4.keep k, h5.keep k⟩
theorem Bp.bd {p : Int} {f : Nat → Int} (hp : IsP p) (h : Bp p f) : Bd f := fun k => ⟨(h k).1, by have := (h k).2; have := hp.2.1; omega⟩
theorem most_of {n : Nat} (h1 : 1 ≤ n) (h4 : n ≤ 4) : ∃ most : Nat, atI ([.int 3, .int 3, .int 3, .int 2] : List V) ((n : Int) - 1) = some (.int most) ∧ 1 ≤ most ∧ most ≤ 3 := by
  obtain e | e | e | e : n = 1 ∨ n = 2 ∨ n = 3 ∨ n = 4 := by omega
  · subst e
    exact ⟨3, atI_nat (j := 0) rfl, by omega, by omega⟩
  · subst e
    exact ⟨3, atI_nat (j := 1) rfl, by omega, by omega⟩
  · subst e
    exact ⟨3, atI_nat (j := 2) rfl, by omega, by omega⟩
  · subst e
    exact ⟨2, atI_nat (j := 3) rfl, by omega, by omega⟩
section
variable {P : Program} {w : World} {K : PySem.W.Frag} {mg : Str → Option Value} {base : Heap}
/-! ### law -/
def spLaw (K : PySem.W.Frag) : Sp := fun vs H Q _ => ∃ (a : Addr) (ns : List Int), vs = [.ref a] ∧ SqL K H a (ns.map V.int) ∧ ns.length ≤ 63 ∧ ∀ H', Q (.bl true) H'
theorem ok_law {f C fO fC fD fT fN fP fI : Addr} {fd fdO fdC fdD fdT fdN fdP fdI : FuncData} (F : Fun K "law" "law" sLaw f fd) (T : Txt K mg) (FO : Fun K "portion_slopes" "portion_slopes" sPor fO fdO)
    (GO : FnOk P w K mg base CX0 4 fO fdO ["net", "portion"] (spPor K C)) (gO : mg "portion_slopes" = some (.ref fO))
    (GC : FnOk P w K mg base CX0 4 fC fdC ["_law_net_here", "_law_portion_here", "_law_layer", "_law_spot"] (spLco K)) (kC : PySem.W.keepIn K (.ref fC) = true) (bC : Binds K fdC ["_law_net_here", "_law_portion_here", "_law_layer", "_law_spot"] []) (gC : mg "_law_coefficient" = some (.ref fC))
    (GD : FnOk P w K mg base CX0 4 fD fdD ["_law_script", "_law_many"] (spLdr K)) (kD : PySem.W.keepIn K (.ref fD) = true) (bD : Binds K fdD ["_law_script", "_law_many"] []) (gD : mg "_law_draws" = some (.ref fD))
    (GT : FnOk P w K mg base CX0 4 fT fdT ["_law_hand", "_law_many"] spLtk) (kT : PySem.W.keepIn K (.ref fT) = true) (bT : Binds K fdT ["_law_hand", "_law_many"] []) (gT : mg "_law_take" = some (.ref fT))
    (GN : FnOk P w K mg base CX0 4 fN fdN ["_law_hand", "_law_most"] (spLne K)) (kN : PySem.W.keepIn K (.ref fN) = true) (bN : Binds K fdN ["_law_hand", "_law_most"] []) (gN : mg "_law_net" = some (.ref fN))
    (GP : FnOk P w K mg base CX0 4 fP fdP ["_law_hand", "_law_prime_here", "_law_width", "_law_most"] (spLpo K)) (kP : PySem.W.keepIn K (.ref fP) = true) (bP : Binds K fdP ["_law_hand", "_law_prime_here", "_law_width", "_law_most"] []) (gP : mg "_law_portion" = some (.ref fP))
    (M : Mk K C fI) (GI : FnOk P w K mg base CX0 3 fI fdI ["self", "prime", "weights", "kinds"] (spIni K C)) (bI : Binds K fdI ["self", "prime", "weights", "kinds"] []) (gI : mg "Net" = some (.ref C)) :
    FnG P w K mg base 5 f fd ["_law_script"] (spLaw K) := by
  refine fn_ofG F scLaw (fun vs H Q E h => ?_) (fun cdv A outer s H vs Q hgd hr h => ?_)
  · obtain ⟨a, ns, rfl, _⟩ := h
    rfl
  · obtain ⟨a, ns, rfl, hS, hn, q⟩ := h
    obtain ⟨uM, huM, hqM⟩ := law_mid (P := P) (w := w) (base := base) (f := f) (outer := outer) (H := H) T FO GO gO GC kC bC gC hgd hr
    refine ⟨_, pss_cons (ps_set (i := 1) scLaw.nd rfl (.inl rfl) (pe_lst (pa_cons (pe_call GD hr (by rfl) gD kD bD .nil pass0 (pa_cons (L2.pv 0) (pa_cons pe_int pa_nil))) (pa_cons pe_int pa_nil))))
      (pss_cons (ps_set (i := 2) scLaw.nd rfl (.inr rfl) (pe_call GN hr (by rfl) gN kN bN .nil pass0 (pa_cons (L2.pv 1) (pa_cons pe_int pa_nil))))
      (pss_cons (ps_set (i := 3) scLaw.nd rfl (.inl rfl) (pe_callB c_len (by rfl) T.len bLen (pa_cons (e_ix (e_ix (L2.pv 2) pe_int) pe_int) pa_nil)))
      (pss_cons (ps_set (i := 4) scLaw.nd rfl (.inl rfl) (pe_make M GI hr (by rfl) gI bI .nil pass0 (pa_cons (e_ix (L2.pv 2) pe_int) (pa_cons (e_ix (L2.pv 2) pe_int) (pa_cons (e_ix (L2.pv 2) pe_int) pa_nil)))))
      (pss_cons (ps_set (i := 5) scLaw.nd rfl (.inr rfl) (pe_call GP hr (by rfl) gP kP bP .nil pass0 (pa_cons (L2.pv 1) (pa_cons (e_ix (L2.pv 2) pe_int) (pa_cons (L2.pv 3) (pa_cons
        (e_ix (pe_lst (pa_cons pe_int (pa_cons pe_int (pa_cons pe_int (pa_cons pe_int pa_nil))))) (pe_op op_sub (pe_callB c_len (by rfl) T.len bLen (pa_cons (e_ix (L2.pv 2) pe_int) pa_nil)) pe_int)) pa_nil))))))
      (pss_cons (ps_set (i := 6) scLaw.nd rfl (.inl rfl) (e_ix (pe_lst (pa_cons (L2.pv 5) (pa_cons (pe_lc (own := [("_law_vector_here", 12), ("_law_target", 13)]) (by rfl) scLaw.nd (w_seq (L2.pv 5))
          (blkOk_by (N := nLaw) (sc := defScope sLaw) (by decide +kernel)) (fun _ _ _ _ _ => g_seq (n := 2) rfl (pgs_cons (pg_name (i := 12) scLaw.nd rfl (Or.inl rfl)) (pgs_cons (pg_name (i := 13) scLaw.nd rfl (Or.inl rfl)) pgs_nil))) (fun _ _ _ _ _ => pts_nil)
          (fun _ _ _ _ _ => pe_lst (pa_cons (pe_callTy c_lst (by rfl) T.list bLst (pa_cons (L2.pv 12) pa_nil)) (pa_cons (pe_callTy c_lst (by rfl) T.list bLst (pa_cons (L2.pv 13) pa_nil)) pa_nil)))) pa_nil)))
        (pe_call GT hr (by rfl) gT kT bT .nil pass0 (pa_cons (L2.pv 1) (pa_cons pe_int pa_nil)))))
      huM))))), ?_⟩
    -- hand = [draws(script, 150), 0]
    refine ⟨_, rfl, a, ns, rfl, hS, hn, fun r dv H1 s1 hr0 hr1 hi => ⟨by show 2 ≤ 16777216; omega, fun h hh => ?_⟩⟩
    have nrh : r ≠ h := ne_of_none hr1 hh
    have hH2 : HandAt (upd H1 h (.lst [.ref r, .int 0])) h r := ⟨0, dv, upd_same, by rw [upd_ne nrh]; exact hr1, hi⟩
    -- own = net(hand, 4)
    refine ⟨_, rfl, h, r, rfl, hH2, fun nt wv kv N H3 hH3 b3 ok hnt hW hK => ?_⟩
    obtain ⟨wa, us, rfl, hU, hUR⟩ := id hW
    obtain ⟨u0, hu0, m0, rows0, rfl, hM0, hR0⟩ := hUR.at (i := 0) ok.n1
    have w3 := ok.w3
    -- width = len(own[1][0])
    refine ⟨_, rfl, nt, false, _, 1, .ref wa, rfl, rfl, hnt, atI_nat (j := 1) rfl, wa, false, us, 0, .ref m0, rfl, rfl, hU, atI_nat (j := 0) hu0, m0, false, rows0, rfl, hM0, ?_⟩
    rw [hR0.1]
    -- net = Net(own[0], own[1], own[2])
    refine ⟨_, rfl, nt, false, _, 0, .int N.p, rfl, rfl, hnt, atI_nat (j := 0) rfl, _, rfl, nt, false, _, 1, .ref wa, rfl, rfl, hnt, atI_nat (j := 1) rfl, _, rfl, nt, false, _, 2, kv, rfl, rfl, hnt, atI_nat (j := 2) rfl, fun x dx hx hdx hne => ?_⟩
    have s3 : Same H3 (upd (upd H3 dx (.own x)) x (.ins C dx [])) := same_upd (same_new hdx) hx
    refine ⟨x, dx, N, .ref wa, kv, rfl, upd_same, hW.keep (Same.keepT s3), hK.keep (Same.keepT s3), ok, fun H4 b4 hN4 => ⟨rfl, ?_⟩⟩
    have s4 : Same H3 H4 := fun b o e => b4 b o (ne_of_none e hx) (s3 b o e)
    have hH4 := hH3.same s4
    have nxh : x ≠ h := by
      obtain ⟨_, _, e, _, _⟩ := id hH3
      exact (ne_of_none e hx).symm
    -- portion = portion(hand, own[0], width, [3, 3, 3, 2][len(own[1]) - 1])
    obtain ⟨most, em, m1, m3⟩ := most_of ok.n1 ok.n4
    have k4 := Same.keepT (K := K) s4
    refine ⟨_, rfl, _, rfl, nt, false, _, 0, .int N.p, rfl, rfl, k4 _ _ hnt, atI_nat (j := 0) rfl, _, rfl, by show 4 ≤ 16777216; omega, fun L0 hL0 => ?_⟩
    have s5 : Same H4 (upd H4 L0 (.lst [.int 3, .int 3, .int 3, .int 2])) := same_new hL0
    have k5 := k4.trans (Same.keepT (K := K) s5)
    refine ⟨_, rfl, nt, false, _, 1, .ref wa, rfl, rfl, k5 _ _ hnt, atI_nat (j := 1) rfl, wa, false, us, rfl, k5 _ _ hU, _, _, rfl, rfl, L0, true, _, _, .int most, rfl, rfl, SqL.of upd_same, by rw [hUR.1]; exact em, ?_⟩
    refine ⟨h, r, N.p, N.w, most, rfl, hH4.same s5, ok.pr, w3, m1, m3, fun pav m xs ts H6 hH6 b6 hm hP bx bt => ?_⟩
    obtain ⟨pa, ps, rfl, hp, hPR⟩ := id hP
    have k6 : KeepT K (upd H4 L0 (.lst [.int 3, .int 3, .int 3, .int 2])) H6 := HandAt.keep b6 (hH4.same s5)
    have hN6 : NetAt K C H6 (.ref x) N := (hN4.same s5).but nxh b6 k6
    have k36 := k5.trans k6
    -- passed = [portion, [..]][take(hand, 2)]
    refine ⟨_, rfl, _, rfl, pa, false, rfl, ⟨ps, hp⟩, fun D hD => ?_⟩
    have nD := hH6.new hD
    have hne : ∀ {H' : Hp} {b : Addr}, Same H6 H' → H' b = none → b ≠ h := fun st hb => by
      obtain ⟨_, _, e, _, _⟩ := id hH6
      exact (ne_of_none (st _ _ e) hb).symm
    refine lc_it (walk_seq (c := false) hPR.1) (fun e H' => Same H6 H' ∧ ∃ acc, H' D = some (.lst acc) ∧ RowsR (fun u e => Pel D h H' N.w (xs e) (ts e) u) e acc) ⟨same_new hD, [], upd_same, RowsR.nil _⟩
      (fun _ H' _ z => Same.keepT z.1 _ _ hp) (fun e y H7x H7 he hP7 yy => ?_) (fun H7 hP7 => ?_)
    · obtain ⟨st, acc, hD7, hR7⟩ := hP7
      obtain ⟨rfl, hy⟩ := yy
      obtain ⟨ea, xv, tv, rfl, hE, ⟨xa, rfl, hxa⟩, ⟨ta, rfl, hta⟩⟩ := hPR.2 e y hy
      have k7 := Same.keepT (K := K) st
      refine ⟨ea, false, _, rfl, k7 _ _ hE, rfl, _, _, rfl, _, _, rfl, rfl, rfl, ?_⟩
      refine ⟨_, rfl, xa, false, _, rfl, k7 _ _ hxa, fun lv hlv => ?_⟩
      have s8 : Same H7 (upd H7 lv (.lst (ivs N.w (xs e)))) := same_new hlv
      refine ⟨_, rfl, ta, false, _, rfl, Same.keepT s8 _ _ (k7 _ _ hta), fun lt hlt => ⟨by show 2 ≤ 16777216; omega, fun el hel => ?_⟩⟩
      have s9 : Same (upd H7 lv (.lst (ivs N.w (xs e)))) (upd (upd H7 lv (.lst (ivs N.w (xs e)))) lt (.lst (ivs N.w (ts e)))) := same_new hlt
      have s10 := same_new (o := .lst [.ref lv, .ref lt]) hel
      have hD10 := s10 _ _ (s9 _ _ (s8 _ _ hD7))
      refine ⟨acc, hD10, by rw [hR7.1]; show e < 16777216; omega, same_upd (st.trans (s8.trans (s9.trans s10))) hD, acc ++ [.ref el], upd_same, ?_⟩
      refine (hR7.mono fun u j _ z => (z.same (s8.trans (s9.trans s10))).offD).snoc (Pel.offD ⟨el, lv, lt, rfl, ⟨?_, ?_, ?_⟩, ⟨?_, ?_, ?_⟩, upd_same, s10 _ _ (s9 _ _ upd_same), s10 _ _ upd_same⟩)
      · exact (ne_of_none (s9 _ _ (s8 _ _ hD7)) hel).symm
      · exact (ne_of_none hD7 hlv).symm
      · exact (ne_of_none (s8 _ _ hD7) hlt).symm
      · exact hne (st.trans (s8.trans s9)) hel
      · exact hne st hlv
      · exact hne (st.trans s8) hlt
    · obtain ⟨st, acc, hD7, hR7⟩ := hP7
      refine ⟨by show 2 ≤ 16777216; omega, fun L hL => ?_⟩
      have s8 : Same H7 (upd H7 L (.lst [.ref pa, .ref D])) := same_new hL
      have hH8 := (hH6.same st).same s8
      have nLh : L ≠ h := hne st hL
      refine ⟨_, rfl, h, r, 2, rfl, hH8, by decide, fun z H9 hH9 b9 z0 z1 => ?_⟩
      have k9 : KeepT K (upd H7 L (.lst [.ref pa, .ref D])) H9 := HandAt.keep b9 hH8
      have k69 : KeepT K H6 H9 := (Same.keepT (st.trans s8)).trans k9
      have hL9 := b9 _ _ nLh upd_same
      have hD9 := b9 _ _ nD.1.symm (s8 _ _ hD7)
      have held : ∀ pv, PortAt K H9 pv m N.w xs ts → Held K C H9 nt pa (.ref x) pv (.ref wa) kv N m xs ts := fun pv hpv =>
        ⟨ok, (k36.trans k69) _ _ hnt, hW.keep (k36.trans k69), hK.keep (k36.trans k69), hP.keep k69, (hN6.same (st.trans s8)).but nxh b9 k9, hpv, hm, fun e => (bx e).bd ok.pr, fun e => (bt e).bd ok.pr⟩
      obtain e | e : z = 0 ∨ z = 1 := by omega
      · subst e
        refine ⟨L, true, _, 0, .ref pa, rfl, rfl, SqL.of hL9, atI_nat (j := 0) rfl, ?_⟩
        exact hqM _ _ _ _ _ _ _ _ _ _ _ _ _ _ (held _ (hP.keep k69).at) q
      · subst e
        refine ⟨L, true, _, 1, .ref D, rfl, rfl, SqL.of hL9, atI_nat (j := 1) rfl, ?_⟩
        refine hqM _ _ _ _ _ _ _ _ _ _ _ _ _ _ (held _ ⟨acc, ⟨D, true, rfl, SqL.of hD9⟩, hR7.mono fun u e _ z => ?_⟩) q
        obtain ⟨el, lv, lt, rfl, _, _, h1, h2, h3⟩ := (z.same s8).but b9
        exact ⟨_, _, ⟨el, true, rfl, SqL.of h1⟩, ⟨lv, true, rfl, SqL.of h2⟩, ⟨lt, true, rfl, SqL.of h3⟩⟩
end
end K5

namespace K5
open PySem PySem.Spec PyProof.Rows L2 K5M
/-! ### what the top has written -/
theorem all_mk {P : Program} {w : World} {K : PySem.W.Frag} {h : Heap} {mg : Str → Option Value} {fa C fBtw fPrm fAsm fPrd fFwd fBck fInp fSlb fLss fNos fAdd fPor fLdr fLtk fLpr fLve fLne fLpo fLth fLco fLaw fIni fLen : Addr} (X : K.In h) (G : h.Ns mainGlobals mg) (hfa : mg "law" = some (.ref fa))
    {odBtw anBtw odPrm anPrm odAsm anAsm odPrd anPrd odFwd anFwd odBck anBck odInp anInp odSlb anSlb odLss anLss odNos anNos odAdd anAdd odPor anPor odLdr anLdr odLtk anLtk odLpr anLpr odLve anLve odLne anLne odLpo anLpo odLth anLth odLco anLco odLaw anLaw odIni anIni odLen anLen : Option Addr} {slBtw slPrm slAsm slPrd slFwd slBck slInp slSlb slLss slNos slAdd slPor slLdr slLtk slLpr slLve slLne slLpo slLth slLco slLaw slIni slLen : Array (Option Value)} {tM : Tok}
    {ocBtw kVBtw dcBtw pmBtw cdBtw ctBtw ocPrm kVPrm dcPrm pmPrm cdPrm ctPrm ocAsm kVAsm dcAsm pmAsm cdAsm ctAsm ocPrd kVPrd dcPrd pmPrd cdPrd ctPrd ocFwd kVFwd dcFwd pmFwd cdFwd ctFwd ocBck kVBck dcBck pmBck cdBck ctBck ocInp kVInp dcInp pmInp cdInp ctInp ocSlb kVSlb dcSlb pmSlb cdSlb ctSlb ocLss kVLss dcLss pmLss cdLss ctLss ocNos kVNos dcNos pmNos cdNos ctNos ocAdd kVAdd dcAdd pmAdd cdAdd ctAdd ocPor kVPor dcPor pmPor cdPor ctPor ocLdr kVLdr dcLdr pmLdr cdLdr ctLdr ocLtk kVLtk dcLtk pmLtk cdLtk ctLtk ocLpr kVLpr dcLpr pmLpr cdLpr ctLpr ocLve kVLve dcLve pmLve cdLve ctLve ocLne kVLne dcLne pmLne cdLne ctLne ocLpo kVLpo dcLpo pmLpo cdLpo ctLpo ocLth kVLth dcLth pmLth cdLth ctLth ocLco kVLco dcLco pmLco cdLco ctLco ocLaw kVLaw dcLaw pmLaw cdLaw ctLaw ocIni kVIni dcIni pmIni cdIni ctIni ocLen kVLen dcLen pmLen cdLen ctLen : Value}
    (aC : PySem.W.nsIn K mainGlobals "Net" = some (some (.ref C)))
    (aBtw : PySem.W.nsIn K mainGlobals "is_between" = some (some (.ref fBtw)))
    (lBtw : K.lookup fBtw = some ⟨ocBtw, odBtw, .func (PySem.W.fnOf "is_between" "is_between" (defArgs sBtw) (defBody sBtw) (defScope sBtw) .none kVBtw dcBtw pmBtw anBtw cdBtw ctBtw), slBtw⟩) (cBtw : PySem.W.codeIn K cdBtw "is_between" = true) (kBtw : PySem.W.keepIn K (.ref fBtw) = true)
    (aPrm : PySem.W.nsIn K mainGlobals "is_prime" = some (some (.ref fPrm)))
    (lPrm : K.lookup fPrm = some ⟨ocPrm, odPrm, .func (PySem.W.fnOf "is_prime" "is_prime" (defArgs sPrm) (defBody sPrm) (defScope sPrm) .none kVPrm dcPrm pmPrm anPrm cdPrm ctPrm), slPrm⟩) (cPrm : PySem.W.codeIn K cdPrm "is_prime" = true) (kPrm : PySem.W.keepIn K (.ref fPrm) = true)
    (aAsm : PySem.W.nsIn K mainGlobals "as_matrix" = some (some (.ref fAsm)))
    (lAsm : K.lookup fAsm = some ⟨ocAsm, odAsm, .func (PySem.W.fnOf "as_matrix" "as_matrix" (defArgs sAsm) (defBody sAsm) (defScope sAsm) .none kVAsm dcAsm pmAsm anAsm cdAsm ctAsm), slAsm⟩) (cAsm : PySem.W.codeIn K cdAsm "as_matrix" = true) (kAsm : PySem.W.keepIn K (.ref fAsm) = true)
    (aPrd : PySem.W.nsIn K mainGlobals "product" = some (some (.ref fPrd)))
    (lPrd : K.lookup fPrd = some ⟨ocPrd, odPrd, .func (PySem.W.fnOf "product" "product" (defArgs sPrd) (defBody sPrd) (defScope sPrd) .none kVPrd dcPrd pmPrd anPrd cdPrd ctPrd), slPrd⟩) (cPrd : PySem.W.codeIn K cdPrd "product" = true) (kPrd : PySem.W.keepIn K (.ref fPrd) = true)
    (aFwd : PySem.W.nsIn K mainGlobals "layer_forward" = some (some (.ref fFwd)))
    (lFwd : K.lookup fFwd = some ⟨ocFwd, odFwd, .func (PySem.W.fnOf "layer_forward" "layer_forward" (defArgs sFwd) (defBody sFwd) (defScope sFwd) .none kVFwd dcFwd pmFwd anFwd cdFwd ctFwd), slFwd⟩) (cFwd : PySem.W.codeIn K cdFwd "layer_forward" = true) (kFwd : PySem.W.keepIn K (.ref fFwd) = true)
    (aBck : PySem.W.nsIn K mainGlobals "layer_back" = some (some (.ref fBck)))
    (lBck : K.lookup fBck = some ⟨ocBck, odBck, .func (PySem.W.fnOf "layer_back" "layer_back" (defArgs sBck) (defBody sBck) (defScope sBck) .none kVBck dcBck pmBck anBck cdBck ctBck), slBck⟩) (cBck : PySem.W.codeIn K cdBck "layer_back" = true) (kBck : PySem.W.keepIn K (.ref fBck) = true)
    (aInp : PySem.W.nsIn K mainGlobals "layer_inputs" = some (some (.ref fInp)))
    (lInp : K.lookup fInp = some ⟨ocInp, odInp, .func (PySem.W.fnOf "layer_inputs" "layer_inputs" (defArgs sInp) (defBody sInp) (defScope sInp) .none kVInp dcInp pmInp anInp cdInp ctInp), slInp⟩) (cInp : PySem.W.codeIn K cdInp "layer_inputs" = true) (kInp : PySem.W.keepIn K (.ref fInp) = true)
    (aSlb : PySem.W.nsIn K mainGlobals "slopes_back" = some (some (.ref fSlb)))
    (lSlb : K.lookup fSlb = some ⟨ocSlb, odSlb, .func (PySem.W.fnOf "slopes_back" "slopes_back" (defArgs sSlb) (defBody sSlb) (defScope sSlb) .none kVSlb dcSlb pmSlb anSlb cdSlb ctSlb), slSlb⟩) (cSlb : PySem.W.codeIn K cdSlb "slopes_back" = true) (kSlb : PySem.W.keepIn K (.ref fSlb) = true)
    (aLss : PySem.W.nsIn K mainGlobals "loss_slopes" = some (some (.ref fLss)))
    (lLss : K.lookup fLss = some ⟨ocLss, odLss, .func (PySem.W.fnOf "loss_slopes" "loss_slopes" (defArgs sLss) (defBody sLss) (defScope sLss) .none kVLss dcLss pmLss anLss cdLss ctLss), slLss⟩) (cLss : PySem.W.codeIn K cdLss "loss_slopes" = true) (kLss : PySem.W.keepIn K (.ref fLss) = true)
    (aNos : PySem.W.nsIn K mainGlobals "no_slopes" = some (some (.ref fNos)))
    (lNos : K.lookup fNos = some ⟨ocNos, odNos, .func (PySem.W.fnOf "no_slopes" "no_slopes" (defArgs sNos) (defBody sNos) (defScope sNos) .none kVNos dcNos pmNos anNos cdNos ctNos), slNos⟩) (cNos : PySem.W.codeIn K cdNos "no_slopes" = true) (kNos : PySem.W.keepIn K (.ref fNos) = true)
    (aAdd : PySem.W.nsIn K mainGlobals "added" = some (some (.ref fAdd)))
    (lAdd : K.lookup fAdd = some ⟨ocAdd, odAdd, .func (PySem.W.fnOf "added" "added" (defArgs sAdd) (defBody sAdd) (defScope sAdd) .none kVAdd dcAdd pmAdd anAdd cdAdd ctAdd), slAdd⟩) (cAdd : PySem.W.codeIn K cdAdd "added" = true) (kAdd : PySem.W.keepIn K (.ref fAdd) = true)
    (aPor : PySem.W.nsIn K mainGlobals "portion_slopes" = some (some (.ref fPor)))
    (lPor : K.lookup fPor = some ⟨ocPor, odPor, .func (PySem.W.fnOf "portion_slopes" "portion_slopes" (defArgs sPor) (defBody sPor) (defScope sPor) .none kVPor dcPor pmPor anPor cdPor ctPor), slPor⟩) (cPor : PySem.W.codeIn K cdPor "portion_slopes" = true) (kPor : PySem.W.keepIn K (.ref fPor) = true)
    (aLdr : PySem.W.nsIn K mainGlobals "_law_draws" = some (some (.ref fLdr)))
    (lLdr : K.lookup fLdr = some ⟨ocLdr, odLdr, .func (PySem.W.fnOf "_law_draws" "_law_draws" (defArgs sLdr) (defBody sLdr) (defScope sLdr) .none kVLdr dcLdr pmLdr anLdr cdLdr ctLdr), slLdr⟩) (cLdr : PySem.W.codeIn K cdLdr "_law_draws" = true) (kLdr : PySem.W.keepIn K (.ref fLdr) = true)
    (aLtk : PySem.W.nsIn K mainGlobals "_law_take" = some (some (.ref fLtk)))
    (lLtk : K.lookup fLtk = some ⟨ocLtk, odLtk, .func (PySem.W.fnOf "_law_take" "_law_take" (defArgs sLtk) (defBody sLtk) (defScope sLtk) .none kVLtk dcLtk pmLtk anLtk cdLtk ctLtk), slLtk⟩) (cLtk : PySem.W.codeIn K cdLtk "_law_take" = true) (kLtk : PySem.W.keepIn K (.ref fLtk) = true)
    (aLpr : PySem.W.nsIn K mainGlobals "_law_prime" = some (some (.ref fLpr)))
    (lLpr : K.lookup fLpr = some ⟨ocLpr, odLpr, .func (PySem.W.fnOf "_law_prime" "_law_prime" (defArgs sLpr) (defBody sLpr) (defScope sLpr) .none kVLpr dcLpr pmLpr anLpr cdLpr ctLpr), slLpr⟩) (cLpr : PySem.W.codeIn K cdLpr "_law_prime" = true) (kLpr : PySem.W.keepIn K (.ref fLpr) = true)
    (aLve : PySem.W.nsIn K mainGlobals "_law_vector" = some (some (.ref fLve)))
    (lLve : K.lookup fLve = some ⟨ocLve, odLve, .func (PySem.W.fnOf "_law_vector" "_law_vector" (defArgs sLve) (defBody sLve) (defScope sLve) .none kVLve dcLve pmLve anLve cdLve ctLve), slLve⟩) (cLve : PySem.W.codeIn K cdLve "_law_vector" = true) (kLve : PySem.W.keepIn K (.ref fLve) = true)
    (aLne : PySem.W.nsIn K mainGlobals "_law_net" = some (some (.ref fLne)))
    (lLne : K.lookup fLne = some ⟨ocLne, odLne, .func (PySem.W.fnOf "_law_net" "_law_net" (defArgs sLne) (defBody sLne) (defScope sLne) .none kVLne dcLne pmLne anLne cdLne ctLne), slLne⟩) (cLne : PySem.W.codeIn K cdLne "_law_net" = true) (kLne : PySem.W.keepIn K (.ref fLne) = true)
    (aLpo : PySem.W.nsIn K mainGlobals "_law_portion" = some (some (.ref fLpo)))
    (lLpo : K.lookup fLpo = some ⟨ocLpo, odLpo, .func (PySem.W.fnOf "_law_portion" "_law_portion" (defArgs sLpo) (defBody sLpo) (defScope sLpo) .none kVLpo dcLpo pmLpo anLpo cdLpo ctLpo), slLpo⟩) (cLpo : PySem.W.codeIn K cdLpo "_law_portion" = true) (kLpo : PySem.W.keepIn K (.ref fLpo) = true)
    (aLth : PySem.W.nsIn K mainGlobals "_law_through" = some (some (.ref fLth)))
    (lLth : K.lookup fLth = some ⟨ocLth, odLth, .func (PySem.W.fnOf "_law_through" "_law_through" (defArgs sLth) (defBody sLth) (defScope sLth) .none kVLth dcLth pmLth anLth cdLth ctLth), slLth⟩) (cLth : PySem.W.codeIn K cdLth "_law_through" = true) (kLth : PySem.W.keepIn K (.ref fLth) = true)
    (aLco : PySem.W.nsIn K mainGlobals "_law_coefficient" = some (some (.ref fLco)))
    (lLco : K.lookup fLco = some ⟨ocLco, odLco, .func (PySem.W.fnOf "_law_coefficient" "_law_coefficient" (defArgs sLco) (defBody sLco) (defScope sLco) .none kVLco dcLco pmLco anLco cdLco ctLco), slLco⟩) (cLco : PySem.W.codeIn K cdLco "_law_coefficient" = true) (kLco : PySem.W.keepIn K (.ref fLco) = true)
    (aLaw : PySem.W.nsIn K mainGlobals "law" = some (some (.ref fLaw)))
    (lLaw : K.lookup fLaw = some ⟨ocLaw, odLaw, .func (PySem.W.fnOf "law" "law" (defArgs sLaw) (defBody sLaw) (defScope sLaw) .none kVLaw dcLaw pmLaw anLaw cdLaw ctLaw), slLaw⟩) (cLaw : PySem.W.codeIn K cdLaw "law" = true) (kLaw : PySem.W.keepIn K (.ref fLaw) = true)
    (aIni : PySem.W.findIn K (.ref C) "__init__" = some (some (.ref fIni))) (iIni : PySem.W.isFn K (.ref fIni) = true)
    (lIni : K.lookup fIni = some ⟨ocIni, odIni, .func (PySem.W.fnOf "__init__" "Net.__init__" (defArgs sIni) (defBody sIni) (defScope sIni) .none kVIni dcIni pmIni anIni cdIni ctIni), slIni⟩) (cIni : PySem.W.codeIn K cdIni "Net.__init__" = true) (kIni : PySem.W.keepIn K (.ref fIni) = true)
    (aLen : PySem.W.findIn K (.ref C) "__len__" = some (some (.ref fLen))) (iLen : PySem.W.isFn K (.ref fLen) = true)
    (lLen : K.lookup fLen = some ⟨ocLen, odLen, .func (PySem.W.fnOf "__len__" "Net.__len__" (defArgs sLen) (defBody sLen) (defScope sLen) .none kVLen dcLen pmLen anLen cdLen ctLen), slLen⟩) (cLen : PySem.W.codeIn K cdLen "Net.__len__" = true) (kLen : PySem.W.keepIn K (.ref fLen) = true)
    (aM : PySem.W.nsIn K mainGlobals "MOST_PRIME" = some (some (.int 97 tM)))
    (zlen : PySem.W.nsIn K mainGlobals "len" = some none)
    (ztuple : PySem.W.nsIn K mainGlobals "tuple" = some none)
    (zlist : PySem.W.nsIn K mainGlobals "list" = some none)
    (zrange : PySem.W.nsIn K mainGlobals "range" = some none)
    (zzip : PySem.W.nsIn K mainGlobals "zip" = some none)
    (zsum : PySem.W.nsIn K mainGlobals "sum" = some none)
    (zrev : PySem.W.nsIn K mainGlobals "reversed" = some none)
    (zisi : PySem.W.nsIn K mainGlobals "isinstance" = some none)
    (zint : PySem.W.nsIn K mainGlobals "int" = some none)
    (zbool : PySem.W.nsIn K mainGlobals "bool" = some none)
    (zabs : PySem.W.nsIn K mainGlobals "abs" = some none)
    (zrepr : PySem.W.nsIn K mainGlobals "repr" = some none)
    (pg : PySem.W.plainGet K C Str.empty = true) (hd : PySem.W.hasDictIn K C = true) (po : PySem.W.plainOver K C = true) (sa : PySem.W.findIn K (.ref C) "__setattr__" = some (some (.builtin "object.__setattr__"))) (mk : PySem.W.makesIn K C = true) (kc : PySem.W.keepIn K (.ref C) = true)
    (nP : PySem.W.findIn K (.ref C) "prime" = some none) (nW : PySem.W.findIn K (.ref C) "weights" = some none) (nK : PySem.W.findIn K (.ref C) "kinds" = some none) :
    ∃ fd : FuncData, (∀ (s : Shared) (v : Value), BindsTo s fd ⟨[v], []⟩ [("_law_script", v)]) ∧ ∀ base : Heap, K.In base → base.Ns mainGlobals mg → FnG P w K mg base 5 fa fd ["_law_script"] (spLaw K) := by
  have e := hfa.symm.trans (PySem.W.mg_of X G aLaw)
  cases e
  have T : Txt K mg := ⟨PySem.W.mg_none_of X G zlen, PySem.W.mg_none_of X G ztuple, PySem.W.mg_none_of X G zlist, PySem.W.mg_none_of X G zrange, PySem.W.mg_none_of X G zzip, PySem.W.mg_none_of X G zsum, PySem.W.mg_none_of X G zrev, PySem.W.mg_none_of X G zisi, PySem.W.mg_none_of X G zint, PySem.W.mg_none_of X G zbool, PySem.W.mg_none_of X G zabs, PySem.W.mg_none_of X G zrepr⟩
  have TC : NetC K mg C := ⟨⟨pg, hd, po, sa⟩, nP, nW, nK⟩
  have ML : Meth K C "__len__" fLen := ⟨aLen, iLen, kLen⟩
  have FBtw := fun_mk (st := sBtw) lBtw cBtw kBtw
  have bBtw := FBtw.binds (ps := ["value", "least", "most"]) fun _ _ _ _ _ _ us hl => match us, hl with | [_, _, _], _ => rfl
  have FPrm := fun_mk (st := sPrm) lPrm cPrm kPrm
  have bPrm := FPrm.binds (ps := ["value"]) fun _ _ _ _ _ _ us hl => match us, hl with | [_], _ => rfl
  have FAsm := fun_mk (st := sAsm) lAsm cAsm kAsm
  have bAsm := FAsm.binds (ps := ["rows"]) fun _ _ _ _ _ _ us hl => match us, hl with | [_], _ => rfl
  have FPrd := fun_mk (st := sPrd) lPrd cPrd kPrd
  have bPrd := FPrd.binds (ps := ["net", "layer", "vector"]) fun _ _ _ _ _ _ us hl => match us, hl with | [_, _, _], _ => rfl
  have FFwd := fun_mk (st := sFwd) lFwd cFwd kFwd
  have bFwd := FFwd.binds (ps := ["net", "layer", "vector"]) fun _ _ _ _ _ _ us hl => match us, hl with | [_, _, _], _ => rfl
  have FBck := fun_mk (st := sBck) lBck cBck kBck
  have bBck := FBck.binds (ps := ["net", "layer", "vector", "slopes"]) fun _ _ _ _ _ _ us hl => match us, hl with | [_, _, _, _], _ => rfl
  have FInp := fun_mk (st := sInp) lInp cInp kInp
  have bInp := FInp.binds (ps := ["net", "vector"]) fun _ _ _ _ _ _ us hl => match us, hl with | [_, _], _ => rfl
  have FSlb := fun_mk (st := sSlb) lSlb cSlb kSlb
  have bSlb := FSlb.binds (ps := ["net", "inputs", "slopes"]) fun _ _ _ _ _ _ us hl => match us, hl with | [_, _, _], _ => rfl
  have FLss := fun_mk (st := sLss) lLss cLss kLss
  have bLss := FLss.binds (ps := ["net", "out", "target"]) fun _ _ _ _ _ _ us hl => match us, hl with | [_, _, _], _ => rfl
  have FNos := fun_mk (st := sNos) lNos cNos kNos
  have bNos := FNos.binds (ps := ["net"]) fun _ _ _ _ _ _ us hl => match us, hl with | [_], _ => rfl
  have FAdd := fun_mk (st := sAdd) lAdd cAdd kAdd
  have bAdd := FAdd.binds (ps := ["net", "one", "other", "times"]) fun _ _ _ _ _ _ us hl => match us, hl with | [_, _, _, _], _ => rfl
  have FPor := fun_mk (st := sPor) lPor cPor kPor
  have bPor := FPor.binds (ps := ["net", "portion"]) fun _ _ _ _ _ _ us hl => match us, hl with | [_, _], _ => rfl
  have FLdr := fun_mk (st := sLdr) lLdr cLdr kLdr
  have bLdr := FLdr.binds (ps := ["_law_script", "_law_many"]) fun _ _ _ _ _ _ us hl => match us, hl with | [_, _], _ => rfl
  have FLtk := fun_mk (st := sLtk) lLtk cLtk kLtk
  have bLtk := FLtk.binds (ps := ["_law_hand", "_law_many"]) fun _ _ _ _ _ _ us hl => match us, hl with | [_, _], _ => rfl
  have FLpr := fun_mk (st := sLpr) lLpr cLpr kLpr
  have bLpr := FLpr.binds (ps := ["_law_hand"]) fun _ _ _ _ _ _ us hl => match us, hl with | [_], _ => rfl
  have FLve := fun_mk (st := sLve) lLve cLve kLve
  have bLve := FLve.binds (ps := ["_law_hand", "_law_prime_here", "_law_width"]) fun _ _ _ _ _ _ us hl => match us, hl with | [_, _, _], _ => rfl
  have FLne := fun_mk (st := sLne) lLne cLne kLne
  have bLne := FLne.binds (ps := ["_law_hand", "_law_most"]) fun _ _ _ _ _ _ us hl => match us, hl with | [_, _], _ => rfl
  have FLpo := fun_mk (st := sLpo) lLpo cLpo kLpo
  have bLpo := FLpo.binds (ps := ["_law_hand", "_law_prime_here", "_law_width", "_law_most"]) fun _ _ _ _ _ _ us hl => match us, hl with | [_, _, _, _], _ => rfl
  have FLth := fun_mk (st := sLth) lLth cLth kLth
  have bLth := FLth.binds (ps := ["_law_net_here", "_law_layer", "_law_spot", "_law_vector_here"]) fun _ _ _ _ _ _ us hl => match us, hl with | [_, _, _, _], _ => rfl
  have FLco := fun_mk (st := sLco) lLco cLco kLco
  have bLco := FLco.binds (ps := ["_law_net_here", "_law_portion_here", "_law_layer", "_law_spot"]) fun _ _ _ _ _ _ us hl => match us, hl with | [_, _, _, _], _ => rfl
  have FLaw := fun_mk (st := sLaw) lLaw cLaw kLaw
  have FIni := fun_mk (st := sIni) lIni cIni kIni
  have bIni := FIni.binds (ps := ["self", "prime", "weights", "kinds"]) fun _ _ _ _ _ _ us hl => match us, hl with | [_, _, _, _], _ => rfl
  have FLen := fun_mk (st := sLen) lLen cLen kLen
  have bLen := FLen.binds (ps := ["self"]) fun _ _ _ _ _ _ us hl => match us, hl with | [_], _ => rfl
  have gBtw := PySem.W.mg_of X G aBtw
  have gPrm := PySem.W.mg_of X G aPrm
  have gAsm := PySem.W.mg_of X G aAsm
  have gPrd := PySem.W.mg_of X G aPrd
  have gFwd := PySem.W.mg_of X G aFwd
  have gBck := PySem.W.mg_of X G aBck
  have gInp := PySem.W.mg_of X G aInp
  have gSlb := PySem.W.mg_of X G aSlb
  have gLss := PySem.W.mg_of X G aLss
  have gNos := PySem.W.mg_of X G aNos
  have gAdd := PySem.W.mg_of X G aAdd
  have gPor := PySem.W.mg_of X G aPor
  have gLdr := PySem.W.mg_of X G aLdr
  have gLtk := PySem.W.mg_of X G aLtk
  have gLpr := PySem.W.mg_of X G aLpr
  have gLve := PySem.W.mg_of X G aLve
  have gLne := PySem.W.mg_of X G aLne
  have gLpo := PySem.W.mg_of X G aLpo
  have gLth := PySem.W.mg_of X G aLth
  have gLco := PySem.W.mg_of X G aLco
  have gC := PySem.W.mg_of X G aC
  have gM := PySem.W.mg_of X G aM
  refine ⟨PySem.W.fnOf "law" "law" (defArgs sLaw) (defBody sLaw) (defScope sLaw) .none kVLaw dcLaw pmLaw anLaw cdLaw ctLaw, fun s v => .of_eq rfl, fun base _ _ => ?_⟩
  have GPrm : FnOk P w K mg base CX0 2 fPrm _ ["value"] spPrm := ok_prm FPrm T FBtw bBtw gBtw gM
  have GAsm : FnOk P w K mg base CX0 2 fAsm _ ["rows"] (spAsm K) := ok_asm FAsm T
  have GIni : FnOk P w K mg base CX0 3 fIni _ ["self", "prime", "weights", "kinds"] (spIni K C) := ok_ini FIni T TC GPrm kPrm bPrm gPrm GAsm kAsm bAsm gAsm
  have GLen : FnOk P w K mg base CX0 1 fLen _ ["self"] (spLen K C) := ok_len FLen T TC
  have GPrd : FnOk P w K mg base CX0 1 fPrd _ ["net", "layer", "vector"] (spPrd K C) := ok_prd FPrd T TC
  have GFwd : FnOk P w K mg base CX0 2 fFwd _ ["net", "layer", "vector"] (spFwd K C) := ok_fwd FFwd T TC GPrd kPrd bPrd gPrd
  have GBck : FnOk P w K mg base CX0 2 fBck _ ["net", "layer", "vector", "slopes"] (spBck K C) := ok_bck FBck T TC GPrd kPrd bPrd gPrd
  have GInp : FnOk P w K mg base CX0 3 fInp _ ["net", "vector"] (spInp K C) := ok_inp FInp T TC GLen ML bLen GFwd kFwd bFwd gFwd
  have GSlb : FnOk P w K mg base CX0 3 fSlb _ ["net", "inputs", "slopes"] (spSlb K C) := ok_slb FSlb T TC GLen ML bLen GBck kBck bBck gBck
  have GLss : FnOk P w K mg base CX0 3 fLss _ ["net", "out", "target"] (spLss K C) := ok_lss FLss T TC
  have GNos : FnOk P w K mg base CX0 3 fNos _ ["net"] (spNos K C) := ok_nos FNos T TC
  have GAdd : FnOk P w K mg base CX0 3 fAdd _ ["net", "one", "other", "times"] (spAdd K C) := ok_add FAdd T TC
  have GPor : FnOk P w K mg base CX0 4 fPor _ ["net", "portion"] (spPor K C) := ok_por FPor GNos kNos bNos gNos GInp kInp bInp gInp GAdd kAdd bAdd gAdd GSlb kSlb bSlb gSlb GLss kLss bLss gLss
  have GLdr : FnOk P w K mg base CX0 4 fLdr _ ["_law_script", "_law_many"] (spLdr K) := ok_ldr FLdr T
  have GLtk : FnOk P w K mg base CX0 1 fLtk _ ["_law_hand", "_law_many"] spLtk := ok_ltk FLtk T
  have GLpr : FnOk P w K mg base CX0 2 fLpr _ ["_law_hand"] spLpr := ok_lpr FLpr GLtk kLtk bLtk gLtk
  have GLve : FnOk P w K mg base CX0 2 fLve _ ["_law_hand", "_law_prime_here", "_law_width"] (spLve K) := ok_lve FLve T GLtk kLtk bLtk gLtk
  have GLne : FnOk P w K mg base CX0 3 fLne _ ["_law_hand", "_law_most"] (spLne K) := ok_lne FLne T (GLtk.mono (k := 2) (by decide)) kLtk bLtk gLtk GLpr kLpr bLpr gLpr GLve kLve bLve gLve
  have GLpo : FnOk P w K mg base CX0 3 fLpo _ ["_law_hand", "_law_prime_here", "_law_width", "_law_most"] (spLpo K) := ok_lpo FLpo T (GLtk.mono (k := 2) (by decide)) kLtk bLtk gLtk GLve kLve bLve gLve
  have GLth : FnOk P w K mg base CX0 1 fLth _ ["_law_net_here", "_law_layer", "_law_spot", "_law_vector_here"] (spLth K) := ok_lth FLth T
  have GLco : FnOk P w K mg base CX0 2 fLco _ ["_law_net_here", "_law_portion_here", "_law_layer", "_law_spot"] (spLco K) := ok_lco FLco T GLth kLth bLth gLth
  exact ok_law FLaw T FPor GPor gPor (GLco.mono (k := 4) (by decide)) kLco bLco gLco GLdr kLdr bLdr gLdr (GLtk.mono (k := 4) (by decide)) kLtk bLtk gLtk (GLne.mono (k := 4) (by decide)) kLne bLne gLne (GLpo.mono (k := 4) (by decide)) kLpo bLpo gLpo ⟨mk, aIni, iIni, kc⟩ GIni bIni gC
end K5

open PySem PySem.W PyProof.Rows in
set_option maxRecDepth 100000 in
set_option maxHeartbeats 0 in
theorem PySem.Challenge.cw_stagesfull_k05_whole_slopes_are_coeffici_holds : PySem.Challenge.rw_stagesfull_k05_whole_slopes_are_coeffici.Holds := by
  w_on; o_law; k_head; (case hw => w_witness2)
  k_fill
  refine K5.walk_ofG (l := PySem.Challenge.rw_stagesfull_k05_whole_slopes_are_coeffici) (n := 63) (k := 5) (x := "_law_script") (sp := fun w => K5.spLaw _) rfl (by decide) rfl ⟨rfl, by decide, by decide⟩ (fun w h Y => PySem.W.kIn_of Y) ?F (fun _ _ a ns hl _ _ hS => ⟨a, ns, rfl, hS, hl, fun _ => rfl⟩)
  case F =>
    intro w mg fa h KX G hmg
    refine' K5.all_mk KX G hmg ?aC ?aBtw ?lBtw ?cBtw ?kBtw ?aPrm ?lPrm ?cPrm ?kPrm ?aAsm ?lAsm ?cAsm ?kAsm ?aPrd ?lPrd ?cPrd ?kPrd ?aFwd ?lFwd ?cFwd ?kFwd ?aBck ?lBck ?cBck ?kBck ?aInp ?lInp ?cInp ?kInp ?aSlb ?lSlb ?cSlb ?kSlb ?aLss ?lLss ?cLss ?kLss ?aNos ?lNos ?cNos ?kNos ?aAdd ?lAdd ?cAdd ?kAdd ?aPor ?lPor ?cPor ?kPor ?aLdr ?lLdr ?cLdr ?kLdr ?aLtk ?lLtk ?cLtk ?kLtk ?aLpr ?lLpr ?cLpr ?kLpr ?aLve ?lLve ?cLve ?kLve ?aLne ?lLne ?cLne ?kLne ?aLpo ?lLpo ?cLpo ?kLpo ?aLth ?lLth ?cLth ?kLth ?aLco ?lLco ?cLco ?kLco ?aLaw ?lLaw ?cLaw ?kLaw ?aIni ?iIni ?lIni ?cIni ?kIni ?aLen ?iLen ?lLen ?cLen ?kLen ?aM ?zlen ?ztuple ?zlist ?zrange ?zzip ?zsum ?zrev ?zisi ?zint ?zbool ?zabs ?zrepr ?pg ?hd ?po ?sa ?mk ?kc ?nP ?nW ?nK
    (case aC => k_is)
    (case aBtw => k_is)
    (case lBtw => k_is)
    (case cBtw => k_is)
    (case kBtw => k_is)
    (case aPrm => k_is)
    (case lPrm => k_is)
    (case cPrm => k_is)
    (case kPrm => k_is)
    (case aAsm => k_is)
    (case lAsm => k_is)
    (case cAsm => k_is)
    (case kAsm => k_is)
    (case aPrd => k_is)
    (case lPrd => k_is)
    (case cPrd => k_is)
    (case kPrd => k_is)
    (case aFwd => k_is)
    (case lFwd => k_is)
    (case cFwd => k_is)
    (case kFwd => k_is)
    (case aBck => k_is)
    (case lBck => k_is)
    (case cBck => k_is)
    (case kBck => k_is)
    (case aInp => k_is)
    (case lInp => k_is)
    (case cInp => k_is)
    (case kInp => k_is)
    (case aSlb => k_is)
    (case lSlb => k_is)
    (case cSlb => k_is)
    (case kSlb => k_is)
    (case aLss => k_is)
    (case lLss => k_is)
    (case cLss => k_is)
    (case kLss => k_is)
    (case aNos => k_is)
    (case lNos => k_is)
    (case cNos => k_is)
    (case kNos => k_is)
    (case aAdd => k_is)
    (case lAdd => k_is)
    (case cAdd => k_is)
    (case kAdd => k_is)
    (case aPor => k_is)
    (case lPor => k_is)
    (case cPor => k_is)
    (case kPor => k_is)
    (case aLdr => k_is)
    (case lLdr => k_is)
    (case cLdr => k_is)
    (case kLdr => k_is)
    (case aLtk => k_is)
    (case lLtk => k_is)
    (case cLtk => k_is)
    (case kLtk => k_is)
    (case aLpr => k_is)
    (case lLpr => k_is)
    (case cLpr => k_is)
    (case kLpr => k_is)
    (case aLve => k_is)
    (case lLve => k_is)
    (case cLve => k_is)
    (case kLve => k_is)
    (case aLne => k_is)
    (case lLne => k_is)
    (case cLne => k_is)
    (case kLne => k_is)
    (case aLpo => k_is)
    (case lLpo => k_is)
    (case cLpo => k_is)
    (case kLpo => k_is)
    (case aLth => k_is)
    (case lLth => k_is)
    (case cLth => k_is)
    (case kLth => k_is)
    (case aLco => k_is)
    (case lLco => k_is)
    (case cLco => k_is)
    (case kLco => k_is)
    (case aLaw => k_is)
    (case lLaw => k_is)
    (case cLaw => k_is)
    (case kLaw => k_is)
    (case aIni => k_is)
    (case iIni => k_is)
    (case lIni => k_is)
    (case cIni => k_is)
    (case kIni => k_is)
    (case aLen => k_is)
    (case iLen => k_is)
    (case lLen => k_is)
    (case cLen => k_is)
    (case kLen => k_is)
    (case aM => k_is)
    (case zlen => k_is)
    (case ztuple => k_is)
    (case zlist => k_is)
    (case zrange => k_is)
    (case zzip => k_is)
    (case zsum => k_is)
    (case zrev => k_is)
    (case zisi => k_is)
    (case zint => k_is)
    (case zbool => k_is)
    (case zabs => k_is)
    (case zrepr => k_is)
    (case pg => k_is)
    (case hd => k_is)
    (case po => k_is)
    (case sa => k_is)
    (case mk => k_is)
    (case kc => k_is)
    (case nP => k_is)
    (case nW => k_is)
    (case nK => k_is)
