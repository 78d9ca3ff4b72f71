import PyProof.Rows.All
import Wide.All
import OpenK.AllK
import Wide.FinOn
import HandS.ForMost
import HandS.ForExc
import HandS.Deep
import HandS.TupAny
import HandS.CallSlots
import HandS.IsInst
import HandS.Conv
import HandS.Style
import HandS.Flow
import HandS.Walk
import HandS.ExcIs
import HandS.Zip
import KE.GoesEnum
import HandS.TryMany
import HandS.Small
import HandS.Ends
import HandS.HeadEnd
import HandS.HeadHook2
import HandS.Defaults
import HandS.Head2
import HandS.HeadHook1
import HandS.Iter
import HandS.RevTup
import HandS.New
import HandS.List
import KE.SortData
import PySem.Challenge.RW_turnedstrings_k53_branching_by_hand_and
set_option Elab.async false
set_option linter.all false
set_option maxRecDepth 100000
set_option maxHeartbeats 4000000
/-! the evaluator: values, a small heap, codes -/
namespace Tn
open PySem
noncomputable section

/-- values: pure ones as trees; ref n: the n-th object of the small heap; mtup: a tuple that holds a ref; opq: anything; un: no value yet -/
inductive PV where
  | non | bl (b : Bool) | int (i : Int) | str (x : Str) | tup (xs : List PV) | mtup (xs : List PV) | ref (n : Nat) | opq | un
inductive HObj where
  | lst (xs : List PV)
  | dct (kvs : List (PV × PV))
abbrev MH := List HObj
abbrev MEnv := List PV
inductive Rs where
  | ok (v : PV) (h : MH) | ex (c : Nat) (h : MH) | bad
inductive Rl where
  | ok (vs : List PV) (h : MH) | ex (c : Nat) (h : MH) | bad
inductive Out where
  | nx (e : MEnv) (h : MH) | ret (v : PV) (h : MH) | ex (c : Nat) (h : MH) | brk (e : MEnv) (h : MH) | cnt (e : MEnv) (h : MH) | bad
abbrev CF := Nat → List PV → MH → Rs
abbrev EC := CF → MEnv → MH → Rs
abbrev LC := CF → MEnv → MH → Rl
abbrev SC := CF → MEnv → MH → Out

/-! ### cases, for the kernel -/
def PV.cs {α : Type} (n : α) (b : Bool → α) (i : Int → α) (s : Str → α) (t m : List PV → α) (r : Nat → α) (o u : α) (v : PV) : α :=
  PV.rec (motive_1 := fun _ => α) (motive_2 := fun _ => Unit) n b i s (fun xs _ => t xs) (fun xs _ => m xs) r o u () (fun _ _ _ _ => ()) v
def HObj.cs {α : Type} (l : List PV → α) (d : List (PV × PV) → α) (o : HObj) : α := HObj.rec l d o
def Rs.cs {α : Type} (o : PV → MH → α) (e : Nat → MH → α) (b : α) (r : Rs) : α := Rs.rec o e b r
def Rl.cs {α : Type} (o : List PV → MH → α) (e : Nat → MH → α) (b : α) (r : Rl) : α := Rl.rec o e b r
def Out.cs {α : Type} (nx : MEnv → MH → α) (ret : PV → MH → α) (ex : Nat → MH → α) (brk cnt : MEnv → MH → α) (b : α) (r : Out) : α := Out.rec nx ret ex brk cnt b r
def bcs {α : Type} (t f : α) (b : Bool) : α := Bool.rec f t b
def ocs {α β : Type} (s : β → α) (n : α) (o : Option β) : α := Option.rec n s o
def lcs {α β : Type} (n : α) (c : β → List β → α) (l : List β) : α := List.rec n (fun x xs _ => c x xs) l
section
variable {α : Type} {n u o : α} {b : Bool → α} {i : Int → α} {s : Str → α} {t m : List PV → α} {r : Nat → α}
@[simp] theorem PV.cs_non : PV.cs n b i s t m r o u .non = n := rfl
@[simp] theorem PV.cs_bl (x) : PV.cs n b i s t m r o u (.bl x) = b x := rfl
@[simp] theorem PV.cs_int (x) : PV.cs n b i s t m r o u (.int x) = i x := rfl
@[simp] theorem PV.cs_str (x) : PV.cs n b i s t m r o u (.str x) = s x := rfl
@[simp] theorem PV.cs_tup (x) : PV.cs n b i s t m r o u (.tup x) = t x := rfl
@[simp] theorem PV.cs_mtup (x) : PV.cs n b i s t m r o u (.mtup x) = m x := rfl
@[simp] theorem PV.cs_ref (x) : PV.cs n b i s t m r o u (.ref x) = r x := rfl
@[simp] theorem PV.cs_opq : PV.cs n b i s t m r o u .opq = o := rfl
@[simp] theorem PV.cs_un : PV.cs n b i s t m r o u .un = u := rfl
@[simp] theorem HObj.cs_lst (l : List PV → α) (d) (x) : HObj.cs l d (.lst x) = l x := rfl
@[simp] theorem HObj.cs_dct (l : List PV → α) (d) (x) : HObj.cs l d (.dct x) = d x := rfl
@[simp] theorem Rs.cs_ok (o : PV → MH → α) (e b v h) : Rs.cs o e b (.ok v h) = o v h := rfl
@[simp] theorem Rs.cs_ex (o : PV → MH → α) (e b c h) : Rs.cs o e b (.ex c h) = e c h := rfl
@[simp] theorem Rs.cs_bad (o : PV → MH → α) (e b) : Rs.cs o e b .bad = b := rfl
@[simp] theorem Rl.cs_ok (o : List PV → MH → α) (e b v h) : Rl.cs o e b (.ok v h) = o v h := rfl
@[simp] theorem Rl.cs_ex (o : List PV → MH → α) (e b c h) : Rl.cs o e b (.ex c h) = e c h := rfl
@[simp] theorem Rl.cs_bad (o : List PV → MH → α) (e b) : Rl.cs o e b .bad = b := rfl
@[simp] theorem bcs_true (t f : α) : bcs t f true = t := rfl
@[simp] theorem bcs_false (t f : α) : bcs t f false = f := rfl
@[simp] theorem ocs_some {β : Type} (s : β → α) (n : α) (x) : ocs s n (some x) = s x := rfl
@[simp] theorem ocs_none {β : Type} (s : β → α) (n : α) : ocs s n none = n := rfl
@[simp] theorem lcs_nil {β : Type} (n : α) (c : β → List β → α) : lcs n c [] = n := rfl
@[simp] theorem lcs_cons {β : Type} (n : α) (c : β → List β → α) (x xs) : lcs n c (x :: xs) = c x xs := rfl
end

/-! ### lists -/
section
variable {β : Type}
def nth (l : List β) (n : Nat) : Option β := List.rec (motive := fun _ => Nat → Option β) (fun _ => none) (fun x _ ih n => Nat.rec (motive := fun _ => Option β) (some x) (fun m _ => ih m) n) l n
theorem nth_eq : ∀ (l : List β) (n : Nat), nth l n = l[n]?
  | [], n => by simp [nth]
  | x :: l, 0 => rfl
  | x :: l, n + 1 => (nth_eq l n).trans (by simp)
/-- the list with place n set; k what follows -/
def setK {α : Type} (l : List β) (n : Nat) (v : β) (k : List β → α) : α :=
  List.rec (motive := fun _ => Nat → (List β → α) → α) (fun _ k => k []) (fun x t ih n k => Nat.rec (motive := fun _ => α) (k (v :: t)) (fun m _ => ih m fun r => k (x :: r)) n) l n k
theorem setK_eq {α : Type} (v : β) : ∀ (l : List β) (n : Nat) (k : List β → α), setK l n v k = k (l.set n v)
  | [], n, k => by simp [setK]
  | x :: l, 0, k => rfl
  | x :: l, n + 1, k => setK_eq v l n fun r => k (x :: r)
def appK {α : Type} (l r : List β) (k : List β → α) : α := List.rec (motive := fun _ => (List β → α) → α) (fun k => k r) (fun x _ ih k => ih fun t => k (x :: t)) l k
theorem appK_eq {α : Type} (r : List β) : ∀ (l : List β) (k : List β → α), appK l r k = k (l ++ r)
  | [], k => rfl
  | x :: l, k => appK_eq r l fun t => k (x :: t)
/-- reversed l, then acc -/
def revA (l acc : List β) : List β := List.rec (motive := fun _ => List β → List β) (fun acc => acc) (fun x _ ih acc => ih (x :: acc)) l acc
theorem revA_eq : ∀ (l acc : List β), revA l acc = l.reverse ++ acc
  | [], acc => rfl
  | x :: l, acc => by
    show revA l (x :: acc) = _
    rw [revA_eq l (x :: acc)]; simp
def len (l : List β) : Nat := List.rec (motive := fun _ => Nat → Nat) (fun n => n) (fun _ _ ih n => ih (Nat.succ n)) l 0
theorem len_go : ∀ (l : List β) (n : Nat), List.rec (motive := fun _ => Nat → Nat) (fun n => n) (fun _ _ ih n => ih (Nat.succ n)) l n = n + l.length
  | [], n => rfl
  | x :: l, n => (len_go l (n + 1)).trans (by simp; omega)
theorem len_eq (l : List β) : len l = l.length := (len_go l 0).trans (by simp)
def dropN (l : List β) (n : Nat) : List β := List.rec (motive := fun _ => Nat → List β) (fun _ => []) (fun x t ih n => Nat.rec (motive := fun _ => List β) (x :: t) (fun m _ => ih m) n) l n
theorem dropN_eq : ∀ (l : List β) (n : Nat), dropN l n = l.drop n
  | [], n => by simp [dropN]
  | x :: l, 0 => rfl
  | x :: l, n + 1 => dropN_eq l n
def takeK {α : Type} (l : List β) (n : Nat) (k : List β → α) : α :=
  List.rec (motive := fun _ => Nat → (List β → α) → α) (fun _ k => k []) (fun x t ih n k => Nat.rec (motive := fun _ => α) (k []) (fun m _ => ih m fun r => k (x :: r)) n) l n k
theorem takeK_eq {α : Type} : ∀ (l : List β) (n : Nat) (k : List β → α), takeK l n k = k (l.take n)
  | [], n, k => by simp [takeK]
  | x :: l, 0, k => rfl
  | x :: l, n + 1, k => takeK_eq l n fun r => k (x :: r)
def allB (f : β → Bool) (l : List β) : Bool := List.rec true (fun x _ ih => bcs ih false (f x)) l
theorem allB_eq (f : β → Bool) : ∀ l : List β, allB f l = l.all f
  | [] => rfl
  | x :: l => by
    show bcs (allB f l) false (f x) = _
    rw [allB_eq f l]
    cases h : f x <;> simp [h]
end

/-! ### numbers -/
def fN {α : Type} (k : Nat → α) (n : Nat) : α := Nat.rec (motive := fun _ => α) (k 0) (fun m _ => k (Nat.succ m)) n
theorem fN_eq {α : Type} (k : Nat → α) (n : Nat) : fN k n = k n := by cases n <;> rfl
def fI {α : Type} (k : Int → α) (i : Int) : α := Int.rec (motive := fun _ => α) (fun n => fN (fun n => k (.ofNat n)) n) (fun n => fN (fun n => k (.negSucc n)) n) i
theorem fI_eq {α : Type} (k : Int → α) (i : Int) : fI k i = k i := by
  cases i with
  | ofNat n => exact fN_eq (fun n => k (.ofNat n)) n
  | negSucc n => exact fN_eq (fun n => k (.negSucc n)) n
def fB {α : Type} (k : Bool → α) (b : Bool) : α := bcs (k true) (k false) b
theorem fB_eq {α : Type} (k : Bool → α) (b : Bool) : fB k b = k b := by cases b <;> rfl
def ltI (i j : Int) : Bool := Int.rec (motive := fun _ => Bool) (fun a => Int.rec (motive := fun _ => Bool) (fun b => Nat.ble (Nat.succ a) b) (fun _ => false) j)
  (fun a => Int.rec (motive := fun _ => Bool) (fun _ => true) (fun b => Nat.ble (Nat.succ b) a) j) i
theorem ltI_eq (i j : Int) : ltI i j = decide (i < j) := by
  cases i <;> cases j
  · rename_i a b
    show Nat.ble (Nat.succ a) b = _
    rw [Bool.eq_iff_iff, Nat.ble_eq, decide_eq_true_iff]; simp only [Int.ofNat_eq_natCast]; omega
  · symm; rw [show ltI (Int.ofNat _) (Int.negSucc _) = false from rfl, decide_eq_false_iff_not]; simp only [Int.ofNat_eq_natCast]; omega
  · symm; rw [show ltI (Int.negSucc _) (Int.ofNat _) = true from rfl, decide_eq_true_iff]; simp only [Int.ofNat_eq_natCast]; omega
  · rename_i a b
    show Nat.ble (Nat.succ b) a = _
    rw [Bool.eq_iff_iff, Nat.ble_eq, decide_eq_true_iff]; omega
def eqI (i j : Int) : Bool := Int.rec (motive := fun _ => Bool) (fun a => Int.rec (motive := fun _ => Bool) (fun b => Nat.beq a b) (fun _ => false) j)
  (fun a => Int.rec (motive := fun _ => Bool) (fun _ => false) (fun b => Nat.beq a b) j) i
theorem eqI_eq (i j : Int) : eqI i j = decide (i = j) := by
  cases i <;> cases j
  · rename_i a b
    show Nat.beq a b = _
    rw [Bool.eq_iff_iff, Nat.beq_eq, decide_eq_true_iff]; simp only [Int.ofNat_eq_natCast]; omega
  · symm; rw [show eqI (Int.ofNat _) (Int.negSucc _) = false from rfl, decide_eq_false_iff_not]; simp only [Int.ofNat_eq_natCast]; omega
  · symm; rw [show eqI (Int.negSucc _) (Int.ofNat _) = false from rfl, decide_eq_false_iff_not]; simp only [Int.ofNat_eq_natCast]; omega
  · rename_i a b
    show Nat.beq a b = _
    rw [Bool.eq_iff_iff, Nat.beq_eq, decide_eq_true_iff]; omega

/-! ### values -/
def isPure (v : PV) : Bool := PV.cs true (fun _ => true) (fun _ => true) (fun _ => true) (fun _ => true) (fun _ => false) (fun _ => false) false false v
def mkTup (xs : List PV) : PV := bcs (.tup xs) (.mtup xs) (allB isPure xs)
/-- equal pure values, to a depth; none where the kinds are unlike in a way that is not decided here -/
def okV (v : PV) (h : MH) : Rs := PV.cs (.ok .non h) (fun b => .ok (.bl b) h) (fun i => .ok (.int i) h) (fun x => .ok (.str x) h) (fun xs => .ok (.tup xs) h) (fun xs => .ok (.mtup xs) h) (fun n => .ok (.ref n) h) (.ok .opq h) .bad v
theorem okV_ok {v : PV} {h : MH} (e : v ≠ .un) : okV v h = .ok v h := by cases v <;> first | rfl | exact absurd rfl e
def okI (i : Int) (h : MH) : Rs := fI (fun i => .ok (.int i) h) i
theorem okI_eq (i : Int) (h : MH) : okI i h = .ok (.int i) h := fI_eq _ _
def okB (b : Bool) (h : MH) : Rs := fB (fun b => .ok (.bl b) h) b
theorem okB_eq (b : Bool) (h : MH) : okB b h = .ok (.bl b) h := fB_eq _ _
/-- a new object -/
def allocK (o : HObj) (h : MH) : Rs := fN (fun n => appK h [o] fun h' => .ok (.ref n) h') (len h)
theorem allocK_eq (o : HObj) (h : MH) : allocK o h = .ok (.ref h.length) (h ++ [o]) := by
  unfold allocK
  rw [fN_eq, appK_eq, len_eq]
def asI {α : Type} (k : Int → α) (d : α) (v : PV) : α := PV.cs d (fun _ => d) k (fun _ => d) (fun _ => d) (fun _ => d) (fun _ => d) d d v
def asB {α : Type} (k : Bool → α) (d : α) (v : PV) : α := PV.cs d k (fun _ => d) (fun _ => d) (fun _ => d) (fun _ => d) (fun _ => d) d d v
def asR {α : Type} (k : Nat → α) (d : α) (v : PV) : α := PV.cs d (fun _ => d) (fun _ => d) (fun _ => d) (fun _ => d) (fun _ => d) k d d v
/-- the items of a tuple -/
def asT {α : Type} (k : List PV → α) (d : α) (v : PV) : α := PV.cs d (fun _ => d) (fun _ => d) (fun _ => d) k k (fun _ => d) d d v
def lstAt {α : Type} (k : List PV → α) (d : α) (h : MH) (n : Nat) : α := ocs (fun o => HObj.cs k (fun _ => d) o) d (nth h n)
/-- the items of a tuple or a list -/
def asQ {α : Type} (k : List PV → α) (d : α) (h : MH) (v : PV) : α := PV.cs d (fun _ => d) (fun _ => d) (fun _ => d) k k (fun n => lstAt k d h n) d d v

end
end Tn

set_option maxHeartbeats 4000000
/-! the evaluator: codes -/
namespace Tn
open PySem
noncomputable section

def bnd (r : Rs) (f : PV → MH → Rs) : Rs := Rs.cs f .ex .bad r
def bndL (r : Rl) (f : List PV → MH → Rs) : Rs := Rl.cs f .ex .bad r
def bndRL (r : Rs) (f : PV → MH → Rl) : Rl := Rs.cs f .ex .bad r
def bndLL (r : Rl) (f : List PV → MH → Rl) : Rl := Rl.cs f .ex .bad r
def bndO (r : Rs) (f : PV → MH → Out) : Out := Rs.cs f .ex .bad r
def bndLO (r : Rl) (f : List PV → MH → Out) : Out := Rl.cs f .ex .bad r

def lim {α : Type} (n : Nat) (k d : α) : α := bcs k d (Nat.ble n 16777216)
theorem lim_cases {α : Type} {n : Nat} {k d r : α} (h : lim n k d = r) : (n ≤ 16777216 ∧ k = r) ∨ d = r := by
  unfold lim at h
  cases e : Nat.ble n 16777216 with
  | true => rw [e] at h; exact .inl ⟨Nat.le_of_ble_eq_true e, h⟩
  | false => rw [e] at h; exact .inr h

/-! ### shapes and equality of pure values -/
/-- no text, no ref within, depth at most d -/
def shp (d : Nat) : PV → Bool := Nat.rec (motive := fun _ => PV → Bool)
  (fun v => PV.cs true (fun _ => true) (fun _ => true) (fun _ => false) (fun xs => lcs true (fun _ _ => false) xs) (fun _ => false) (fun _ => false) false false v)
  (fun _ ih v => PV.cs true (fun _ => true) (fun _ => true) (fun _ => false) (fun xs => allB ih xs) (fun _ => false) (fun _ => false) false false v) d
def b2I (b : Bool) : Int := bcs 1 0 b
def eqL (f : PV → PV → Bool) (xs : List PV) : List PV → Bool := List.rec (motive := fun _ => List PV → Bool) (fun ys => lcs true (fun _ _ => false) ys)
  (fun x _ ih ys => lcs false (fun y t => bcs (ih t) false (f x y)) ys) xs
def beqB (a b : Bool) : Bool := bcs b (bcs false true b) a
def eqV (d : Nat) : PV → PV → Bool := Nat.rec (motive := fun _ => PV → PV → Bool)
  (fun x y => PV.cs (PV.cs true (fun _ => false) (fun _ => false) (fun _ => false) (fun _ => false) (fun _ => false) (fun _ => false) false false y)
    (fun a => PV.cs false (fun b => beqB a b) (fun j => eqI (b2I a) j) (fun _ => false) (fun _ => false) (fun _ => false) (fun _ => false) false false y)
    (fun i => PV.cs false (fun b => eqI i (b2I b)) (fun j => eqI i j) (fun _ => false) (fun _ => false) (fun _ => false) (fun _ => false) false false y)
    (fun _ => false)
    (fun xs => PV.cs false (fun _ => false) (fun _ => false) (fun _ => false) (fun ys => eqL (fun _ _ => false) xs ys) (fun _ => false) (fun _ => false) false false y)
    (fun _ => false) (fun _ => false) false false x)
  (fun _ ih x y => PV.cs (PV.cs true (fun _ => false) (fun _ => false) (fun _ => false) (fun _ => false) (fun _ => false) (fun _ => false) false false y)
    (fun a => PV.cs false (fun b => beqB a b) (fun j => eqI (b2I a) j) (fun _ => false) (fun _ => false) (fun _ => false) (fun _ => false) false false y)
    (fun i => PV.cs false (fun b => eqI i (b2I b)) (fun j => eqI i j) (fun _ => false) (fun _ => false) (fun _ => false) (fun _ => false) false false y)
    (fun _ => false)
    (fun xs => PV.cs false (fun _ => false) (fun _ => false) (fun _ => false) (fun ys => eqL ih xs ys) (fun _ => false) (fun _ => false) false false y)
    (fun _ => false) (fun _ => false) false false x) d
/-- x == y where it is decided: neg turns it about -/
def ngB (neg b : Bool) : Bool := bcs (bcs false true b) b neg
def opEq (neg : Bool) (x y : PV) (h : MH) : Rs :=
  PV.cs
    (bcs (okB (ngB neg (eqV 8 x y)) h) .bad (shp 8 y))
    (fun _ => bcs (okB (ngB neg (eqV 8 x y)) h) .bad (shp 8 y))
    (fun i => asI (fun j => okB (ngB neg (eqI i j)) h) (bcs (okB (ngB neg (eqV 8 x y)) h) .bad (shp 8 y)) y)
    (fun a => PV.cs .bad (fun _ => .bad) (fun _ => .bad) (fun b => okB (ngB neg (decide (a = b))) h) (fun _ => .bad) (fun _ => .bad) (fun _ => .bad) .bad .bad y)
    (fun _ => bcs (bcs (okB (ngB neg (eqV 8 x y)) h) .bad (shp 8 y)) .bad (shp 8 x))
    (fun _ => .bad)
    (fun n => asR (fun m => lstAt (fun xs => lstAt (fun ys => bcs (bcs (okB (ngB neg (eqL (eqV 8) xs ys)) h) .bad (allB (shp 8) ys)) .bad (allB (shp 8) xs)) .bad h m) .bad h n) .bad y)
    .bad .bad x

/-! ### operators -/
def opI2 (f : Int → Int → MH → Rs) (x y : PV) (h : MH) : Rs := asI (fun i => asI (fun j => f i j h) .bad y) .bad x
def catT (xs ys : List PV) (h : MH) : Rs := lim (len xs + len ys) (appK xs ys fun r => okV (mkTup r) h) .bad
def opAdd (x y : PV) (h : MH) : Rs :=
  PV.cs .bad (fun _ => .bad) (fun i => asI (fun j => okI (Int.add i j) h) .bad y) (fun _ => .bad)
    (fun xs => asT (fun ys => catT xs ys h) .bad y) (fun xs => asT (fun ys => catT xs ys h) .bad y)
    (fun n => asR (fun m => lstAt (fun xs => lstAt (fun ys => lim (len xs + len ys) (appK xs ys fun r => allocK (.lst r) h) .bad) .bad h m) .bad h n) .bad y) .bad .bad x
def opSub : PV → PV → MH → Rs := opI2 fun i j h => okI (Int.sub i j) h
def small (i : Int) : Bool := Nat.ble (Int.natAbs i) 1000000000000
def small30 (i : Int) : Bool := Nat.ble (Int.natAbs i) 1000000000
def nz (i : Int) : Bool := bcs false true (eqI i 0)
def opMulI (i j : Int) (h : MH) : Rs := bcs (okI (Int.mul i j) h) (bcs (okI (Int.mul i j) h) .bad (small j)) (small i)
def repK {α : Type} (xs : List PV) (k : List PV → α) (n : Nat) : α := Nat.rec (motive := fun _ => (List PV → α) → α) (fun k => k []) (fun _ ih k => ih fun r => appK xs r k) n k
def opMul (x y : PV) (h : MH) : Rs :=
  PV.cs .bad (fun _ => .bad) (fun i => asI (fun j => opMulI i j h) .bad y) (fun _ => .bad) (fun _ => .bad) (fun _ => .bad)
    (fun n => asI (fun j => lstAt (fun xs => bcs (lim (Nat.mul (len xs) (Int.toNat j)) (repK xs (fun r => allocK (.lst r) h) (Int.toNat j)) .bad) .bad (small j)) .bad h n) .bad y) .bad .bad x
def opDiv : PV → PV → MH → Rs := opI2 fun i j h => bcs (bcs (okI (Int.fdiv i j) h) .bad (small30 j)) .bad (nz j)
def opMod : PV → PV → MH → Rs := opI2 fun i j h => bcs (okI (Int.fmod i j) h) .bad (nz j)
def opLt : PV → PV → MH → Rs := opI2 fun i j h => okB (ltI i j) h
def opLe : PV → PV → MH → Rs := opI2 fun i j h => okB (ngB true (ltI j i)) h
def opGt : PV → PV → MH → Rs := opI2 fun i j h => okB (ltI j i) h
def opGe : PV → PV → MH → Rs := opI2 fun i j h => okB (ngB true (ltI i j)) h
def opIsN (neg : Bool) (x y : PV) (h : MH) : Rs :=
  PV.cs (PV.cs (okB (ngB neg true) h) (fun _ => okB (ngB neg false) h) (fun _ => okB (ngB neg false) h) (fun _ => okB (ngB neg false) h) (fun _ => okB (ngB neg false) h) (fun _ => okB (ngB neg false) h) (fun _ => okB (ngB neg false) h) .bad .bad x)
    (fun _ => .bad) (fun _ => .bad) (fun _ => .bad) (fun _ => .bad) (fun _ => .bad) (fun _ => .bad) .bad .bad y
/-- is there an item equal to x: pure items -/
def anyEq (x : PV) (xs : List PV) : Bool := List.rec false (fun y _ ih => bcs true ih (eqV 8 y x)) xs
def keyEqI (i : Int) (v : PV) : Bool := asI (fun j => eqI j i) false v
def hasKeyI (i : Int) (kvs : List (PV × PV)) : Bool := List.rec false (fun p _ ih => bcs true ih (keyEqI i p.1)) kvs
def flatP (v : PV) : Bool := PV.cs true (fun _ => true) (fun _ => true) (fun _ => false) (fun _ => false) (fun _ => false) (fun _ => false) false false v
def opInU (neg : Bool) (x y : PV) (h : MH) : Rs :=
  PV.cs .bad (fun _ => .bad) (fun _ => .bad) (fun _ => .bad)
    (fun ys => bcs (bcs (okB (ngB neg (anyEq x ys)) h) .bad (allB flatP ys)) .bad (flatP x))
    (fun _ => .bad)
    (fun n => ocs (fun o => HObj.cs
      (fun ys => bcs (bcs (okB (ngB neg (anyEq x ys)) h) .bad (allB (shp 8) ys)) .bad (shp 8 x))
      (fun kvs => asI (fun i => okB (ngB neg (hasKeyI i kvs)) h) .bad x) o) .bad (nth h n)) .bad .bad y

/-! ### expressions -/
def cVar (i : Nat) : EC := fun _ e h => ocs (fun v => okV v h) .bad (nth e i)
def cC (v : PV) : EC := fun _ _ h => .ok v h
def cOp (op : PV → PV → MH → Rs) (a b : EC) : EC := fun c e h => bnd (a c e h) fun x h => bnd (b c e h) fun y h => op x y h
def cNeg (a : EC) : EC := fun c e h => bnd (a c e h) fun x h => asI (fun i => okI (Int.neg i) h) .bad x
def cNot (a : EC) : EC := fun c e h => bnd (a c e h) fun x h => asB (fun b => okB (ngB true b) h) .bad x
def cAnd (a b : EC) : EC := fun c e h => bnd (a c e h) fun x h => asB (fun t => bcs (b c e h) (.ok (.bl false) h) t) .bad x
def cOr (a b : EC) : EC := fun c e h => bnd (a c e h) fun x h => asB (fun t => bcs (.ok (.bl true) h) (b c e h) t) .bad x
def cIf (t a b : EC) : EC := fun c e h => bnd (t c e h) fun x h => asB (fun t => bcs (a c e h) (b c e h) t) .bad x
/-- a op1 b op2 d -/
def cChain (o1 o2 : PV → PV → MH → Rs) (a b d : EC) : EC := fun c e h => bnd (a c e h) fun x h => bnd (b c e h) fun y h => bnd (o1 x y h) fun z h =>
  asB (fun t => bcs (bnd (d c e h) fun w h => o2 y w h) (.ok (.bl false) h) t) .bad z
def aNil : LC := fun _ _ h => .ok [] h
def aCons (a : EC) (t : LC) : LC := fun c e h => bndRL (a c e h) fun v h => bndLL (t c e h) fun vs h => .ok (v :: vs) h
def cTup (a : LC) : EC := fun c e h => bndL (a c e h) fun vs h => lim (len vs) (okV (mkTup vs) h) .bad
/-- a list that was made on the way gets its place -/
def cAll_ (a : LC) : EC := fun c e h => bndL (a c e h) fun vs h => allocK (.lst vs) h
/-- the elements of a list display -/
def lDisp (a : LC) : LC := fun c e h => bndLL (a c e h) fun vs h => lim (len vs) (.ok vs h) .bad
def ixI {α : Type} (xs : List PV) (i : Int) (k : PV → α) (d : α) : α :=
  Int.rec (motive := fun _ => α) (fun n => ocs k d (nth xs n)) (fun n => fN (fun l => bcs (ocs k d (nth xs (Nat.sub l (Nat.succ n)))) d (Nat.ble (Nat.succ n) l)) (len xs)) i
def cIdx (a b : EC) : EC := cOp (fun x y h => asI (fun i => asQ (fun xs => ixI xs i (fun v => okV v h) .bad) .bad h x) .bad y) a b
/-- a[lo:hi]: none: the end -/
def sIxN (n d : Nat) (o : Option Int) : Nat := ocs (fun i => Int.rec (motive := fun _ => Nat) (fun k => bcs k n (Nat.ble k n)) (fun k => Nat.sub n (Nat.succ k)) i) d o
def cutK {α : Type} (xs : List PV) (lo hi : Option Int) (k : List PV → α) : α :=
  fN (fun l => fN (fun a => fN (fun b => takeK (dropN xs a) (Nat.sub b a) k) (sIxN l l hi)) (sIxN l 0 lo)) (len xs)
def partC (o : Option EC) : CF → MEnv → MH → (Option Int → MH → Rs) → Rs := fun c e h k => ocs (fun a => bnd (a c e h) fun v h => asI (fun i => k (some i) h) .bad v) (k none h) o
def cSl (a : EC) (lo hi : Option EC) : EC := fun c e h => bnd (a c e h) fun x h => partC lo c e h fun l h => partC hi c e h fun u h =>
  PV.cs .bad (fun _ => .bad) (fun _ => .bad) (fun _ => .bad) (fun xs => cutK xs l u fun r => okV (mkTup r) h) (fun xs => cutK xs l u fun r => okV (mkTup r) h)
    (fun n => lstAt (fun xs => cutK xs l u fun r => allocK (.lst r) h) .bad h n) .bad .bad x
def cRev (a : EC) : EC := fun c e h => bnd (a c e h) fun x h =>
  PV.cs .bad (fun _ => .bad) (fun _ => .bad) (fun _ => .bad) (fun xs => .ok (.tup (revA xs [])) h) (fun _ => .bad)
    (fun n => lstAt (fun xs => allocK (.lst (revA xs [])) h) .bad h n) .bad .bad x
def cLen (a : EC) : EC := fun c e h => bnd (a c e h) fun x h => asQ (fun xs => okI (.ofNat (len xs)) h) .bad h x
def cLenL (a : LC) : EC := fun c e h => bndL (a c e h) fun xs h => okI (.ofNat (len xs)) h
def cAbs (a : EC) : EC := fun c e h => bnd (a c e h) fun x h => asI (fun i => okI (.ofNat (Int.natAbs i)) h) .bad x
def cInt (a : EC) : EC := fun c e h => bnd (a c e h) fun x h => PV.cs .bad (fun b => .ok (.int (b2I b)) h) (fun i => .ok (.int i) h) (fun _ => .bad) (fun _ => .bad) (fun _ => .bad) (fun _ => .bad) .bad .bad x
/-- tuple(x) -/
def cTupQ (a : EC) : EC := fun c e h => bnd (a c e h) fun x h => PV.cs .bad (fun _ => .bad) (fun _ => .bad) (fun _ => .bad) (fun xs => .ok (.tup xs) h) (fun xs => .ok (.mtup xs) h) (fun n => lstAt (fun xs => okV (mkTup xs) h) .bad h n) .bad .bad x
def cTupL (a : LC) : EC := fun c e h => bndL (a c e h) fun xs h => okV (mkTup xs) h
/-- list(x) -/
def lList (a : EC) : LC := fun c e h => bndRL (a c e h) fun x h => asQ (fun xs => .ok xs h) .bad h x
def allBl (xs : List PV) : Option Bool := List.rec (some true) (fun x _ ih => asB (fun b => ocs (fun t => some (bcs t false b)) none ih) none x) xs
def cAllL (a : LC) : EC := fun c e h => bndL (a c e h) fun xs h => ocs (fun b => okB b h) .bad (allBl xs)
/-- isinstance: the answers for None, bool, int, str, tuple, list -/
def cIsI (n b i s t l : Bool) (a : EC) : EC := fun c e h => bnd (a c e h) fun x h => PV.cs (.ok (.bl n) h) (fun _ => .ok (.bl b) h) (fun _ => .ok (.bl i) h) (fun _ => .ok (.bl s) h) (fun _ => .ok (.bl t) h) (fun _ => .ok (.bl t) h)
  (fun m => lstAt (fun _ => .ok (.bl l) h) .bad h m) .bad .bad x
def cMax (a b : EC) : EC := cOp (opI2 fun i j h => okI (bcs j i (ltI i j)) h) a b
def cDnew : EC := fun _ _ h => allocK (.dct []) h
def updH (h : MH) (n : Nat) (o : HObj) (v : PV) : Rs := setK h n o fun h' => .ok v h'
/-- l.append(x), l.pop(), l.index(x) -/
def cMet (k : PV → Nat → List PV → MH → Rs) (a b : EC) : EC := fun c e h => bnd (a c e h) fun x h => asR (fun n => lstAt (fun _ => bnd (b c e h) fun y h => lstAt (fun xs => k y n xs h) .bad h n) .bad h n) .bad x
def kApp (y : PV) (n : Nat) (xs : List PV) (h : MH) : Rs := bcs (appK xs [y] fun r => updH h n (.lst r) .non) .bad (Nat.ble (Nat.succ (len xs)) 16777216)
def cApp (a b : EC) : EC := cMet kApp a b
def lastK (xs : List PV) (h : MH) (n : Nat) : Rs := lcs .bad (fun v r => updH h n (.lst (revA r [])) v) (revA xs [])
def cPop (a : EC) : EC := fun c e h => bnd (a c e h) fun x h => asR (fun n => lstAt (fun xs => lastK xs h n) .bad h n) .bad x
def idxOf (x : PV) (xs : List PV) (h : MH) : Rs := List.rec (motive := fun _ => Nat → Rs) (fun _ => .bad) (fun y _ ih i => bcs (okI (.ofNat i) h) (fN (fun j => ih j) (Nat.succ i)) (eqV 8 y x)) xs 0
def kIdx (y : PV) (n : Nat) (xs : List PV) (h : MH) : Rs := bcs (bcs (idxOf y xs h) .bad (allB (shp 8) xs)) .bad (shp 8 y)
def cIndex (a b : EC) : EC := cMet kIdx a b

/-! ### calls -/
def handOver (c : CF) (f : Nat) (vs : List PV) (h h2 : MH) (v : PV) : Rs :=
  PV.cs (.ok v h) (fun _ => .ok v h) (fun _ => .ok v h) (fun _ => .ok v h) (fun _ => .ok v h) (fun _ => c f vs h)
    (fun n => lstAt (fun xs => bcs (allocK (.lst xs) h) (c f vs h) (allB isPure xs)) (c f vs h) h2 n) (c f vs h) .bad v
def callI (c : CF) (f : Nat) (vs : List PV) (h : MH) : Rs :=
  bcs (Rs.cs (fun v h2 => handOver c f vs h h2 v) (fun x _ => .ex x h) .bad (c f vs [])) (c f vs h) (allB isPure vs)
def cCall (f : Nat) (a : LC) : EC := fun c e h => bndL (a c e h) fun vs h => callI c f vs h
/-- in the whole heap at once -/
def cCallW (f : Nat) (a : LC) : EC := fun c e h => bndL (a c e h) fun vs h => c f vs h

/-! ### what is walked -/
inductive Src where
  | rng (lo st : Int) (n : Nat) | itm (vs : List PV) | lst (m : Nat) | ent (vs : List PV) | enl (m : Nat) | zpt (xs ys : List PV) | zpl (m k : Nat) | rvt (vs : List PV)
inductive It3 where
  | item (v : PV) | stop | bad
def Src.cs {α : Type} (f0 : Int → Int → Nat → α) (f1 : List PV → α) (f2 : Nat → α) (f3 : List PV → α) (f4 : Nat → α) (f5 : List PV → List PV → α) (f6 : Nat → Nat → α) (f7 : List PV → α) (s : Src) : α :=
  Src.rec f0 f1 f2 f3 f4 f5 f6 f7 s
def It3.cs {α : Type} (i : PV → α) (s b : α) (t : It3) : α := It3.rec i s b t
def itO (o : Option PV) : It3 := ocs .item .stop o
def pairV (x y : PV) : PV := mkTup [x, y]
def srcAt (s : Src) (i : Nat) (h : MH) : It3 := Src.cs
  (fun lo st n => bcs (fI (fun z => .item (.int z)) (Int.add lo (Int.mul (.ofNat i) st))) .stop (Nat.ble (Nat.succ i) n))
  (fun vs => itO (nth vs i))
  (fun m => lstAt (fun xs => itO (nth xs i)) .bad h m)
  (fun vs => ocs (fun v => .item (pairV (.int (.ofNat i)) v)) .stop (nth vs i))
  (fun m => lstAt (fun xs => ocs (fun v => .item (pairV (.int (.ofNat i)) v)) .stop (nth xs i)) .bad h m)
  (fun xs ys => ocs (fun x => ocs (fun y => .item (pairV x y)) .stop (nth ys i)) .stop (nth xs i))
  (fun m k => lstAt (fun xs => lstAt (fun ys => ocs (fun x => ocs (fun y => .item (pairV x y)) .stop (nth ys i)) .stop (nth xs i)) .bad h k) .bad h m)
  (fun vs => itO (nth vs i)) s
/-- what an iterable gives: k the rest -/
abbrev IC := CF → MEnv → MH → (Src → MH → Rl) → Rl
/-- targets: names, tuples of targets -/
abbrev TC := PV → MEnv → Option MEnv
abbrev TsC := List PV → MEnv → Option MEnv
def gN (i : Nat) : TC := fun v e => setK e i v some
def gsNil : TsC := fun vs e => lcs (some e) (fun _ _ => none) vs
def gsCons (t : TC) (u : TsC) : TsC := fun vs e => lcs none (fun v r => ocs (fun e => u r e) none (t v e)) vs
def gT (u : TsC) : TC := fun v e => asT (fun vs => u vs e) none v

inductive Rsrc where
  | ok (s : Src) (h : MH) | ex (c : Nat) (h : MH) | bad
def Rsrc.cs {α : Type} (o : Src → MH → α) (e : Nat → MH → α) (b : α) (r : Rsrc) : α := Rsrc.rec o e b r
abbrev WC := CF → MEnv → MH → Rsrc
def bndS (r : Rs) (f : PV → MH → Rsrc) : Rsrc := Rs.cs f .ex .bad r
def bndLS (r : Rl) (f : List PV → MH → Rsrc) : Rsrc := Rl.cs f .ex .bad r
def smallR (i : Int) : Bool := Nat.ble (Int.natAbs i) 1000000
def wRng1 (a : EC) : WC := fun c e h => bndS (a c e h) fun x h => asI (fun j => bcs (.ok (.rng 0 1 (Int.toNat j)) h) .bad (smallR j)) .bad x
def wRng2 (a b : EC) : WC := fun c e h => bndS (a c e h) fun x h => bndS (b c e h) fun y h => asI (fun i => asI (fun j => bcs (bcs (.ok (.rng i 1 (Int.toNat (Int.sub j i))) h) .bad (smallR i)) .bad (smallR j)) .bad y) .bad x
/-- a list or a tuple -/
def wSeq (a : EC) : WC := fun c e h => bndS (a c e h) fun x h => PV.cs .bad (fun _ => .bad) (fun _ => .bad) (fun _ => .bad) (fun xs => .ok (.itm xs) h) (fun xs => .ok (.itm xs) h) (fun n => lstAt (fun _ => .ok (.lst n) h) .bad h n) .bad .bad x
/-- a list made on the way -/
def wTmp (a : LC) : WC := fun c e h => bndLS (a c e h) fun xs h => .ok (.itm xs) h
def wEnum (a : EC) : WC := fun c e h => bndS (a c e h) fun x h => PV.cs .bad (fun _ => .bad) (fun _ => .bad) (fun _ => .bad) (fun xs => .ok (.ent xs) h) (fun xs => .ok (.ent xs) h) (fun n => lstAt (fun _ => .ok (.enl n) h) .bad h n) .bad .bad x
def wZip (a b : EC) : WC := fun c e h => bndS (a c e h) fun x h => bndS (b c e h) fun y h =>
  PV.cs .bad (fun _ => .bad) (fun _ => .bad) (fun _ => .bad) (fun xs => asT (fun ys => .ok (.zpt xs ys) h) .bad y) (fun xs => asT (fun ys => .ok (.zpt xs ys) h) .bad y)
    (fun n => asR (fun m => lstAt (fun _ => lstAt (fun _ => .ok (.zpl n m) h) .bad h m) .bad h n) .bad y) .bad .bad x

/-! ### comprehensions and loops -/
def fuelN : Nat := 100000
def cOut (r : Rs) (f : PV → MH → Rl) : Rl := Rs.cs f (fun _ _ => .bad) .bad r
/-- [elt for tg in s if t]; acc: what is made, turned about -/
def compK (tg : TC) (t : Option EC) (elt : EC) (c : CF) (e : MEnv) (s : Src) (fuel : Nat) : Nat → List PV → MH → Rl :=
  Nat.rec (motive := fun _ => Nat → List PV → MH → Rl) (fun _ _ _ => .bad) (fun _ ih i acc h =>
    It3.cs (fun v => ocs (fun e1 => ocs
        (fun tc => cOut (tc c e1 h) fun b h => asB (fun b => bcs (cOut (elt c e1 h) fun y h => bcs (fN (fun j => ih j (y :: acc) h) (Nat.succ i)) .bad (Nat.ble i 1000000)) (fN (fun j => ih j acc h) (Nat.succ i)) b) .bad b)
        (cOut (elt c e1 h) fun y h => bcs (fN (fun j => ih j (y :: acc) h) (Nat.succ i)) .bad (Nat.ble i 1000000)) t) .bad (tg v e))
      (.ok (revA acc []) h) .bad (srcAt s i h)) fuel
/-- the slots of a block's own names are without a value -/
def wipeK {α : Type} (own : List Nat) (e : MEnv) (k : MEnv → α) : α := List.rec (motive := fun _ => (MEnv → α) → α) (fun k => k e) (fun i _ ih k => ih fun e => setK e i .un k) own k
def lComp (own : List Nat) (w : WC) (tg : TC) (t : Option EC) (elt : EC) : LC := fun c e h => Rsrc.cs (fun s h => wipeK own e fun e => compK tg t elt c e s fuelN 0 [] h) .ex .bad (w c e h)

/-! ### statements -/
def sNil : SC := fun _ e h => .nx e h
def sSeq (a b : SC) : SC := fun c e h => Out.cs (fun e h => b c e h) .ret .ex .brk .cnt .bad (a c e h)
def sPass : SC := fun _ e h => .nx e h
def sBrk : SC := fun _ e h => .brk e h
def sCnt : SC := fun _ e h => .cnt e h
def sExpr (a : EC) : SC := fun c e h => bndO (a c e h) fun _ h => .nx e h
def sRet (a : EC) : SC := fun c e h => bndO (a c e h) fun v h => .ret v h
def sAsg (tg : TC) (a : EC) : SC := fun c e h => bndO (a c e h) fun v h => ocs (fun e => .nx e h) .bad (tg v e)
/-- a, b = x, y of local names -/
def sPar (u : TsC) (a : LC) : SC := fun c e h => bndLO (a c e h) fun vs h => ocs (fun e => .nx e h) .bad (u vs e)
def sIf (t : EC) (a b : SC) : SC := fun c e h => bndO (t c e h) fun v h => asB (fun t => bcs (a c e h) (b c e h) t) .bad v
def sRaise (x : Nat) : SC := fun _ _ h => .ex x h
/-- o[i] = v, the values told -/
def putL (h : MH) (n : Nat) (xs : List PV) (i : Int) (v : PV) (k : MH → Out) : Out :=
  Int.rec (motive := fun _ => Out) (fun j => bcs (setK xs j v fun r => setK h n (.lst r) k) .bad (Nat.ble (Nat.succ j) (len xs)))
    (fun j => fN (fun l => bcs (setK xs (Nat.sub l (Nat.succ j)) v fun r => setK h n (.lst r) k) .bad (Nat.ble (Nat.succ j) l)) (len xs)) i
def mapKI (kvs : List (PV × PV)) (i : Int) (v : PV) (k : List (PV × PV) → Out) : Out :=
  List.rec (motive := fun _ => (List (PV × PV) → Out) → Out) (fun k => k []) (fun p t ih k => bcs (ih fun r => k ((p.1, v) :: r)) (ih fun r => k (p :: r)) (keyEqI i p.1)) kvs k
def putKI (kvs : List (PV × PV)) (i : Int) (v : PV) (k : List (PV × PV) → Out) : Out := bcs (mapKI kvs i v k) (appK kvs [(.int i, v)] k) (hasKeyI i kvs)
def putQ (o i v : PV) (h : MH) (k : MH → Out) : Out := asR (fun n => ocs (fun ob => HObj.cs (fun xs => asI (fun i => putL h n xs i v k) .bad i)
  (fun kvs => asI (fun i => lim (Nat.succ (len kvs)) (putKI kvs i v fun r => setK h n (.dct r) k) .bad) .bad i) ob) .bad (nth h n)) .bad o
def sSub (o i a : EC) : SC := fun c e h => bndO (a c e h) fun v h => bndO (o c e h) fun o h => bndO (i c e h) fun i h => putQ o i v h fun h => .nx e h
/-- a[i], b[j] = tuple -/
def sSub2 (o1 i1 o2 i2 a : EC) : SC := fun c e h => bndO (a c e h) fun v h => asT (fun vs => lcs .bad (fun x r => lcs .bad (fun y r => lcs
  (bndO (o1 c e h) fun o h => bndO (i1 c e h) fun i h => putQ o i x h fun h => bndO (o2 c e h) fun o h => bndO (i2 c e h) fun i h => putQ o i y h fun h => .nx e h)
  (fun _ _ => .bad) r) r) vs) .bad v
/-- x op= a -/
def sAug (i : Nat) (op : PV → PV → MH → Rs) (a : EC) : SC := fun c e h => ocs (fun x => bndO (okV x h) fun x h => bndO (a c e h) fun y h => bndO (op x y h) fun z h => setK e i z fun e => .nx e h) .bad (nth e i)
def whileK (t : EC) (b : SC) (c : CF) (fuel : Nat) : MEnv → MH → Out :=
  Nat.rec (motive := fun _ => MEnv → MH → Out) (fun _ _ => .bad) (fun _ ih e h => bndO (t c e h) fun v h => asB (fun t => bcs (Out.cs ih .ret .ex .nx ih .bad (b c e h)) (.nx e h) t) .bad v) fuel
def sWhile (t : EC) (b : SC) : SC := fun c e h => whileK t b c fuelN e h
def forK (tg : TC) (b : SC) (c : CF) (s : Src) (fuel : Nat) : Nat → MEnv → MH → Out :=
  Nat.rec (motive := fun _ => Nat → MEnv → MH → Out) (fun _ _ _ => .bad) (fun _ ih i e h =>
    It3.cs (fun v => ocs (fun e1 => fN (fun j => Out.cs (ih j) .ret .ex .nx (ih j) .bad (b c e1 h)) (Nat.succ i)) .bad (tg v e)) (.nx e h) .bad (srcAt s i h)) fuel
def sFor (w : WC) (tg : TC) (b : SC) : SC := fun c e h => Rsrc.cs (fun s h => forK tg b c s fuelN 0 e h) .ex .bad (w c e h)
/-- try: b except class 0 as name i: name j = [t, True] -/
def hUnf (i j : Nat) (t : Str) : SC := fun _ e h => bcs (bndO (allocK (.lst [.str t, .bl true]) h) fun v h => setK e j v fun e => setK e i .un fun e => .nx e h) .bad (Nat.ble (Nat.succ i) (len e))
def sTry (b s : SC) : SC := fun c e h => Out.cs .nx .ret (fun x h => bcs (s c e h) .bad (Nat.beq 0 x)) .brk .cnt .bad (b c e h)

/-! ### defs -/
/-- a def: how many slots, its body -/
structure DefC where
  np : Nat
  ns : Nat
  body : SC
def padK {α : Type} (n : Nat) (k : List PV → α) : α := Nat.rec (motive := fun _ => (List PV → α) → α) (fun k => k []) (fun _ ih k => ih fun r => k (.un :: r)) n k
def runDef (d : DefC) (c : CF) (vs : List PV) (h : MH) : Rs := DefC.rec (motive := fun _ => Rs) (fun np ns body =>
  bcs (padK (Nat.sub ns np) fun p => appK vs p fun e => Out.cs (fun _ h => .ok .non h) .ok .ex (fun _ _ => .bad) (fun _ _ => .bad) .bad (body c e h)) .bad (Nat.beq (len vs) np)) d
/-- the table of defs; n levels of calls -/
def callN (tbl : List DefC) (n : Nat) : CF := Nat.rec (motive := fun _ => CF) (fun _ _ _ => .bad) (fun _ ih f vs h => ocs (fun d => runDef d ih vs h) .bad (nth tbl f)) n
end
end Tn

set_option maxHeartbeats 4000000
/-! what values of the evaluator stand for -/
namespace Tn
open PySem PySem.Spec PyProof.Rows L2
abbrev Fg := PySem.W.Frag
abbrev Rho := Nat → Option Addr

mutual
/-- pure values -/
inductive RP (K : Fg) (H : Hp) : PV → V → Prop
  | non : RP K H .non .non
  | bl (b : Bool) : RP K H (.bl b) (.bl b)
  | int (i : Int) : RP K H (.int i) (.int i)
  | str (x : Str) : RP K H (.str x) (.str x)
  | tup {xs : List PV} {a : Addr} {vs : List V} : SqT K H a vs → RPs K H xs vs → RP K H (.tup xs) (.ref a)
inductive RPs (K : Fg) (H : Hp) : List PV → List V → Prop
  | nil : RPs K H [] []
  | cons {v : PV} {vs : List PV} {x : V} {xs : List V} : RP K H v x → RPs K H vs xs → RPs K H (v :: vs) (x :: xs)
end
mutual
inductive RV (K : Fg) (ρ : Rho) (H : Hp) : PV → V → Prop
  | pure {v : PV} {x : V} : RP K H v x → RV K ρ H v x
  | ref {n : Nat} {a : Addr} : ρ n = some a → RV K ρ H (.ref n) (.ref a)
  | mtup {xs : List PV} {a : Addr} {vs : List V} : SqT K H a vs → RVs K ρ H xs vs → RV K ρ H (.mtup xs) (.ref a)
  | opq {x : V} : RV K ρ H .opq x
inductive RVs (K : Fg) (ρ : Rho) (H : Hp) : List PV → List V → Prop
  | nil : RVs K ρ H [] []
  | cons {v : PV} {vs : List PV} {x : V} {xs : List V} : RV K ρ H v x → RVs K ρ H vs xs → RVs K ρ H (v :: vs) (x :: xs)
end

/-- what a step leaves -/
structure Stp (ρ : Rho) (H : Hp) (ρ' : Rho) (H' : Hp) : Prop where
  inc : ∀ n a, ρ n = some a → ρ' n = some a
  keep : ∀ a o, H a = some o → (∀ n, ρ n ≠ some a) → H' a = some o
  live : ∀ a, H a ≠ none → H' a ≠ none
  tup : ∀ a vs, H a = some (.tup vs) → H' a = some (.tup vs)
  frz : ∀ a o u, H a = some (.frz o u) → H' a = some (.frz o u)
  fresh : ∀ n a, ρ' n = some a → ρ n = some a ∨ H a = none
theorem Stp.refl (ρ : Rho) (H : Hp) : Stp ρ H ρ H := ⟨fun _ _ h => h, fun _ _ h _ => h, fun _ h => h, fun _ _ h => h, fun _ _ _ h => h, fun _ _ h => .inl h⟩
theorem Stp.trans {ρ ρ1 ρ2 : Rho} {H H1 H2 : Hp} (a : Stp ρ H ρ1 H1) (b : Stp ρ1 H1 ρ2 H2) : Stp ρ H ρ2 H2 where
  inc := fun n x h => b.inc n x (a.inc n x h)
  keep := fun x o h hn => b.keep x o (a.keep x o h hn) fun n e => by
    rcases a.fresh n x e with q | q
    · exact hn n q
    · rw [h] at q; cases q
  live := fun x h => b.live x (a.live x h)
  tup := fun x vs h => b.tup x vs (a.tup x vs h)
  frz := fun x o u h => b.frz x o u (a.frz x o u h)
  fresh := fun n x h => by
    rcases b.fresh n x h with q | q
    · exact a.fresh n x q
    · right
      cases e : H x with
      | none => rfl
      | some o => exact absurd q (a.live x (by rw [e]; simp))
section
variable {K : Fg} {ρ ρ' : Rho} {H H' : Hp}
theorem Stp.sqt (s : Stp ρ H ρ' H') {a : Addr} {vs : List V} (h : SqT K H a vs) : SqT K H' a vs := by
  rcases h with (h | ⟨o, h⟩) | h
  · exact .inl (.inl (s.tup _ _ h))
  · exact .inl (.inr ⟨o, s.frz _ _ _ h⟩)
  · exact .inr h
mutual
theorem RP.step (s : Stp ρ H ρ' H') : ∀ {v : PV} {x : V}, RP K H v x → RP K H' v x
  | _, _, .non => .non
  | _, _, .bl b => .bl b
  | _, _, .int i => .int i
  | _, _, .str x => .str x
  | _, _, .tup a b => .tup (s.sqt a) (RPs.step s b)
theorem RPs.step (s : Stp ρ H ρ' H') : ∀ {v : List PV} {x : List V}, RPs K H v x → RPs K H' v x
  | _, _, .nil => .nil
  | _, _, .cons a b => .cons (RP.step s a) (RPs.step s b)
end
mutual
theorem RV.step (s : Stp ρ H ρ' H') : ∀ {v : PV} {x : V}, RV K ρ H v x → RV K ρ' H' v x
  | _, _, .pure a => .pure (a.step s)
  | _, _, .ref a => .ref (s.inc _ _ a)
  | _, _, .mtup a b => .mtup (s.sqt a) (RVs.step s b)
  | _, _, .opq => .opq
theorem RVs.step (s : Stp ρ H ρ' H') : ∀ {v : List PV} {x : List V}, RVs K ρ H v x → RVs K ρ' H' v x
  | _, _, .nil => .nil
  | _, _, .cons a b => .cons (RV.step s a) (RVs.step s b)
end
theorem RPs.length : ∀ {xs : List PV} {vs : List V}, RPs K H xs vs → xs.length = vs.length
  | _, _, .nil => rfl
  | _, _, .cons _ b => by simp [RPs.length b]
theorem RVs.length : ∀ {xs : List PV} {vs : List V}, RVs K ρ H xs vs → xs.length = vs.length
  | _, _, .nil => rfl
  | _, _, .cons _ b => by simp [RVs.length b]
theorem RPs.toV : ∀ {xs : List PV} {vs : List V}, RPs K H xs vs → RVs K ρ H xs vs
  | _, _, .nil => .nil
  | _, _, .cons a b => .cons (.pure a) (RPs.toV b)
theorem RVs.get : ∀ {xs : List PV} {vs : List V} {i : Nat} {v : PV}, RVs K ρ H xs vs → xs[i]? = some v → ∃ x, vs[i]? = some x ∧ RV K ρ H v x
  | _, _, _, _, .nil, h => by simp at h
  | _, _, 0, _, .cons a _, h => by simp at h; subst h; exact ⟨_, rfl, a⟩
  | _, _, i + 1, _, .cons _ b, h => by
    obtain ⟨x, h1, h2⟩ := RVs.get (i := i) b (by simpa using h)
    exact ⟨x, by simpa using h1, h2⟩
theorem RVs.getV : ∀ {xs : List PV} {vs : List V} {i : Nat} {x : V}, RVs K ρ H xs vs → vs[i]? = some x → ∃ v, xs[i]? = some v ∧ RV K ρ H v x
  | _, _, _, _, .nil, h => by simp at h
  | _, _, 0, _, .cons a _, h => by simp at h; subst h; exact ⟨_, rfl, a⟩
  | _, _, i + 1, _, .cons _ b, h => by
    obtain ⟨x, h1, h2⟩ := RVs.getV (i := i) b (by simpa using h)
    exact ⟨x, by simpa using h1, h2⟩
theorem RVs.append : ∀ {xs ys : List PV} {vs ws : List V}, RVs K ρ H xs vs → RVs K ρ H ys ws → RVs K ρ H (xs ++ ys) (vs ++ ws)
  | _, _, _, _, .nil, s => s
  | _, _, _, _, .cons a b, s => .cons a (RVs.append b s)
theorem RVs.set {v : PV} {x : V} (r : RV K ρ H v x) : ∀ {xs : List PV} {vs : List V} (i : Nat), RVs K ρ H xs vs → RVs K ρ H (xs.set i v) (vs.set i x)
  | _, _, _, .nil => .nil
  | _, _, 0, .cons _ b => .cons r b
  | _, _, i + 1, .cons a b => .cons a (RVs.set r i b)
theorem RVs.take : ∀ {xs : List PV} {vs : List V} (n : Nat), RVs K ρ H xs vs → RVs K ρ H (xs.take n) (vs.take n)
  | _, _, 0, _ => .nil
  | _, _, _ + 1, .nil => .nil
  | _, _, n + 1, .cons a b => .cons a (RVs.take n b)
theorem RVs.drop : ∀ {xs : List PV} {vs : List V} (n : Nat), RVs K ρ H xs vs → RVs K ρ H (xs.drop n) (vs.drop n)
  | _, _, 0, r => r
  | _, _, _ + 1, .nil => .nil
  | _, _, n + 1, .cons _ b => RVs.drop n b
theorem RVs.reverse {xs : List PV} {vs : List V} (r : RVs K ρ H xs vs) : RVs K ρ H xs.reverse vs.reverse := by
  induction xs generalizing vs with
  | nil => cases r; exact .nil
  | cons x xs ih =>
    cases r with
    | cons a b => rw [List.reverse_cons, List.reverse_cons]; exact (ih b).append (.cons a .nil)
theorem RVs.rep {xs : List PV} {vs : List V} (r : RVs K ρ H xs vs) : ∀ n : Nat, RVs K ρ H (List.replicate n xs).flatten (List.replicate n vs).flatten
  | 0 => .nil
  | n + 1 => by
    rw [List.replicate_succ, List.replicate_succ, List.flatten_cons, List.flatten_cons]
    exact r.append (RVs.rep r n)
/-- a pure value's -/
theorem RV.toP {v : PV} {x : V} (r : RV K ρ H v x) (p : isPure v = true) : RP K H v x := by
  cases r with
  | pure a => exact a
  | ref => cases p
  | mtup => cases p
  | opq => cases p
theorem RP.isP {v : PV} {x : V} (r : RP K H v x) : isPure v = true := by cases r <;> rfl
theorem RVs.toP : ∀ {xs : List PV} {vs : List V}, RVs K ρ H xs vs → xs.all isPure = true → RPs K H xs vs
  | _, _, .nil, _ => .nil
  | _, _, .cons a b, h => by
    simp only [List.all_cons, Bool.and_eq_true] at h
    exact .cons (a.toP h.1) (RVs.toP b h.2)
theorem mkTup_rel {xs : List PV} {vs : List V} {a : Addr} (r : RVs K ρ H xs vs) (h : SqT K H a vs) : RV K ρ H (mkTup xs) (.ref a) := by
  unfold mkTup
  rw [allB_eq]
  cases e : xs.all isPure with
  | true => exact .pure (.tup h (r.toP e))
  | false => exact .mtup h r
theorem mkTup_ne {xs : List PV} : mkTup xs ≠ .un := by
  unfold mkTup
  cases allB isPure xs <;> (intro h; cases h)

/-- an object of the small heap -/
inductive RO (K : Fg) (ρ : Rho) (H : Hp) : HObj → HO → Prop
  | lst {xs : List PV} {vs : List V} : RVs K ρ H xs vs → RO K ρ H (.lst xs) (.lst vs)
  | dk {kvs : List (PV × PV)} {ws : List (Key × V)} : (∀ p ∈ kvs, (∃ i, p.1 = .int i)) → RVs K ρ H (kvs.map Prod.fst) (ws.map fun w => kV w.1) → RVs K ρ H (kvs.map Prod.snd) (ws.map Prod.snd) → RO K ρ H (.dct kvs) (.dK ws)
theorem RO.step (s : Stp ρ H ρ' H') {o : HObj} {u : HO} (r : RO K ρ H o u) : RO K ρ' H' o u := by
  cases r with
  | lst a => exact .lst (a.step s)
  | dk p a b => exact .dk p (a.step s) (b.step s)
/-- the small heap -/
structure Rh (K : Fg) (ρ : Rho) (h : MH) (H : Hp) : Prop where
  at_ : ∀ n o, h[n]? = some o → ∃ a u, ρ n = some a ∧ H a = some u ∧ RO K ρ H o u
  inj : ∀ n m a, ρ n = some a → ρ m = some a → n = m
  dom : ∀ n a, ρ n = some a → n < h.length
/-- the slots -/
structure Re (K : Fg) (ρ : Rho) (H : Hp) (e : MEnv) (σ : L2.St) : Prop where
  len : e.length = σ.length
  get : ∀ (i : Nat) (v : PV), e[i]? = some v → v ≠ .un → ∃ x, σ[i]? = some (some x) ∧ RV K ρ H v x
theorem Re.step (s : Stp ρ H ρ' H') {e : MEnv} {σ : L2.St} (r : Re K ρ H e σ) : Re K ρ' H' e σ := ⟨r.len, fun i v h n =>
  let ⟨x, a, b⟩ := r.get i v h n
  ⟨x, a, b.step s⟩⟩
theorem Re.set {e : MEnv} {σ : L2.St} (r : Re K ρ H e σ) {i : Nat} {v : PV} {x : V} (q : RV K ρ H v x) : Re K ρ H (e.set i v) (σ.set i (some x)) := by
  refine ⟨by rw [List.length_set, List.length_set]; exact r.len, fun j w h n => ?_⟩
  by_cases hj : i = j
  · subst hj
    by_cases hi : i < e.length
    · rw [List.getElem?_set_self hi] at h
      cases h
      exact ⟨x, List.getElem?_set_self (by rw [← r.len]; exact hi), q⟩
    · rw [List.getElem?_eq_none (by rw [List.length_set]; omega)] at h; cases h
  · rw [List.getElem?_set_ne hj] at h
    obtain ⟨y, h1, h2⟩ := r.get j w h n
    exact ⟨y, by rw [List.getElem?_set_ne hj]; exact h1, h2⟩
end

/-! ### results that please -/
def SatR (r : Rs) (P : PV → MH → Prop) (E : Nat → MH → Prop) : Prop := match r with | .ok v h => P v h | .ex c h => E c h | .bad => False
def SatL (r : Rl) (P : List PV → MH → Prop) (E : Nat → MH → Prop) : Prop := match r with | .ok v h => P v h | .ex c h => E c h | .bad => False
def SatW (r : Rsrc) (P : Src → MH → Prop) (E : Nat → MH → Prop) : Prop := match r with | .ok v h => P v h | .ex c h => E c h | .bad => False
section
variable {P : PV → MH → Prop} {PL : List PV → MH → Prop} {PW : Src → MH → Prop} {E E' : Nat → MH → Prop}
theorem bnd_sat {r : Rs} {f : PV → MH → Rs} (h : SatR (bnd r f) P E) : SatR r (fun v h => SatR (f v h) P E) E := by cases r <;> exact h
theorem bndL_sat {r : Rl} {f : List PV → MH → Rs} (h : SatR (bndL r f) P E) : SatL r (fun v h => SatR (f v h) P E) E := by cases r <;> exact h
theorem bndRL_sat {r : Rs} {f : PV → MH → Rl} (h : SatL (bndRL r f) PL E) : SatR r (fun v h => SatL (f v h) PL E) E := by cases r <;> exact h
theorem bndLL_sat {r : Rl} {f : List PV → MH → Rl} (h : SatL (bndLL r f) PL E) : SatL r (fun v h => SatL (f v h) PL E) E := by cases r <;> exact h
theorem bndS_sat {r : Rs} {f : PV → MH → Rsrc} (h : SatW (bndS r f) PW E) : SatR r (fun v h => SatW (f v h) PW E) E := by cases r <;> exact h
theorem bndLS_sat {r : Rl} {f : List PV → MH → Rsrc} (h : SatW (bndLS r f) PW E) : SatL r (fun v h => SatW (f v h) PW E) E := by cases r <;> exact h
theorem SatR.mono {r : Rs} {P' : PV → MH → Prop} (h : SatR r P E) (p : ∀ v h, P v h → P' v h) (e : ∀ c h, E c h → E' c h) : SatR r P' E' := by
  cases r with
  | ok v h' => exact p _ _ h
  | ex c h' => exact e _ _ h
  | bad => exact h
theorem SatL.mono {r : Rl} {P' : List PV → MH → Prop} (h : SatL r PL E) (p : ∀ v h, PL v h → P' v h) (e : ∀ c h, E c h → E' c h) : SatL r P' E' := by
  cases r with
  | ok v h' => exact p _ _ h
  | ex c h' => exact e _ _ h
  | bad => exact h
end
end Tn

set_option maxHeartbeats 4000000
/-! the judgements of codes -/
namespace Tn
open PySem PySem.Spec PyProof.Rows L2

/-! ### the heap's steps -/
section
variable {K : Fg} {ρ ρ' : Rho} {H H' : Hp} {h : MH}
theorem upd_live {p : Addr} {u : HO} {a : Addr} (e : H a ≠ none) : upd H p u a ≠ none := by
  by_cases q : a = p
  · subst q; rw [upd_same]; simp
  · rw [upd_ne q]; exact e
/-- a new object that the small heap does not know -/
theorem stp_new {p : Addr} (u : HO) (hp : H p = none) : Stp ρ H ρ (upd H p u) :=
  ⟨fun _ _ e => e, fun a o e _ => by rw [upd_ne (ne_of_none e hp)]; exact e, fun a e => upd_live e, fun a vs e => by rw [upd_ne (ne_of_none e hp)]; exact e, fun a o x e => by rw [upd_ne (ne_of_none e hp)]; exact e, fun _ _ e => .inl e⟩
theorem rh_step (r : Rh K ρ h H) (s : Stp ρ H ρ H') (same : ∀ n a, ρ n = some a → H' a = H a) : Rh K ρ h H' :=
  ⟨fun n o e => let ⟨a, u, h1, h2, h3⟩ := r.at_ n o e; ⟨a, u, h1, by rw [same n a h1]; exact h2, h3.step s⟩, r.inj, r.dom⟩
theorem Rh.live (r : Rh K ρ h H) {n : Nat} {a : Addr} (e : ρ n = some a) : ∃ o u, h[n]? = some o ∧ H a = some u ∧ RO K ρ H o u := by
  have hn := r.dom n a e
  obtain ⟨b, u, h1, h2, h3⟩ := r.at_ n h[n] (List.getElem?_eq_getElem hn)
  rw [e] at h1; cases h1
  exact ⟨_, u, List.getElem?_eq_getElem hn, h2, h3⟩
theorem rh_new (r : Rh K ρ h H) {p : Addr} (u : HO) (hp : H p = none) : Rh K ρ h (upd H p u) :=
  rh_step r (stp_new u hp) fun n a e => by
    obtain ⟨o, u', _, h2, _⟩ := r.live e
    rw [upd_ne (ne_of_none h2 hp)]
/-- a new object of the small heap -/
def ext (ρ : Rho) (n : Nat) (a : Addr) : Rho := fun m => if m = n then some a else ρ m
theorem ext_same {n : Nat} {a : Addr} : ext ρ n a n = some a := by unfold ext; rw [if_pos rfl]
theorem ext_ne {n m : Nat} {a : Addr} (h : m ≠ n) : ext ρ n a m = ρ m := by unfold ext; rw [if_neg h]
mutual
theorem RV.inc (s : ∀ n a, ρ n = some a → ρ' n = some a) : ∀ {v : PV} {x : V}, RV K ρ H v x → RV K ρ' H v x
  | _, _, .pure a => .pure a
  | _, _, .ref a => .ref (s _ _ a)
  | _, _, .mtup a b => .mtup a (RVs.inc s b)
  | _, _, .opq => .opq
theorem RVs.inc (s : ∀ n a, ρ n = some a → ρ' n = some a) : ∀ {v : List PV} {x : List V}, RVs K ρ H v x → RVs K ρ' H v x
  | _, _, .nil => .nil
  | _, _, .cons a b => .cons (RV.inc s a) (RVs.inc s b)
end
theorem RO.inc (s : ∀ n a, ρ n = some a → ρ' n = some a) {o : HObj} {u : HO} (r : RO K ρ H o u) : RO K ρ' H o u := by
  cases r with
  | lst a => exact .lst (a.inc s)
  | dk p a b => exact .dk p (a.inc s) (b.inc s)
theorem ext_inc (r : Rh K ρ h H) {p : Addr} : ∀ n a, ρ n = some a → ext ρ h.length p n = some a := fun n a e => by rw [ext_ne (Nat.ne_of_lt (r.dom n a e))]; exact e
theorem rh_alloc (r : Rh K ρ h H) {p : Addr} {o : HObj} {u : HO} (hp : H p = some u) (np : ∀ n, ρ n ≠ some p) (ro : RO K ρ H o u) : Rh K (ext ρ h.length p) (h ++ [o]) H where
  at_ := fun n o' e => by
    by_cases q : n < h.length
    · rw [List.getElem?_append_left q] at e
      obtain ⟨a, u', h1, h2, h3⟩ := r.at_ n o' e
      exact ⟨a, u', by rw [ext_ne (Nat.ne_of_lt q)]; exact h1, h2, h3.inc (ext_inc r)⟩
    · have e2 : n = h.length := by
        have := (List.getElem?_eq_some_iff.mp e).1
        simp at this; omega
      subst e2
      rw [List.getElem?_append_right (Nat.le_refl _)] at e
      simp at e; subst e
      exact ⟨p, u, ext_same, hp, ro.inc (ext_inc r)⟩
  inj := fun n m a e1 e2 => by
    by_cases q1 : n = h.length <;> by_cases q2 : m = h.length
    · rw [q1, q2]
    · subst q1; rw [ext_same] at e1; cases e1; rw [ext_ne q2] at e2; exact absurd e2 (np m)
    · subst q2; rw [ext_same] at e2; cases e2; rw [ext_ne q1] at e1; exact absurd e1 (np n)
    · rw [ext_ne q1] at e1; rw [ext_ne q2] at e2; exact r.inj n m a e1 e2
  dom := fun n a e => by
    rw [List.length_append]
    by_cases q : n = h.length
    · subst q; simp
    · rw [ext_ne q] at e; have := r.dom n a e; simp; omega
/-- what was made on the way gets its place -/
theorem stp_adopt {ρ0 : Rho} {H0 : Hp} (s : Stp ρ0 H0 ρ H) (r : Rh K ρ h H) {p : Addr} (hp : H0 p = none) : Stp ρ0 H0 (ext ρ h.length p) H :=
  ⟨fun n a e => ext_inc r n a (s.inc n a e), s.keep, s.live, s.tup, s.frz, fun n a e => by
    by_cases q : n = h.length
    · subst q; rw [ext_same] at e; cases e; exact .inr hp
    · rw [ext_ne q] at e; exact s.fresh n a e⟩
/-- a fresh address is not known -/
theorem Rh.unk (r : Rh K ρ h H) {p : Addr} (hp : H p = none) : ∀ n, ρ n ≠ some p := fun n e => by
  obtain ⟨_, u, _, h2, _⟩ := r.live e
  rw [hp] at h2; cases h2
/-- laid and known at once -/
theorem stp_lay (r : Rh K ρ h H) {p : Addr} (u : HO) (hp : H p = none) : Stp ρ H (ext ρ h.length p) (upd H p u) := stp_adopt (stp_new u hp) (rh_new r u hp) hp
theorem rh_lay (r : Rh K ρ h H) {p : Addr} {o : HObj} {u : HO} (hp : H p = none) (ro : RO K ρ H o u) : Rh K (ext ρ h.length p) (h ++ [o]) (upd H p u) :=
  rh_alloc (rh_new r u hp) upd_same (r.unk hp) (ro.step (stp_new u hp))
/-- an object that is known is written -/
theorem stp_put (r : Rh K ρ h H) {n : Nat} {a : Addr} {u u' : HO} (e : ρ n = some a) (ha : H a = some u) (m : Mut (some u)) : Stp ρ H ρ (upd H a u') :=
  ⟨fun _ _ e => e, fun b o q hn => by rw [upd_ne (fun z => hn n (by rw [z]; exact e))]; exact q, fun b q => upd_live q,
    fun b vs q => by rw [upd_ne (fun z => by subst z; rw [ha] at q; cases q; exact m)]; exact q, fun b o x q => by rw [upd_ne (fun z => by subst z; rw [ha] at q; cases q; exact m)]; exact q, fun _ _ e => .inl e⟩
theorem rh_put (r : Rh K ρ h H) {n : Nat} {a : Addr} {u u' : HO} {o' : HObj} (e : ρ n = some a) (ha : H a = some u) (m : Mut (some u)) (ro : RO K ρ H o' u') : Rh K ρ (h.set n o') (upd H a u') where
  at_ := fun k o q => by
    by_cases hk : n = k
    · subst hk
      have hl := r.dom n a e
      rw [List.getElem?_set_self hl] at q
      cases q
      exact ⟨a, u', e, upd_same, ro.step (stp_put r e ha m)⟩
    · rw [List.getElem?_set_ne hk] at q
      obtain ⟨b, w, h1, h2, h3⟩ := r.at_ k o q
      exact ⟨b, w, h1, by rw [upd_ne (fun z => hk (r.inj n k a e (by rw [← z]; exact h1)))]; exact h2, h3.step (stp_put r e ha m)⟩
  inj := r.inj
  dom := fun k b q => by rw [List.length_set]; exact r.dom k b q
end

/-! ### readings -/
def FinV (K : Fg) (ρ : Rho) (H : Hp) (Q : VK) : PV → MH → Prop := fun v h' => ∀ ρ' H' x, Stp ρ H ρ' H' → Rh K ρ' h' H' → RV K ρ' H' v x → Q x H'
def FinA (K : Fg) (ρ : Rho) (H : Hp) (Q : List V → Hp → Prop) : List PV → MH → Prop := fun v h' => ∀ ρ' H' x, Stp ρ H ρ' H' → Rh K ρ' h' H' → RVs K ρ' H' v x → Q x H'
/-- a list made on the way, at an address that was free -/
def FinL (K : Fg) (ρ : Rho) (H : Hp) (Q : VK) : List PV → MH → Prop := fun vs h' => ∀ ρ' H' p xs, Stp ρ H ρ' H' → Rh K ρ' h' H' → H p = none → (∀ n, ρ' n ≠ some p) → H' p = some (.lst xs) → RVs K ρ' H' vs xs → Q (.ref p) H'
def FinB (K : Fg) (ρ : Rho) (H : Hp) (Q : Bool → Hp → Prop) : PV → MH → Prop := fun v h' => ∃ b, v = .bl b ∧ ∀ ρ' H', Stp ρ H ρ' H' → Rh K ρ' h' H' → Q b H'
def FinX (cls : Nat → Value) (K : Fg) (W : WX) (ρ : Rho) (H : Hp) (σ : L2.St) : Nat → MH → Prop := fun c h' => ∀ ρ' H', Stp ρ H ρ' H' → Rh K ρ' h' H' → W (cls c) none σ H'
section
variable {K : Fg} {ρ ρ1 : Rho} {H H1 : Hp} {Q : VK}
theorem FinV.reb (s : Stp ρ H ρ1 H1) {v : PV} {h : MH} (f : FinV K ρ H Q v h) : FinV K ρ1 H1 Q v h := fun ρ' H' x a b c => f ρ' H' x (s.trans a) b c
theorem FinA.reb (s : Stp ρ H ρ1 H1) {Q : List V → Hp → Prop} {v : List PV} {h : MH} (f : FinA K ρ H Q v h) : FinA K ρ1 H1 Q v h := fun ρ' H' x a b c => f ρ' H' x (s.trans a) b c
theorem Stp.none_of (s : Stp ρ H ρ1 H1) {p : Addr} (hp : H1 p = none) : H p = none := by
  cases e : H p with
  | none => rfl
  | some o => exact absurd hp (s.live p (by rw [e]; simp))
theorem FinL.reb (s : Stp ρ H ρ1 H1) {v : List PV} {h : MH} (f : FinL K ρ H Q v h) : FinL K ρ1 H1 Q v h := fun ρ' H' p xs a b c d e g => f ρ' H' p xs (s.trans a) b (s.none_of c) d e g
theorem FinB.reb (s : Stp ρ H ρ1 H1) {Q : Bool → Hp → Prop} {v : PV} {h : MH} (f : FinB K ρ H Q v h) : FinB K ρ1 H1 Q v h := let ⟨b, e, g⟩ := f; ⟨b, e, fun ρ' H' a c => g ρ' H' (s.trans a) c⟩
theorem FinX.reb (s : Stp ρ H ρ1 H1) {cls : Nat → Value} {W : WX} {σ : L2.St} {c : Nat} {h : MH} (f : FinX cls K W ρ H σ c h) : FinX cls K W ρ1 H1 σ c h := fun ρ' H' a b => f ρ' H' (s.trans a) b
end
/-- where one stands -/
structure At (K : Fg) (e : MEnv) (h : MH) (σ : L2.St) (ρ : Rho) (H : Hp) : Prop where
  rh : Rh K ρ h H
  re : Re K ρ H e σ
theorem At.go {K : Fg} {e : MEnv} {h h' : MH} {σ : L2.St} {ρ ρ' : Rho} {H H' : Hp} (a : At K e h σ ρ H) (s : Stp ρ H ρ' H') (r : Rh K ρ' h' H') : At K e h' σ ρ' H' := ⟨r, a.re.step s⟩
section
variable (cls : Nat → Value)
def tE (K : Fg) (W : WX) (c : CF) (a : EC) : TE := fun σ H Q => ∃ ρ h e, At K e h σ ρ H ∧ SatR (a c e h) (FinV K ρ H Q) (FinX cls K W ρ H σ)
def tA (K : Fg) (W : WX) (c : CF) (a : LC) : TA := fun σ H Q => ∃ ρ h e, At K e h σ ρ H ∧ SatL (a c e h) (FinA K ρ H Q) (FinX cls K W ρ H σ)
def tL (K : Fg) (W : WX) (c : CF) (a : LC) : TE := fun σ H Q => ∃ ρ h e, At K e h σ ρ H ∧ SatL (a c e h) (FinL K ρ H Q) (FinX cls K W ρ H σ)
def tT (K : Fg) (W : WX) (c : CF) (a : EC) : TT := fun σ H Q => ∃ ρ h e, At K e h σ ρ H ∧ SatR (a c e h) (FinB K ρ H Q) (FinX cls K W ρ H σ)
end
/-- what a def promises: the code's answer -/
def spF (cls : Nat → Value) (K : Fg) (c : CF) (f np : Nat) : Sp := fun vs H Q E => ∃ ρ h args, Rh K ρ h H ∧ RVs K ρ H args vs ∧ args.length = np ∧ SatR (c f args h) (FinV K ρ H Q) (fun x h' => ∀ ρ' H', Stp ρ H ρ' H' → Rh K ρ' h' H' → E (cls x) none H')

/-- what a module's name means -/
inductive Gm where
  | fn (f np : Nat) | cst (k : Nat) | cls (c : Nat) | blt
deriving DecidableEq
/-- where code is compiled: the slots, the scope, the names that may be stored, the module's names; sq: several statements may follow one another -/
structure CC where
  N : List Str
  sc : Scope
  stor : Str → Bool
  gl : Str → Option Gm
  lv : Nat
  sq : Bool
  sig : Nat → Arguments × List Str
  cv : List PV
structure Ctx (cls : Nat → Value) (C : CC) (X : Cx) (W : WX) (c : CF) : Prop where
  N : X.N = C.N
  sc : X.env.scope = C.sc
  nd : C.N.Nodup
  calm : X.calm = true
  tk : Takes X W
  pass : PassesOwn (model X.prog X.w) X.A X.env X.xe
  stor : ∀ x, C.stor x = true → X.fn x = true ∨ X.env.scope.names.lookup x = some .local
  room : Room C.lv X.A
  ind : C.sq = true → ∀ a d σ σ' H, W a d σ H → W a d σ' H
  fns : ∀ x f np, C.gl x = some (.fn f np) → ∃ addr fd ps, X.mg x = some (.ref addr) ∧ PySem.W.keepIn X.K (.ref addr) = true ∧ L2.Binds X.K fd ps [] ∧ FnOk X.prog X.w X.K X.mg X.base (L2.CX X.prog X.w) C.lv addr fd ps (spF cls X.K c f np) ∧ ps = (C.sig f).2 ∧ ∃ (nm qual : Str) (body : List Stmt) (sc : Scope) (kV doc pm : Value) (an : Option Addr) (cdv ct : Value), fd = PySem.W.fnOf nm qual (C.sig f).1 body sc .none kV doc pm an cdv ct
  csts : ∀ x k v, C.gl x = some (.cst k) → C.cv[k]? = some v → ∃ u xv, X.mg x = some u ∧ RelV xv u ∧ ∀ H, RP X.K H v xv
  blts : ∀ x, C.gl x = some .blt → X.mg x = none
  clss : ∀ x k, C.gl x = some (.cls k) → ∃ (Cl : Addr) (bmB : List Value) (B newId initId : String), ExcBaseFacts B newId initId bmB ∧ PySem.W.excIn X.K Cl bmB newId = true ∧ X.mg x = some (.ref Cl) ∧ PySem.W.keepIn X.K (.ref Cl) = true ∧ Raises X (.ref Cl) ∧ cls k = .ref Cl
  hnd : ∃ Cl : Addr, cls 0 = .ref Cl ∧ PySem.W.exmOne X.K (.ref Cl) (.ref Cl) = some true ∧ ExcC X.K Cl ∧ PySem.W.kitOne X.K (.ref Cl) (.type "ValueError") = some true
  fr : C.sq = true → X.stack = X.env :: X.outer ∧ X.env.frame = some X.env.locals
variable {cls : Nat → Value}
def OE (cls : Nat → Value) (C : CC) (e : Expr) (a : EC) : Prop := ∀ X W c, Ctx cls C X W c → PE X e (tE cls X.K W c a)
def OT (cls : Nat → Value) (C : CC) (e : Expr) (a : EC) : Prop := ∀ X W c, Ctx cls C X W c → PT X e (tT cls X.K W c a)
def OA (cls : Nat → Value) (C : CC) (es : List Expr) (a : LC) : Prop := ∀ X W c, Ctx cls C X W c → PA X es (tA cls X.K W c a)
def OL (cls : Nat → Value) (C : CC) (e : Expr) (a : LC) : Prop := ∀ X W c, Ctx cls C X W c → PE X e (tL cls X.K W c a)

theorem PE.imp {X : Cx} {e : Expr} {t u : TE} (p : PE X e t) (h : ∀ σ H Q, u σ H Q → t σ H Q) : PE X e u := ⟨fun pins s σ H Q I q => p.run pins s σ H Q I (h σ H Q q)⟩
theorem PT.imp {X : Cx} {e : Expr} {t u : TT} (p : PT X e t) (h : ∀ σ H Q, u σ H Q → t σ H Q) : PT X e u := ⟨fun pins s σ H Q I q => p.run pins s σ H Q I (h σ H Q q)⟩
theorem PA.imp {X : Cx} {e : List Expr} {t u : TA} (p : PA X e t) (h : ∀ σ H Q, u σ H Q → t σ H Q) : PA X e u := ⟨fun pos pins s σ H Q I q => p.run pos pins s σ H Q I (h σ H Q q)⟩

/-! ### operators by values -/
/-- a two-place code stands for a reading -/
def OpK (f : PV → PV → MH → Rs) (r : Fg → R2) : Prop := ∀ (K : Fg) (ρ : Rho) (h : MH) (H : Hp) (v w : PV) (x y : V) (Q : VK) (E : Nat → MH → Prop), Rh K ρ h H → RV K ρ H v x → RV K ρ H w y → SatR (f v w h) (FinV K ρ H Q) E → r K x y H Q
section
variable {C : CC} {a b : Expr} {ca cb : EC} {f : PV → PV → MH → Rs} {r : Fg → R2} {pos : Pos}
theorem two_of (hf : OpK f r) {X : Cx} {W : WX} {c : CF} {σ : L2.St} {H : Hp} {Q : VK} (t : tE cls X.K W c (cOp f ca cb) σ H Q) : tOp (r X.K) (tE cls X.K W c ca) (tE cls X.K W c cb) σ H Q := by
  obtain ⟨ρ, h, e, at_, sat⟩ := t
  refine ⟨ρ, h, e, at_, (bnd_sat sat).mono (fun v h1 s1 ρ1 H1 x st1 rh1 rv1 => ?_) fun _ _ q => q⟩
  refine ⟨ρ1, h1, e, at_.go st1 rh1, (bnd_sat s1).mono (fun w h2 s2 ρ2 H2 y st2 rh2 rv2 => ?_) fun _ _ q => q.reb st1⟩
  exact hf X.K ρ2 h2 H2 v w x y Q _ rh2 (rv1.step st2) rv2 (s2.mono (fun v h q => q.reb (st1.trans st2)) fun _ _ q => q)
theorem oe_op {op : Operator} (ho : ∀ X : Cx, X.A.units + 64 < cLine → OpR X (binaryOp op) (r X.K)) (hf : OpK f r) (ha : OE cls C a ca) (hb : OE cls C b cb) : OE cls C (.BinOp a op b pos) (cOp f ca cb) := fun X W c hc =>
  PE.imp (pe_op (ho X hc.room.units) (ha X W c hc) (hb X W c hc)) fun _ _ _ t => two_of hf t
end
end Tn

set_option maxHeartbeats 4000000
/-! operators -/
namespace Tn
open PySem PySem.Spec PyProof.Rows L2
section
variable {K : Fg} {ρ : Rho} {H : Hp} {h : MH} {x y : V} {Q : VK} {E : Nat → MH → Prop}
theorem rv_non (r : RV K ρ H .non x) : x = .non := by cases r with | pure r => cases r; rfl
theorem rv_bl {b : Bool} (r : RV K ρ H (.bl b) x) : x = .bl b := by cases r with | pure r => cases r; rfl
theorem rv_int {i : Int} (r : RV K ρ H (.int i) x) : x = .int i := by cases r with | pure r => cases r; rfl
theorem rv_str {z : Str} (r : RV K ρ H (.str z) x) : x = .str z := by cases r with | pure r => cases r; rfl
theorem rv_tup {xs : List PV} (r : RV K ρ H (.tup xs) x) : ∃ a vs, x = .ref a ∧ SqT K H a vs ∧ RPs K H xs vs := by
  cases r with
  | pure r => cases r with | tup a b => exact ⟨_, _, rfl, a, b⟩
theorem rv_mtup {xs : List PV} (r : RV K ρ H (.mtup xs) x) : ∃ a vs, x = .ref a ∧ SqT K H a vs ∧ RVs K ρ H xs vs := by
  cases r with
  | pure r => cases r
  | mtup a b => exact ⟨_, _, rfl, a, b⟩
theorem rv_ref {n : Nat} (r : RV K ρ H (.ref n) x) : ∃ a, x = .ref a ∧ ρ n = some a := by
  cases r with
  | pure r => cases r
  | ref a => exact ⟨_, rfl, a⟩
theorem rv_un (r : RV K ρ H .un x) : False := by
  cases r with
  | pure r => cases r
/-- a list of the small heap -/
theorem Rh.lstV (r : Rh K ρ h H) {n : Nat} {xs : List PV} {a : Addr} (e : h[n]? = some (.lst xs)) (ea : ρ n = some a) : ∃ vs, H a = some (.lst vs) ∧ RVs K ρ H xs vs := by
  obtain ⟨b, u, h1, h2, h3⟩ := r.at_ n _ e
  rw [ea] at h1; cases h1
  cases h3 with
  | lst q => exact ⟨_, h2, q⟩
theorem Rh.dctV (r : Rh K ρ h H) {n : Nat} {kvs : List (PV × PV)} {a : Addr} (e : h[n]? = some (.dct kvs)) (ea : ρ n = some a) : ∃ ws, H a = some (.dK ws) ∧ RO K ρ H (.dct kvs) (.dK ws) := by
  obtain ⟨b, u, h1, h2, h3⟩ := r.at_ n _ e
  rw [ea] at h1; cases h1
  cases h3 with
  | dk p a b => exact ⟨_, h2, .dk p a b⟩
theorem lstAt_eq {α : Type} {k : List PV → α} {d r : α} {n : Nat} (e : lstAt k d h n = r) : (∃ xs, h[n]? = some (.lst xs) ∧ k xs = r) ∨ d = r := by
  unfold lstAt at e
  rw [nth_eq] at e
  cases q : h[n]? with
  | none => rw [q] at e; exact .inr e
  | some o =>
    rw [q] at e
    cases o with
    | lst xs => exact .inl ⟨xs, rfl, e⟩
    | dct kvs => exact .inr e
/-! satisfaction, taken apart -/
abbrev S1 (P : PV → MH → Prop) (E : Nat → MH → Prop) (r : Rs) : Prop := SatR r P E
theorem sat_bad {P : PV → MH → Prop} (s : SatR .bad P E) : False := s
theorem sat_lim {P : PV → MH → Prop} {n : Nat} {r : Rs} (s : SatR (lim n r .bad) P E) : n ≤ 16777216 ∧ SatR r P E := by
  unfold lim at s
  cases e : Nat.ble n 16777216 with
  | true => rw [e] at s; exact ⟨Nat.le_of_ble_eq_true e, s⟩
  | false => rw [e] at s; exact s.elim
theorem sat_bcs {P : PV → MH → Prop} {b : Bool} {r : Rs} (s : SatR (bcs r .bad b) P E) : b = true ∧ SatR r P E := by
  cases b with
  | true => exact ⟨rfl, s⟩
  | false => exact s.elim
theorem sat_lst {P : PV → MH → Prop} {n : Nat} {k : List PV → Rs} (s : SatR (lstAt k .bad h n) P E) : ∃ xs, h[n]? = some (.lst xs) ∧ SatR (k xs) P E := by
  unfold lstAt at s
  rw [nth_eq] at s
  cases q : h[n]? with
  | none => rw [q] at s; exact s.elim
  | some o =>
    rw [q] at s
    cases o with
    | lst xs => exact ⟨xs, rfl, s⟩
    | dct kvs => exact s.elim
theorem sat_int {P : PV → MH → Prop} {v : PV} {k : Int → Rs} (s : SatR (asI k .bad v) P E) : ∃ i, v = .int i ∧ SatR (k i) P E := by
  cases v <;> first | exact ⟨_, rfl, s⟩ | exact s.elim
theorem sat_ref {P : PV → MH → Prop} {v : PV} {k : Nat → Rs} (s : SatR (asR k .bad v) P E) : ∃ i, v = .ref i ∧ SatR (k i) P E := by
  cases v <;> first | exact ⟨_, rfl, s⟩ | exact s.elim
theorem sat_bl {P : PV → MH → Prop} {v : PV} {k : Bool → Rs} (s : SatR (asB k .bad v) P E) : ∃ i, v = .bl i ∧ SatR (k i) P E := by
  cases v <;> first | exact ⟨_, rfl, s⟩ | exact s.elim
theorem sat_tup {P : PV → MH → Prop} {v : PV} {k : List PV → Rs} (r : RV K ρ H v x) (s : SatR (asT k .bad v) P E) : ∃ a xs vs, x = .ref a ∧ SqT K H a vs ∧ RVs K ρ H xs vs ∧ SatR (k xs) P E := by
  cases v with
  | tup xs =>
    obtain ⟨a, vs, e, h1, h2⟩ := rv_tup r
    exact ⟨a, xs, vs, e, h1, h2.toV, s⟩
  | mtup xs =>
    obtain ⟨a, vs, e, h1, h2⟩ := rv_mtup r
    exact ⟨a, xs, vs, e, h1, h2, s⟩
  | _ => exact s.elim
theorem sat_okI {i : Int} (rh : Rh K ρ h H) (s : SatR (okI i h) (FinV K ρ H Q) E) : Q (.int i) H := by
  rw [okI_eq] at s
  exact s ρ H _ (Stp.refl _ _) rh (.pure (.int i))
theorem sat_okB {b : Bool} (rh : Rh K ρ h H) (s : SatR (okB b h) (FinV K ρ H Q) E) : Q (.bl b) H := by
  rw [okB_eq] at s
  exact s ρ H _ (Stp.refl _ _) rh (.pure (.bl b))
/-- the value as it is -/
theorem sat_ok {v : PV} (rh : Rh K ρ h H) (r : RV K ρ H v x) (s : SatR (.ok v h) (FinV K ρ H Q) E) : Q x H := s ρ H _ (Stp.refl _ _) rh r
theorem sat_okV {v : PV} (rh : Rh K ρ h H) (r : RV K ρ H v x) (s : SatR (okV v h) (FinV K ρ H Q) E) : Q x H := by
  rw [okV_ok (fun e => by subst e; exact rv_un r)] at s
  exact sat_ok rh r s
/-- a new tuple -/
theorem sat_newT {xs : List PV} {vs : List V} (rh : Rh K ρ h H) (r : RVs K ρ H xs vs) (s : SatR (okV (mkTup xs) h) (FinV K ρ H Q) E) {p : Addr} (hp : H p = none) : Q (.ref p) (upd H p (.tup vs)) := by
  rw [okV_ok mkTup_ne] at s
  have st := stp_new (ρ := ρ) (.tup vs) hp
  exact s ρ _ _ st (rh_new rh _ hp) (mkTup_rel (r.step st) (.inl (.inl upd_same)))
theorem sat_oldT {xs : List PV} {vs : List V} {a : Addr} (rh : Rh K ρ h H) (r : RVs K ρ H xs vs) (q : SqT K H a vs) (s : SatR (okV (mkTup xs) h) (FinV K ρ H Q) E) : Q (.ref a) H := by
  rw [okV_ok mkTup_ne] at s
  exact s ρ _ _ (Stp.refl _ _) rh (mkTup_rel r q)
/-- a new list -/
theorem sat_newL {xs : List PV} {vs : List V} (rh : Rh K ρ h H) (r : RVs K ρ H xs vs) (s : SatR (allocK (.lst xs) h) (FinV K ρ H Q) E) {p : Addr} (hp : H p = none) : Q (.ref p) (upd H p (.lst vs)) := by
  rw [allocK_eq] at s
  exact s _ _ _ (stp_lay rh (.lst vs) hp) (rh_lay rh hp (.lst r)) (.ref ext_same)
/-- a list of the small heap is written -/
theorem sat_put {n : Nat} {a : Addr} {u u' : HO} {o' : HObj} {v : PV} (rh : Rh K ρ h H) (e : ρ n = some a) (ha : H a = some u) (m : Mut (some u)) (ro : RO K ρ H o' u') (rv : RV K ρ H v x) (s : SatR (updH h n o' v) (FinV K ρ H Q) E) : Q x (upd H a u') := by
  unfold updH at s
  rw [setK_eq] at s
  have st := stp_put (u' := u') rh e ha m
  exact s _ _ _ st (rh_put rh e ha m ro) (rv.step st)
end

/-! ### + - * // % -/
def rAddU (K : Fg) : R2 := fun x y H Q => rI0 (fun i j => .int (i + j)) x y H Q ∨ rCatA K x y H Q ∨ rCat x y H Q
theorem ok_add : OpK opAdd rAddU := by
  intro K ρ h H v w x y Q E rh r1 r2 s
  have tup : ∀ xs, SatR (asT (fun ys => catT xs ys h) .bad w) (FinV K ρ H Q) E → ∀ a vs, x = .ref a → SqT K H a vs → RVs K ρ H xs vs → rAddU K x y H Q := fun xs s a vs e h1 h2 => by
    obtain ⟨b, ys, ws, e2, h3, h4, s⟩ := sat_tup r2 s
    unfold catT at s
    obtain ⟨hl, s⟩ := sat_lim s
    rw [len_eq, len_eq, h2.length, h4.length] at hl
    rw [appK_eq] at s
    refine .inr (.inl ⟨a, b, vs, ws, e, e2, h1, h3, hl, ?_⟩)
    refine ⟨fun e0 => ?_, fun _ e0 => ?_, fun _ _ p hp => sat_newT rh (h2.append h4) s hp⟩
    · have e1 : xs = [] := List.eq_nil_of_length_eq_zero (by rw [h2.length, e0]; rfl)
      subst e1
      exact sat_oldT rh h4 h3 s
    · have e1 : ys = [] := List.eq_nil_of_length_eq_zero (by rw [h4.length, e0]; rfl)
      subst e1
      rw [List.append_nil] at s
      exact sat_oldT rh h2 h1 s
  cases v with
  | int i =>
    obtain ⟨j, e, s⟩ := sat_int s
    subst e
    exact .inl ⟨i, j, rv_int r1, rv_int r2, sat_okI rh s⟩
  | tup xs =>
    obtain ⟨a, vs, e, h1, h2⟩ := rv_tup r1
    exact tup xs s a vs e h1 h2.toV
  | mtup xs =>
    obtain ⟨a, vs, e, h1, h2⟩ := rv_mtup r1
    exact tup xs s a vs e h1 h2
  | ref n =>
    obtain ⟨m, e, s⟩ := sat_ref s
    subst e
    obtain ⟨xs, e1, s⟩ := sat_lst s
    obtain ⟨ys, e2, s⟩ := sat_lst s
    obtain ⟨hl, s⟩ := sat_lim s
    rw [appK_eq] at s
    obtain ⟨a, rfl, ea⟩ := rv_ref r1
    obtain ⟨b, rfl, eb⟩ := rv_ref r2
    obtain ⟨vs, q1, q2⟩ := rh.lstV e1 ea
    obtain ⟨ws, q3, q4⟩ := rh.lstV e2 eb
    rw [len_eq, len_eq, q2.length, q4.length] at hl
    exact .inr (.inr ⟨a, b, vs, ws, rfl, rfl, q1, q3, hl, fun p hp => sat_newL rh (q2.append q4) s hp⟩)
  | _ => exact s.elim

theorem op_addU {X : Cx} : OpR X (binaryOp .Add) (rAddU X.K) := op_add.or (op_catA.or op_cat)
theorem ok_I2 {f : Int → Int → MH → Rs} {r : Fg → R2} (h : ∀ (K : Fg) (ρ : Rho) (h : MH) (H : Hp) (i j : Int) (Q : VK) (E : Nat → MH → Prop), Rh K ρ h H → SatR (f i j h) (FinV K ρ H Q) E → r K (.int i) (.int j) H Q) : OpK (opI2 f) r := by
  intro K ρ h' H v w x y Q E rh r1 r2 s
  obtain ⟨i, e, s⟩ := sat_int s
  obtain ⟨j, e2, s⟩ := sat_int s
  subst e e2
  rw [rv_int r1, rv_int r2]
  exact h K ρ h' H i j Q E rh s
theorem ok_sub : OpK opSub (fun _ => rI0 fun i j => .int (i - j)) := ok_I2 fun K ρ h H i j Q E rh s => ⟨i, j, rfl, rfl, sat_okI rh s⟩
theorem small_ok {i : Int} (h : small i = true) : -(2 ^ 64) < i ∧ i < 2 ^ 64 := by
  have := Nat.le_of_ble_eq_true h
  omega
def rMulU (K : Fg) : R2 := fun x y H Q => rI CMul (fun i j => .int (i * j)) x y H Q ∨ rRep x y H Q
theorem ok_mulI {K : Fg} {ρ : Rho} {h : MH} {H : Hp} {i j : Int} {Q : VK} {E : Nat → MH → Prop} (rh : Rh K ρ h H) (s : SatR (opMulI i j h) (FinV K ρ H Q) E) : rI CMul (fun i j => .int (i * j)) (.int i) (.int j) H Q := by
  unfold opMulI at s
  cases e : small i with
  | true => rw [e] at s; exact ⟨i, j, rfl, rfl, .inl (small_ok e), sat_okI rh s⟩
  | false =>
    rw [e] at s
    obtain ⟨e2, s⟩ := sat_bcs s
    exact ⟨i, j, rfl, rfl, .inr (small_ok e2), sat_okI rh s⟩
theorem repK_eq {α : Type} (xs : List PV) : ∀ (n : Nat) (k : List PV → α), repK xs k n = k (List.replicate n xs).flatten
  | 0, k => rfl
  | n + 1, k => by
    show repK xs (fun r => appK xs r k) n = _
    rw [repK_eq xs n, appK_eq, List.replicate_succ, List.flatten_cons]
theorem ok_mul : OpK opMul rMulU := by
  intro K ρ h H v w x y Q E rh r1 r2 s
  cases v with
  | int i =>
    obtain ⟨j, e, s⟩ := sat_int s
    subst e
    rw [rv_int r1, rv_int r2]
    exact .inl (ok_mulI rh s)
  | ref n =>
    obtain ⟨j, e, s⟩ := sat_int s
    subst e
    obtain ⟨xs, e1, s⟩ := sat_lst s
    obtain ⟨sm, s⟩ := sat_bcs s
    obtain ⟨hl, s⟩ := sat_lim s
    rw [repK_eq] at s
    obtain ⟨a, rfl, ea⟩ := rv_ref r1
    obtain ⟨vs, q1, q2⟩ := rh.lstV e1 ea
    rw [len_eq, q2.length] at hl
    have := Nat.le_of_ble_eq_true sm
    exact .inr ⟨a, j, vs, rfl, rv_int r2, q1, by omega, by omega, hl, fun p hp => sat_newL rh (q2.rep _) s hp⟩
  | _ => exact s.elim
theorem op_mulU {X : Cx} : OpR X (binaryOp .Mult) (rMulU X.K) := op_mul.or op_rep
theorem nz_ok {i : Int} (h : nz i = true) : i ≠ 0 := by
  intro e
  subst e
  exact absurd h (by decide)
theorem ok_div : OpK opDiv (fun _ => rI CDivN fun i j => .int (i.fdiv j)) := ok_I2 fun K ρ h H i j Q E rh s => by
  obtain ⟨e1, s⟩ := sat_bcs s
  obtain ⟨e2, s⟩ := sat_bcs s
  have := Nat.le_of_ble_eq_true e2
  exact ⟨i, j, rfl, rfl, ⟨nz_ok e1, by omega⟩, sat_okI rh s⟩
theorem ok_mod : OpK opMod (fun _ => rI (fun _ j => j ≠ 0) fun i j => .int (i.fmod j)) := ok_I2 fun K ρ h H i j Q E rh s => by
  obtain ⟨e1, s⟩ := sat_bcs s
  exact ⟨i, j, rfl, rfl, nz_ok e1, sat_okI rh s⟩

/-! ### comparisons -/
theorem ok_lt : OpK opLt (fun _ => rI0 fun i j => .bl (decide (i < j))) := ok_I2 fun K ρ h H i j Q E rh s => ⟨i, j, rfl, rfl, by rw [ltI_eq] at s; exact sat_okB rh s⟩
theorem ok_gt : OpK opGt (fun _ => rI0 fun i j => .bl (decide (j < i))) := ok_I2 fun K ρ h H i j Q E rh s => ⟨i, j, rfl, rfl, by rw [ltI_eq] at s; exact sat_okB rh s⟩
theorem ngB_eq (n b : Bool) : ngB n b = (n != b) := by cases n <;> cases b <;> rfl
theorem ok_le : OpK opLe (fun _ => rI0 fun i j => .bl (decide (i ≤ j))) := ok_I2 fun K ρ h H i j Q E rh s => ⟨i, j, rfl, rfl, by
  have q := sat_okB rh s
  rw [ltI_eq, ngB_eq] at q
  show Q (V.bl (decide (i ≤ j))) H
  rw [show decide (i ≤ j) = (true != decide (j < i)) by by_cases z : i ≤ j <;> simp [z] <;> omega]
  exact q⟩
theorem ok_ge : OpK opGe (fun _ => rI0 fun i j => .bl (decide (j ≤ i))) := ok_I2 fun K ρ h H i j Q E rh s => ⟨i, j, rfl, rfl, by
  have q := sat_okB rh s
  rw [ltI_eq, ngB_eq] at q
  show Q (V.bl (decide (j ≤ i))) H
  rw [show decide (j ≤ i) = (true != decide (i < j)) by by_cases z : j ≤ i <;> simp [z] <;> omega]
  exact q⟩
def rIsU (neg : Bool) : R2 := fun x y H Q => y = .non ∧ Q (.bl (if neg then !decide (x = .non) else decide (x = .non))) H
theorem ok_is (neg : Bool) : OpK (opIsN neg) (fun _ => rIsU neg) := by
  intro K ρ h H v w x y Q E rh r1 r2 s
  have fin : ∀ b : Bool, SatR (okB (ngB neg b) h) (FinV K ρ H Q) E → decide (x = .non) = b → rIsU neg x .non H Q := fun b s e => by
    refine ⟨rfl, ?_⟩
    rw [e]
    have q := sat_okB rh s
    rw [ngB_eq] at q
    cases neg <;> cases b <;> exact q
  cases w with
  | non =>
    rw [rv_non r2]
    cases v with
    | non => exact fin true s (by rw [rv_non r1]; rfl)
    | bl b => exact fin false s (by rw [rv_bl r1]; rfl)
    | int b => exact fin false s (by rw [rv_int r1]; rfl)
    | str b => exact fin false s (by rw [rv_str r1]; rfl)
    | tup b => obtain ⟨_, _, e, _⟩ := rv_tup r1; exact fin false s (by rw [e]; rfl)
    | mtup b => obtain ⟨_, _, e, _⟩ := rv_mtup r1; exact fin false s (by rw [e]; rfl)
    | ref b => obtain ⟨_, e, _⟩ := rv_ref r1; exact fin false s (by rw [e]; rfl)
    | opq => exact s.elim
    | un => exact s.elim
  | _ => exact s.elim
theorem op_isU {X : Cx} : OpR X (compareOp .Is) (rIsU false) := fun pins s σ H x y v u Q I rx ry h => op_isN pins s σ H x y v u Q I rx ry h
theorem op_isNU {X : Cx} : OpR X (compareOp .IsNot) (rIsU true) := fun pins s σ H x y v u Q I rx ry h => op_notN pins s σ H x y v u Q I rx ry h

/-! ### equality -/
mutual
def toD : PV → PyData
  | .non => .none | .bl b => .bool b | .int i => .int i | .str x => .str x | .tup xs => .tuple (toDs xs)
  | .mtup _ => .none | .ref _ => .none | .opq => .none | .un => .none
def toDs : List PV → List PyData
  | [] => []
  | x :: xs => toD x :: toDs xs
end
mutual
theorem RP.dp {K : Fg} {H : Hp} : ∀ {v : PV} {x : V}, RP K H v x → Dp K H x (toD v)
  | _, _, .non => .non
  | _, _, .bl b => .bl b
  | _, _, .int i => .int i
  | _, _, .str x => .str x
  | _, _, .tup a b => .tup a (RPs.dp b)
theorem RPs.dp {K : Fg} {H : Hp} : ∀ {v : List PV} {x : List V}, RPs K H v x → DpAll K H x (toDs v)
  | _, _, .nil => .nil
  | _, _, .cons a b => .cons (RP.dp a) (RPs.dp b)
end
theorem shp_pure {d : Nat} {v : PV} (h : shp d v = true) : isPure v = true := by
  cases d <;> cases v <;> first | rfl | cases h
theorem shps_pure {d : Nat} {xs : List PV} (h : xs.all (shp d) = true) : xs.all isPure = true := by
  rw [List.all_eq_true] at h ⊢
  exact fun x hx => shp_pure (h x hx)
theorem shp_lay : ∀ {d : Nat} {v : PV}, shp d v = true → (toD v).canLay0 = true ∧ (toD v).depth ≤ d + 1 := by
  intro d
  induction d with
  | zero =>
    intro v h
    cases v with
    | non => simp [toD, PyData.canLay0, PyData.depth]
    | bl b => simp [toD, PyData.canLay0, PyData.depth]
    | int i => simp [toD, PyData.canLay0, PyData.depth]
    | str x => cases h
    | tup xs =>
      cases xs with
      | nil => simp [toD, toDs, PyData.canLay0, PyData.canLayAll0, PyData.depth, PyData.depthAll]
      | cons x xs => cases h
    | _ => cases h
  | succ d ih =>
    intro v h
    cases v with
    | non => simp [toD, PyData.canLay0, PyData.depth]
    | bl b => simp [toD, PyData.canLay0, PyData.depth]
    | int i => simp [toD, PyData.canLay0, PyData.depth]
    | str x => cases h
    | tup xs =>
      have h : allB (shp d) xs = true := h
      rw [allB_eq] at h
      have all : ∀ xs : List PV, xs.all (shp d) = true → PyData.canLayAll0 (toDs xs) = true ∧ PyData.depthAll (toDs xs) ≤ d + 1 := by
        intro xs
        induction xs with
        | nil => intro _; simp [toDs, PyData.canLayAll0, PyData.depthAll]
        | cons x xs ihx =>
          intro h
          simp only [List.all_cons, Bool.and_eq_true] at h
          obtain ⟨a1, a2⟩ := ih h.1
          obtain ⟨b1, b2⟩ := ihx h.2
          simp only [toDs, PyData.canLayAll0, PyData.depthAll, Bool.and_eq_true]
          exact ⟨⟨a1, b1⟩, Nat.max_le.mpr ⟨a2, b2⟩⟩
      obtain ⟨a1, a2⟩ := all xs h
      simp only [toD, PyData.canLay0, PyData.depth]
      exact ⟨a1, by omega⟩
    | _ => cases h
theorem shp_shaped {v : PV} (h : shp 8 v = true) : SeqAt.shaped (toD v) = true := by
  obtain ⟨a, b⟩ := shp_lay h
  unfold SeqAt.shaped
  rw [a, Bool.true_and]
  exact decide_eq_true (by omega)
theorem shps_shaped {xs : List PV} (h : xs.all (shp 8) = true) : SeqAt.shaped (.list (toDs xs)) = true := by
  have all : ∀ xs : List PV, xs.all (shp 8) = true → PyData.canLayAll0 (toDs xs) = true ∧ PyData.depthAll (toDs xs) ≤ 9 := by
    intro xs
    induction xs with
    | nil => intro _; simp [toDs, PyData.canLayAll0, PyData.depthAll]
    | cons x xs ihx =>
      intro h
      simp only [List.all_cons, Bool.and_eq_true] at h
      obtain ⟨a1, a2⟩ := shp_lay h.1
      obtain ⟨b1, b2⟩ := ihx h.2
      simp only [toDs, PyData.canLayAll0, PyData.depthAll, Bool.and_eq_true]
      exact ⟨⟨a1, b1⟩, Nat.max_le.mpr ⟨a2, b2⟩⟩
  obtain ⟨a, b⟩ := all xs h
  unfold SeqAt.shaped
  simp only [PyData.canLay0, PyData.depth, a, Bool.true_and]
  exact decide_eq_true (by omega)

theorem beqB_eq (a b : Bool) : beqB a b = (a == b) := by cases a <;> cases b <;> rfl
theorem b2I_eq (a : Bool) : b2I a = if a = true then 1 else 0 := by cases a <;> rfl
theorem eqI_b (i j : Int) : eqI i j = (i == j) := by rw [eqI_eq, Bool.beq_eq_decide_eq]
theorem eqL_of {f : PV → PV → Bool} {P : PV → Bool} (ih : ∀ x y, P x = true → P y = true → f x y = PyData.eqv (toD x) (toD y)) : ∀ xs ys : List PV, xs.all P = true → ys.all P = true → eqL f xs ys = PyData.eqvAll (toDs xs) (toDs ys)
  | [], [], _, _ => rfl
  | [], y :: ys, _, _ => rfl
  | x :: xs, [], _, _ => rfl
  | x :: xs, y :: ys, hx, hy => by
    simp only [List.all_cons, Bool.and_eq_true] at hx hy
    show bcs (eqL f xs ys) false (f x y) = (PyData.eqv (toD x) (toD y) && PyData.eqvAll (toDs xs) (toDs ys))
    rw [ih x y hx.1 hy.1, eqL_of ih xs ys hx.2 hy.2]
    cases PyData.eqv (toD x) (toD y) <;> rfl
theorem eqV_of : ∀ (d : Nat) (x y : PV), shp d x = true → shp d y = true → eqV d x y = PyData.eqv (toD x) (toD y) := by
  intro d
  induction d with
  | zero =>
    intro x y hx hy
    cases x <;> cases y <;> first
      | rfl
      | (cases hx; done)
      | (cases hy; done)
      | skip
    · exact beqB_eq _ _
    · simp only [toD, PyData.eqv]; rw [← b2I_eq]; exact eqI_b _ _
    · simp only [toD, PyData.eqv]; rw [← b2I_eq]; exact eqI_b _ _
    · exact eqI_b _ _
    · rename_i xs ys
      cases xs with
      | nil => cases ys with
        | nil => rfl
        | cons => cases hy
      | cons => cases hx
  | succ d ih =>
    intro x y hx hy
    cases x <;> cases y <;> first
      | rfl
      | (cases hx; done)
      | (cases hy; done)
      | skip
    · exact beqB_eq _ _
    · simp only [toD, PyData.eqv]; rw [← b2I_eq]; exact eqI_b _ _
    · simp only [toD, PyData.eqv]; rw [← b2I_eq]; exact eqI_b _ _
    · exact eqI_b _ _
    · rename_i xs ys
      have hx : allB (shp d) xs = true := hx
      have hy : allB (shp d) ys = true := hy
      rw [allB_eq] at hx hy
      show eqL (eqV d) xs ys = PyData.eqv (.tuple (toDs xs)) (.tuple (toDs ys))
      simp only [PyData.eqv]
      exact eqL_of (P := shp d) ih xs ys hx hy
def rEqU (neg : Bool) (K : Fg) : R2 := fun x y H Q => if neg = true then (rNe x y H Q ∨ rNeD K x y H Q) else (rEq x y H Q ∨ rEqD K x y H Q)
theorem eq_fin {neg : Bool} {K : Fg} {x y : V} {H : Hp} {Q : VK} {d e : PyData} (hd : Dp K H x d) (he : Dp K H y e) (sd : SeqAt.shaped d = true) (se : SeqAt.shaped e = true) (q : Q (.bl (neg != PyData.eqv d e)) H) : rEqU neg K x y H Q := by
  cases neg with
  | true => exact .inr ⟨d, e, hd, he, sd, se, by simpa using q⟩
  | false => exact .inr ⟨d, e, hd, he, sd, se, by simpa using q⟩
theorem ok_eq (neg : Bool) : OpK (opEq neg) (rEqU neg) := by
  intro K ρ h H v w x y Q E rh r1 r2 s
  have deep : shp 8 v = true → SatR (bcs (okB (ngB neg (eqV 8 v w)) h) .bad (shp 8 w)) (FinV K ρ H Q) E → rEqU neg K x y H Q := fun hv s => by
    obtain ⟨hw, s⟩ := sat_bcs s
    rw [eqV_of 8 v w hv hw, ngB_eq] at s
    exact eq_fin (r1.toP (shp_pure hv)).dp (r2.toP (shp_pure hw)).dp (shp_shaped hv) (shp_shaped hw) (sat_okB rh s)
  cases v with
  | non => exact deep rfl s
  | bl b => exact deep rfl s
  | int i =>
    cases w with
    | int j =>
      have s : SatR (okB (ngB neg (eqI i j)) h) (FinV K ρ H Q) E := s
      have e : eqI i j = PyData.eqv (toD (.int i)) (toD (.int j)) := eqI_b i j
      rw [e, ngB_eq] at s
      exact eq_fin (r1.toP rfl).dp (r2.toP rfl).dp (shp_shaped (v := .int i) rfl) (shp_shaped (v := .int j) rfl) (sat_okB rh s)
    | _ => exact deep rfl s
  | str a =>
    cases w with
    | str b =>
      have q := sat_okB rh s
      rw [ngB_eq] at q
      rw [rv_str r1, rv_str r2]
      have e : decide (V.str a = V.str b) = decide (a = b) := by
        by_cases z : a = b
        · subst z; simp
        · have : ¬ V.str a = V.str b := fun e => z (V.str.inj e)
          simp [z, this]
      cases neg with
      | true => exact .inl ⟨rfl, by rw [e]; simpa using q⟩
      | false => exact .inl ⟨rfl, by rw [e]; simpa using q⟩
    | _ => exact s.elim
  | tup xs =>
    obtain ⟨hv, s⟩ := sat_bcs (r := bcs (okB (ngB neg (eqV 8 (.tup xs) w)) h) .bad (shp 8 w)) (b := shp 8 (.tup xs)) s
    exact deep hv s
  | ref n =>
    obtain ⟨m, e, s⟩ := sat_ref s
    subst e
    obtain ⟨xs, e1, s⟩ := sat_lst s
    obtain ⟨ys, e2, s⟩ := sat_lst s
    obtain ⟨h1, s⟩ := sat_bcs s
    obtain ⟨h2, s⟩ := sat_bcs s
    rw [allB_eq] at h1 h2
    obtain ⟨a, rfl, ea⟩ := rv_ref r1
    obtain ⟨b, rfl, eb⟩ := rv_ref r2
    obtain ⟨vs, q1, q2⟩ := rh.lstV e1 ea
    obtain ⟨ws, q3, q4⟩ := rh.lstV e2 eb
    rw [eqL_of (P := shp 8) (eqV_of 8) xs ys h1 h2, ngB_eq] at s
    have e : PyData.eqvAll (toDs xs) (toDs ys) = PyData.eqv (.list (toDs xs)) (.list (toDs ys)) := by simp [PyData.eqv]
    rw [e] at s
    exact eq_fin (.lst (.inl (.inl q1)) (q2.toP (shps_pure h1)).dp) (.lst (.inl (.inl q3)) (q4.toP (shps_pure h2)).dp) (shps_shaped h1) (shps_shaped h2) (sat_okB rh s)
  | _ => exact s.elim
theorem op_eqU {X : Cx} (hu : X.A.units + 64 < cLine) : OpR X (compareOp .Eq) (rEqU false X.K) := fun pins s σ H x y v u Q I rx ry h => (op_eq.or (op_eqD hu)) pins s σ H x y v u Q I rx ry (by simpa [rEqU] using h)
theorem op_neU {X : Cx} (hu : X.A.units + 64 < cLine) : OpR X (compareOp .NotEq) (rEqU true X.K) := fun pins s σ H x y v u Q I rx ry h => (op_ne.or (op_neD hu)) pins s σ H x y v u Q I rx ry (by simpa [rEqU] using h)

/-! ### in -/
theorem anyEq_eq {x : PV} (hx : shp 8 x = true) : ∀ xs : List PV, xs.all (shp 8) = true → anyEq x xs = (toDs xs).any fun z => PyData.eqv z (toD x)
  | [], _ => rfl
  | y :: ys, h => by
    simp only [List.all_cons, Bool.and_eq_true] at h
    show bcs true (anyEq x ys) (eqV 8 y x) = _
    rw [eqV_of 8 y x h.1 hx, anyEq_eq hx ys h.2]
    simp only [toDs, List.any_cons]
    cases PyData.eqv (toD y) (toD x) <;> rfl
end Tn

set_option maxHeartbeats 4000000
/-! in; expressions -/
namespace Tn
open PySem PySem.Spec PyProof.Rows L2

/-! ### in -/
theorem kv_keys {K : Fg} {ρ : Rho} {H : Hp} : ∀ {kvs : List (PV × PV)} {ws : List (Key × V)} (i : Int), (∀ p ∈ kvs, ∃ i, p.1 = .int i) → RVs K ρ H (kvs.map Prod.fst) (ws.map fun w => kV w.1) → hasKeyI i kvs = (valV ws (Sum.inl i)).isSome
  | [], [], i, _, _ => rfl
  | [], _ :: _, i, _, r => by cases r
  | _ :: _, [], i, _, r => by cases r
  | (k, v) :: kvs, (w, x) :: ws, i, hk, r => by
    cases r with
    | cons r1 r2 =>
      obtain ⟨j, e⟩ := hk (k, v) List.mem_cons_self
      have e : k = .int j := e
      subst e
      have e2 := rv_int r1
      have e3 : w = Sum.inl j := by
        cases w with
        | inl z => exact congrArg Sum.inl (V.int.inj e2)
        | inr z => cases e2
      subst e3
      have ih := kv_keys i (fun p hp => hk p (List.mem_cons_of_mem _ hp)) r2
      show bcs true (hasKeyI i kvs) (eqI j i) = _
      rw [ih, eqI_eq]
      unfold valV
      rw [List.find?_cons]
      by_cases z : j = i
      · subst z; simp
      · have : ¬ (Sum.inl j : Key) = Sum.inl i := fun e => z (Sum.inl.inj e)
        simp [z, this]
def rInU (neg : Bool) (K : Fg) : R2 := fun x y H Q =>
  rIn K neg x y H Q ∨ (if neg = true then rNotInD K x y H Q else rInD K x y H Q) ∨ ∃ a o, y = .ref a ∧ DGet H a x o ∧ Q (.bl (if neg = true then !o.isSome else o.isSome)) H
theorem flat_eq {K : Fg} {ρ : Rho} {H : Hp} {v w : PV} {x y : V} (fv : flatP v = true) (fw : flatP w = true) (rv : RV K ρ H v x) (rw_ : RV K ρ H w y) : Tn.eqV 8 v w = L2.eqV x y ∧ flatV x = true := by
  cases v with
  | non => cases w <;> first | (cases fw; done) | skip
           · rw [rv_non rv, rv_non rw_]; exact ⟨rfl, rfl⟩
           · rw [rv_non rv, rv_bl rw_]; exact ⟨rfl, rfl⟩
           · rw [rv_non rv, rv_int rw_]; exact ⟨rfl, rfl⟩
  | bl b => cases w <;> first | (cases fw; done) | skip
            · rw [rv_bl rv, rv_non rw_]; exact ⟨rfl, rfl⟩
            · rw [rv_bl rv, rv_bl rw_]; exact ⟨beqB_eq _ _, rfl⟩
            · rw [rv_bl rv, rv_int rw_]; refine ⟨?_, rfl⟩; simp only [L2.eqV]; rw [← b2I_eq]; exact eqI_b _ _
  | int i => cases w <;> first | (cases fw; done) | skip
             · rw [rv_int rv, rv_non rw_]; exact ⟨rfl, rfl⟩
             · rw [rv_int rv, rv_bl rw_]; refine ⟨?_, rfl⟩; simp only [L2.eqV]; rw [← b2I_eq]; exact eqI_b _ _
             · rw [rv_int rv, rv_int rw_]; exact ⟨eqI_b _ _, rfl⟩
  | _ => cases fv
theorem anyEq_flat {K : Fg} {ρ : Rho} {H : Hp} {v : PV} {x : V} (fv : flatP v = true) (rv : RV K ρ H v x) : ∀ {ys : List PV} {ws : List V}, ys.all flatP = true → RVs K ρ H ys ws → anyEq v ys = inV x ws ∧ ws.all flatV = true
  | [], _, _, .nil => ⟨rfl, rfl⟩
  | y :: ys, _, h, .cons (x := w) a b => by
    simp only [List.all_cons, Bool.and_eq_true] at h
    obtain ⟨h1, h2⟩ := flat_eq h.1 fv a rv
    obtain ⟨h3, h4⟩ := anyEq_flat fv rv h.2 b
    refine ⟨?_, by rw [List.all_cons, h2, h4]; rfl⟩
    show bcs true (anyEq v ys) (Tn.eqV 8 y v) = _
    rw [h1, h3]
    unfold inV
    rw [List.any_cons]
    cases L2.eqV w x <;> rfl
theorem ng_ite (neg b : Bool) : (neg != b) = if neg = true then !b else b := by cases neg <;> cases b <;> rfl
theorem ok_in (neg : Bool) : OpK (opInU neg) (rInU neg) := by
  intro K ρ h H v w x y Q E rh r1 r2 s
  cases w with
  | tup ys =>
    obtain ⟨f1, s⟩ := sat_bcs s
    obtain ⟨f2, s⟩ := sat_bcs s
    rw [allB_eq] at f2
    obtain ⟨a, ws, e, h1, h2⟩ := rv_tup r2
    obtain ⟨q1, q2⟩ := anyEq_flat f1 r1 f2 (h2.toV (ρ := ρ))
    have q := sat_okB rh s
    rw [ngB_eq, q1, ng_ite] at q
    exact .inl ⟨a, ws, e, .inr h1, (flat_eq f1 f1 r1 r1).2, q2, q⟩
  | ref n =>
    have s : SatR (ocs (fun o => HObj.cs _ _ o) .bad (nth h n)) (FinV K ρ H Q) E := s
    rw [nth_eq] at s
    cases e : h[n]? with
    | none => rw [e] at s; exact s.elim
    | some o =>
      rw [e] at s
      obtain ⟨a, rfl, ea⟩ := rv_ref r2
      cases o with
      | lst ys =>
        obtain ⟨f1, s⟩ := sat_bcs s
        obtain ⟨f2, s⟩ := sat_bcs s
        rw [allB_eq] at f2
        obtain ⟨ws, q1, q2⟩ := rh.lstV e ea
        have q := sat_okB rh s
        rw [ngB_eq, anyEq_eq f1 ys f2, ng_ite] at q
        refine .inr (.inl ?_)
        have d1 := (r1.toP (shp_pure f1)).dp
        have d2 : Dp K H (.ref a) (.list (toDs ys)) := .lst (.inl (.inl q1)) (q2.toP (shps_pure f2)).dp
        cases neg with
        | true => exact ⟨_, _, d1, d2, shp_shaped f1, shps_shaped f2, q⟩
        | false => exact ⟨_, _, d1, d2, shp_shaped f1, shps_shaped f2, q⟩
      | dct kvs =>
        obtain ⟨i, e2, s⟩ := sat_int (k := fun i => okB (ngB neg (hasKeyI i kvs)) h) s
        subst e2
        obtain ⟨ws, q1, q2⟩ := rh.dctV e ea
        cases q2 with
        | dk p a1 b1 =>
          have q := sat_okB rh s
          rw [ngB_eq, kv_keys i p a1, ng_ite] at q
          rw [rv_int r1]
          exact .inr (.inr ⟨a, _, rfl, DGet.k (k := Sum.inl i) q1, q⟩)
  | _ => exact s.elim
theorem op_inU {X : Cx} (hu : X.A.units + 64 + 1 < cLine) : OpR X (compareOp .In) (rInU false X.K) := fun pins s σ H x y v u Q I rx ry h => by
  rcases h with h | h | ⟨a, o, rfl, g, q⟩
  · exact op_in_seq pins s σ H x y v u Q I rx ry h
  · exact op_inD (by omega) pins s σ H x y v u Q I rx ry (by simpa using h)
  · obtain rfl : u = Value.ref a := ry
    exact d_in (by omega) I g rx fun s3 I3 => ⟨.bl o.isSome, H, I3, rfl, by simpa using q⟩
theorem op_niU {X : Cx} (hu : X.A.units + 64 + 1 < cLine) : OpR X (compareOp .NotIn) (rInU true X.K) := fun pins s σ H x y v u Q I rx ry h => by
  rcases h with h | h | ⟨a, o, rfl, g, q⟩
  · exact op_notIn_seq pins s σ H x y v u Q I rx ry h
  · exact op_notInD (by omega) pins s σ H x y v u Q I rx ry (by simpa using h)
  · obtain rfl : u = Value.ref a := ry
    exact d_notIn (by omega) I g rx fun s3 I3 => ⟨.bl (!o.isSome), H, I3, rfl, by simpa using q⟩

/-! ### small expressions -/
section
variable {cls : Nat → Value} {C : CC} {pos : Pos} {a b d e : Expr} {ca cb cd : EC} {es : List Expr} {ces : LC}
theorem nth_sat {e : MEnv} {i : Nat} {k : PV → Rs} {P : PV → MH → Prop} {E : Nat → MH → Prop} (s : SatR (ocs k .bad (nth e i)) P E) : ∃ v, e[i]? = some v ∧ SatR (k v) P E := by
  rw [nth_eq] at s
  cases q : e[i]? with
  | none => rw [q] at s; exact s.elim
  | some v => rw [q] at s; exact ⟨v, rfl, s⟩
theorem okV_sat {v : PV} {h : MH} {P : PV → MH → Prop} {E : Nat → MH → Prop} (s : SatR (okV v h) P E) : v ≠ .un ∧ P v h := by
  cases v <;> first | exact ⟨fun e => (nomatch e), s⟩ | exact s.elim
theorem oe_var {i : Nat} {x : Str} (hN : C.N[i]? = some x) (hv : Vis C.sc x) (hd : (x == ("__debug__" : Str)) = false) (hcd : (x == ("__classdict__" : Str)) = false) : OE cls C (.Name x pos) (cVar i) := fun X W c hc =>
  PE.imp (pe_var (i := i) (by rw [hc.N]; exact hN) (by rw [hc.sc]; exact hv) hd hcd) fun σ H Q ⟨ρ, h, e, at_, s⟩ => by
    obtain ⟨v, e1, s⟩ := nth_sat s
    obtain ⟨hu, q⟩ := okV_sat s
    obtain ⟨x, e2, rv⟩ := at_.re.get i v e1 hu
    exact ⟨x, e2, q ρ H x (Stp.refl _ _) at_.rh rv⟩
theorem oe_k {v : PV} {x : V} (hp : ∀ X W c, Ctx cls C X W c → PE X e (tC x)) (r : ∀ K H, RP K H v x) : OE cls C e (cC v) := fun X W c hc =>
  PE.imp (hp X W c hc) fun σ H Q ⟨ρ, h, e, at_, s⟩ => s ρ H x (Stp.refl _ _) at_.rh (.pure (r _ _))
theorem oe_int {i j} : OE cls C (.Constant (.int i) j pos) (cC (.int i)) := oe_k (fun _ _ _ _ => pe_int) fun _ _ => .int i
theorem oe_bl {b j} : OE cls C (.Constant (.bool b) j pos) (cC (.bl b)) := oe_k (fun _ _ _ _ => pe_bl) fun _ _ => .bl b
theorem oe_non {j} : OE cls C (.Constant .none j pos) (cC .non) := oe_k (fun _ _ _ _ => pe_non) fun _ _ => .non
theorem oe_str {x j} : OE cls C (.Constant (.str x) j pos) (cC (.str x)) := oe_k (fun _ _ _ _ => pe_str) fun _ _ => .str x
theorem oe_glob {x : Str} {v : PV} {k : Nat} (hg : C.sc.names.lookup x = some .globalImplicit) (hm : C.gl x = some (.cst k)) (hv : C.cv[k]? = some v) (hd : (x == ("__debug__" : Str)) = false) : OE cls C (.Name x pos) (cC v) := fun X W c hc => by
  obtain ⟨u, xv, h1, h2, h3⟩ := hc.csts x k v hm hv
  refine PE.imp (pe_glob (v := xv) (by show X.env.scope.names.lookup x = _; rw [hc.sc]; exact hg) h1 h2 hd) fun σ H Q ⟨ρ, h, e, at_, s⟩ => ?_
  exact s ρ H xv (Stp.refl _ _) at_.rh (.pure (h3 H))
theorem oe_neg (ha : OE cls C a ca) : OE cls C (.UnaryOp .USub a pos) (cNeg ca) := fun X W c hc =>
  PE.imp (pe_un un_neg (ha X W c hc)) fun σ H Q ⟨ρ, h, e, at_, s⟩ => ⟨ρ, h, e, at_, (bnd_sat s).mono (fun v h1 s1 ρ1 H1 x st1 rh1 rv1 => by
    obtain ⟨i, e, s1⟩ := sat_int s1
    subst e
    rw [rv_int rv1]
    exact ⟨i, rfl, sat_okI rh1 (s1.mono (fun _ _ q => q.reb st1) fun _ _ q => q)⟩) fun _ _ q => q⟩
theorem oe_not (ha : OE cls C a ca) : OE cls C (.UnaryOp .Not a pos) (cNot ca) := fun X W c hc =>
  PE.imp (pe_not (ha X W c hc)) fun σ H Q ⟨ρ, h, e, at_, s⟩ => ⟨ρ, h, e, at_, (bnd_sat s).mono (fun v h1 s1 ρ1 H1 x st1 rh1 rv1 => by
    obtain ⟨i, e, s1⟩ := sat_bl s1
    subst e
    refine ⟨i, rv_bl rv1, ?_⟩
    have q := sat_okB rh1 (s1.mono (fun _ _ q => FinV.reb st1 q) fun _ _ q => q)
    rw [ngB_eq] at q
    simpa using q) fun _ _ q => q⟩
theorem bcs_sat {r1 r2 : Rs} {t : Bool} {P : PV → MH → Prop} {E : Nat → MH → Prop} (s : SatR (bcs r1 r2 t) P E) : if t = true then SatR r1 P E else SatR r2 P E := by cases t <;> exact s
theorem oe_and {op} {rest : List Expr} (ha : OE cls C a ca) (hb : OE cls C (.BoolOp .And (b :: rest) op) cb) (hop : op = pos) : OE cls C (.BoolOp .And (a :: b :: rest) pos) (cAnd ca cb) := fun X W c hc => by
  subst hop
  refine PE.imp (pe_and (ha X W c hc) (hb X W c hc)) fun σ H Q ⟨ρ, h, e, at_, s⟩ => ⟨ρ, h, e, at_, (bnd_sat s).mono (fun v h1 s1 ρ1 H1 x st1 rh1 rv1 => ?_) fun _ _ q => q⟩
  obtain ⟨t, e', s1⟩ := sat_bl s1
  subst e'
  refine ⟨t, rv_bl rv1, ?_⟩
  cases t with
  | true => exact ⟨ρ1, h1, e, at_.go st1 rh1, SatR.mono s1 (fun _ _ q => q.reb st1) fun _ _ q => q.reb st1⟩
  | false => exact s1 ρ1 H1 _ st1 rh1 (.pure (.bl false))
theorem oe_or {op} {rest : List Expr} (ha : OE cls C a ca) (hb : OE cls C (.BoolOp .Or (b :: rest) op) cb) (hop : op = pos) : OE cls C (.BoolOp .Or (a :: b :: rest) pos) (cOr ca cb) := fun X W c hc => by
  subst hop
  refine PE.imp (pe_or (ha X W c hc) (hb X W c hc)) fun σ H Q ⟨ρ, h, e, at_, s⟩ => ⟨ρ, h, e, at_, (bnd_sat s).mono (fun v h1 s1 ρ1 H1 x st1 rh1 rv1 => ?_) fun _ _ q => q⟩
  obtain ⟨t, e', s1⟩ := sat_bl s1
  subst e'
  refine ⟨t, rv_bl rv1, ?_⟩
  cases t with
  | false => exact ⟨ρ1, h1, e, at_.go st1 rh1, SatR.mono s1 (fun _ _ q => q.reb st1) fun _ _ q => q.reb st1⟩
  | true => exact s1 ρ1 H1 _ st1 rh1 (.pure (.bl true))
theorem oe_one {op} (ha : OE cls C a ca) : OE cls C (.BoolOp op [a] pos) ca := fun X W c hc => pe_one (ha X W c hc)
theorem oe_if (ht : OT cls C d cd) (ha : OE cls C a ca) (hb : OE cls C b cb) : OE cls C (.IfExp d a b pos) (cIf cd ca cb) := fun X W c hc =>
  PE.imp (pe_ifExp (ht X W c hc) (ha X W c hc) (hb X W c hc)) fun σ H Q ⟨ρ, h, e, at_, s⟩ => ⟨ρ, h, e, at_, (bnd_sat s).mono (fun v h1 s1 => by
    obtain ⟨t, e', s1⟩ := sat_bl s1
    refine ⟨t, e', fun ρ1 H1 st1 rh1 => ?_⟩
    cases t with
    | true => exact ⟨ρ1, h1, e, at_.go st1 rh1, SatR.mono s1 (fun _ _ q => q.reb st1) fun _ _ q => q.reb st1⟩
    | false => exact ⟨ρ1, h1, e, at_.go st1 rh1, SatR.mono s1 (fun _ _ q => q.reb st1) fun _ _ q => q.reb st1⟩) fun _ _ q => q⟩

/-! ### tests -/
/-- the code's answer, as a test -/
theorem tT_tE {X : Cx} {W : WX} {c : CF} {σ : L2.St} {H : Hp} {Q : Bool → Hp → Prop} (t : tT cls X.K W c ca σ H Q) : tE cls X.K W c ca σ H fun x H1 => ∃ k, x = .bl k ∧ Q k H1 := by
  obtain ⟨ρ, h, e, at_, s⟩ := t
  refine ⟨ρ, h, e, at_, s.mono (fun v h1 q ρ1 H1 x st rh rv => ?_) fun _ _ q => q⟩
  obtain ⟨b, e', q⟩ := q
  subst e'
  exact ⟨b, rv_bl rv, q ρ1 H1 st rh⟩
theorem ot_val (h : OE cls C a ca) (he : ∀ (env : Env) whole, isTrue a env whole = (do let v ← whole; standAt a.pos; holding [v] (truthy v))) : OT cls C a ca := fun X W c hc =>
  PT.imp (pt_val (h X W c hc) (he X.env)) fun σ H Q t => tT_tE t
theorem ot_cmp {op : CmpOp} {f : PV → PV → MH → Rs} {r : Fg → R2} (ho : ∀ X : Cx, X.A.units + 64 + 1 < cLine → OpR X (compareOp op) (r X.K)) (hf : OpK f r) (ha : OE cls C a ca) (hb : OE cls C b cb) (hm : behindInMarks op b = false)
    (hu : ∀ X W c, Ctx cls C X W c → X.A.units + 64 + 1 < cLine) : OT cls C (.Compare a [op] [b] pos) (cOp f ca cb) := fun X W c hc =>
  PT.imp (pt_cmpR (ho X (hu X W c hc)) (ha X W c hc) (hb X W c hc) hm) fun σ H Q t => two_of hf (tT_tE t)
theorem oe_cmp {op : CmpOp} {f : PV → PV → MH → Rs} {r : Fg → R2} (ho : ∀ X : Cx, X.A.units + 64 + 1 < cLine → OpR X (compareOp op) (r X.K)) (hf : OpK f r) (ha : OE cls C a ca) (hb : OE cls C b cb) (hm : behindInMarks op b = false)
    (hu : ∀ X W c, Ctx cls C X W c → X.A.units + 64 + 1 < cLine) : OE cls C (.Compare a [op] [b] pos) (cOp f ca cb) := fun X W c hc =>
  PE.imp (pe_cmpR (ho X (hu X W c hc)) (ha X W c hc) (hb X W c hc) hm) fun σ H Q t => two_of hf t
theorem ot_not (ha : OT cls C a ca) : OT cls C (.UnaryOp .Not a pos) (cNot ca) := fun X W c hc =>
  PT.imp (pt_not (ha X W c hc)) fun σ H Q ⟨ρ, h, e, at_, s⟩ => ⟨ρ, h, e, at_, (bnd_sat s).mono (fun v h1 s1 => by
    obtain ⟨t, e', s1⟩ := sat_bl s1
    refine ⟨t, e', fun ρ1 H1 st1 rh1 => ?_⟩
    rw [okB_eq, ngB_eq] at s1
    obtain ⟨b, e2, q⟩ := s1
    cases e2
    simpa using q ρ1 H1 st1 rh1) fun _ _ q => q⟩
/-- a test whatever its whole is -/
def OW (cls : Nat → Value) (C : CC) (e : Expr) (a : EC) : Prop := ∀ X W c, Ctx cls C X W c → PW X e (tT cls X.K W c a)
theorem ow_and1 (ha : OT cls C a ca) : OW cls C (.BoolOp .And [a] pos) ca := fun X W c hc => pw_and1 (ha X W c hc)
theorem ow_or1 (ha : OT cls C a ca) : OW cls C (.BoolOp .Or [a] pos) ca := fun X W c hc => pw_or1 (ha X W c hc)
theorem PW.imp {X : Cx} {e : Expr} {t u : TT} (p : PW X e t) (h : ∀ σ H Q, u σ H Q → t σ H Q) : PW X e u := ⟨fun wh pins s σ H Q I q => p.run wh pins s σ H Q I (h σ H Q q)⟩
theorem ow_and {rest : List Expr} (ha : OT cls C a ca) (hb : OW cls C (.BoolOp .And (b :: rest) pos) cb) : OW cls C (.BoolOp .And (a :: b :: rest) pos) (cAnd ca cb) := fun X W c hc =>
  PW.imp (pw_and (ha X W c hc) (hb X W c hc)) fun σ H Q ⟨ρ, h, e, at_, s⟩ => ⟨ρ, h, e, at_, (bnd_sat s).mono (fun v h1 s1 => by
    obtain ⟨t, e', s1⟩ := sat_bl s1
    refine ⟨t, e', fun ρ1 H1 st1 rh1 => ?_⟩
    cases t with
    | true => exact ⟨ρ1, h1, e, at_.go st1 rh1, SatR.mono s1 (fun _ _ q => q.reb st1) fun _ _ q => q.reb st1⟩
    | false =>
      obtain ⟨b, e2, q⟩ := s1
      cases e2
      exact q ρ1 H1 st1 rh1) fun _ _ q => q⟩
theorem ow_or {rest : List Expr} (ha : OT cls C a ca) (hb : OW cls C (.BoolOp .Or (b :: rest) pos) cb) : OW cls C (.BoolOp .Or (a :: b :: rest) pos) (cOr ca cb) := fun X W c hc =>
  PW.imp (pw_or (ha X W c hc) (hb X W c hc)) fun σ H Q ⟨ρ, h, e, at_, s⟩ => ⟨ρ, h, e, at_, (bnd_sat s).mono (fun v h1 s1 => by
    obtain ⟨t, e', s1⟩ := sat_bl s1
    refine ⟨t, e', fun ρ1 H1 st1 rh1 => ?_⟩
    cases t with
    | false => exact ⟨ρ1, h1, e, at_.go st1 rh1, SatR.mono s1 (fun _ _ q => q.reb st1) fun _ _ q => q.reb st1⟩
    | true =>
      obtain ⟨b, e2, q⟩ := s1
      cases e2
      exact q ρ1 H1 st1 rh1) fun _ _ q => q⟩
theorem ot_of_ow (h : OW cls C a ca) : OT cls C a ca := fun X W c hc => (h X W c hc).pt

/-! ### arguments, displays -/
def notStar : Expr → Bool
  | .Starred .. => false
  | _ => true
theorem star_cons (h : notStar a = true) (env : Env) : starEach (a :: es) env = (false, eval a env) :: starEach es env := by
  cases a <;> first | rfl | cases h
theorem star_any (p : Pos) (env : Env) : ∀ es : List Expr, es.all notStar = true → (backTo p (starEach es env)).any (·.1) = false
  | [], _ => rfl
  | e :: es, h => by
    simp only [List.all_cons, Bool.and_eq_true] at h
    rw [star_cons h.1]
    show (false || (backTo p (starEach es env)).any (·.1)) = false
    rw [star_any p env es h.2]; rfl
theorem oa_nil : OA cls C [] aNil := fun X W c hc => PA.imp pa_nil fun σ H Q ⟨ρ, h, e, at_, s⟩ => s ρ H [] (Stp.refl _ _) at_.rh .nil
theorem oa_cons (hn : notStar a = true) (ha : OE cls C a ca) (hs : OA cls C es ces) : OA cls C (a :: es) (aCons ca ces) := fun X W c hc =>
  PA.imp (pa_cons (ha X W c hc) (hs X W c hc) (star_cons hn _)) fun σ H Q ⟨ρ, h, e, at_, s⟩ => ⟨ρ, h, e, at_, (bndRL_sat s).mono (fun v h1 s1 ρ1 H1 x st1 rh1 rv1 =>
    ⟨ρ1, h1, e, at_.go st1 rh1, (bndLL_sat s1).mono (fun vs h2 s2 ρ2 H2 xs st2 rh2 rv2 => s2 ρ2 H2 _ (st1.trans st2) rh2 (.cons (rv1.step st2) rv2)) fun _ _ q => q.reb st1⟩) fun _ _ q => q⟩
theorem oe_tup {k : Nat} (h : OA cls C es ces) : OE cls C (.Tuple es k pos) (cTup ces) := fun X W c hc =>
  PE.imp (pe_tup (h X W c hc)) fun σ H Q ⟨ρ, h, e, at_, s⟩ => ⟨ρ, h, e, at_, (bndL_sat s).mono (fun vs h1 s1 ρ1 H1 xs st1 rh1 rv1 => by
    obtain ⟨hl, s1⟩ := sat_lim s1
    rw [len_eq, rv1.length] at hl
    exact ⟨hl, fun p hp => sat_newT rh1 rv1 (s1.mono (fun _ _ q => FinV.reb st1 q) fun _ _ q => q) hp⟩) fun _ _ q => q⟩
theorem ol_disp (h : OA cls C es ces) : OL cls C (.List es pos) (lDisp ces) := fun X W c hc =>
  PE.imp (pe_lst (h X W c hc)) fun σ H Q ⟨ρ, h, e, at_, s⟩ => ⟨ρ, h, e, at_, (bndLL_sat s).mono (fun vs h1 s1 ρ1 H1 xs st1 rh1 rv1 => by
    unfold lim at s1
    cases q : Nat.ble (len vs) 16777216 with
    | false => rw [q] at s1; exact s1.elim
    | true =>
      rw [q] at s1
      have hl := Nat.le_of_ble_eq_true q
      rw [len_eq, rv1.length] at hl
      refine ⟨hl, fun p hp => ?_⟩
      have st2 := stp_new (ρ := ρ1) (.lst xs) hp
      exact s1 ρ1 _ p xs (st1.trans st2) (rh_new rh1 _ hp) (st1.none_of hp) (rh1.unk hp) upd_same (rv1.step st2)) fun _ _ q => q⟩
/-- a list that was made on the way, placed -/
theorem alloc_rd {l : LC} {X : Cx} {W : WX} {c : CF} {σ : L2.St} {H : Hp} {Q : VK} (t : tE cls X.K W c (cAll_ l) σ H Q) : tL cls X.K W c l σ H Q := by
  obtain ⟨ρ, h, e, at_, s⟩ := t
  exact ⟨ρ, h, e, at_, (bndL_sat s).mono (fun vs h1 s1 ρ1 H1 p xs st1 rh1 hp np hq rv => by
    rw [allocK_eq] at s1
    exact s1 _ _ _ (stp_adopt st1 rh1 hp) (rh_alloc rh1 hq np (.lst rv)) (.ref ext_same)) fun _ _ q => q⟩
theorem oe_alloc {l : LC} (h : OL cls C a l) : OE cls C a (cAll_ l) := fun X W c hc => PE.imp (h X W c hc) fun _ _ _ t => alloc_rd t
end
end Tn

set_option maxHeartbeats 4000000
/-! index, slices, built-ins, methods, calls -/
namespace Tn
open PySem PySem.Spec PyProof.Rows L2
section
variable {cls : Nat → Value} {C : CC} {pos : Pos} {a b d e : Expr} {ca cb cd : EC} {es : List Expr} {ces : LC}

/-! ### a[b] -/
theorem sat_asQ {K : Fg} {ρ : Rho} {H : Hp} {h : MH} {v : PV} {x : V} {k : List PV → Rs} {P : PV → MH → Prop} {E : Nat → MH → Prop} (rh : Rh K ρ h H) (r : RV K ρ H v x) (s : SatR (asQ k .bad h v) P E) :
    ∃ p xs vs, x = .ref p ∧ (SqL K H p vs ∨ SqT K H p vs) ∧ RVs K ρ H xs vs ∧ SatR (k xs) P E := by
  cases v with
  | tup xs =>
    obtain ⟨p, vs, e, h1, h2⟩ := rv_tup r
    exact ⟨p, xs, vs, e, .inr h1, h2.toV, s⟩
  | mtup xs =>
    obtain ⟨p, vs, e, h1, h2⟩ := rv_mtup r
    exact ⟨p, xs, vs, e, .inr h1, h2, s⟩
  | ref n =>
    obtain ⟨xs, e1, s⟩ := sat_lst s
    obtain ⟨p, e, ea⟩ := rv_ref r
    obtain ⟨vs, q1, q2⟩ := rh.lstV e1 ea
    exact ⟨p, xs, vs, e, .inl (.inl (.inl q1)), q2, s⟩
  | _ => exact s.elim
theorem nth_sat' {β : Type} {l : List β} {i : Nat} {k : β → Rs} {P : PV → MH → Prop} {E : Nat → MH → Prop} (s : SatR (ocs k .bad (nth l i)) P E) : ∃ v, l[i]? = some v ∧ SatR (k v) P E := by
  rw [nth_eq] at s
  cases q : l[i]? with
  | none => rw [q] at s; exact s.elim
  | some v => rw [q] at s; exact ⟨v, rfl, s⟩
theorem ixI_sat {xs : List PV} {i : Int} {k : PV → Rs} {P : PV → MH → Prop} {E : Nat → MH → Prop} (s : SatR (ixI xs i k .bad) P E) : ∃ v j, ixN xs.length i = some j ∧ xs[j]? = some v ∧ SatR (k v) P E := by
  cases i with
  | ofNat n =>
    obtain ⟨v, e, s⟩ := nth_sat' s
    have hn : n < xs.length := (List.getElem?_eq_some_iff.mp e).1
    refine ⟨v, n, ?_, e, s⟩
    unfold ixN
    rw [if_pos (by exact Int.natCast_nonneg n), if_pos (by simp only [Int.ofNat_eq_natCast]; omega)]
    rfl
  | negSucc n =>
    have s : SatR (fN (fun l => bcs (ocs k .bad (nth xs (Nat.sub l (Nat.succ n)))) .bad (Nat.ble (Nat.succ n) l)) (len xs)) P E := s
    rw [fN_eq, len_eq] at s
    obtain ⟨hb, s⟩ := sat_bcs s
    obtain ⟨v, e, s⟩ := nth_sat' s
    have hb := Nat.le_of_ble_eq_true hb
    refine ⟨v, xs.length - (n + 1), ?_, e, s⟩
    unfold ixN
    rw [if_neg (by omega), if_pos (by omega)]
    congr 1
    omega
theorem ok_idx : OpK (fun x y h => asI (fun i => asQ (fun xs => ixI xs i (fun v => okV v h) .bad) .bad h x) .bad y) (fun K x y H Q => rIxL K x y H Q ∨ rIxT K x y H Q) := by
  intro K ρ h H v w x y Q E rh r1 r2 s
  obtain ⟨i, e, s⟩ := sat_int s
  subst e
  obtain ⟨p, xs, vs, rfl, hq, rv, s⟩ := sat_asQ rh r1 s
  obtain ⟨u, j, hj, hu, s⟩ := ixI_sat s
  obtain ⟨ux, e2, ru⟩ := rv.get hu
  have q := sat_okV rh ru s
  have at_ : atI vs i = some ux := by
    unfold atI
    rw [← rv.length, hj]
    exact e2
  rw [rv_int r2]
  rcases hq with hq | hq
  · exact .inl ⟨p, vs, i, ux, rfl, rfl, hq, at_, q⟩
  · exact .inr ⟨p, vs, i, ux, rfl, rfl, hq, at_, q⟩
theorem oe_idx (hs : PlainIx b) (ha : OE cls C a ca) (hb : OE cls C b cb) : OE cls C (.Subscript a b pos) (cIdx ca cb) := fun X W c hc =>
  PE.imp (pe_ix (ix_list.or ix_tup) (ha X W c hc) (hb X W c hc) hs) fun _ _ _ t => two_of ok_idx t

/-! ### a[lo:hi] -/
def OO (cls : Nat → Value) (C : CC) (o : Option Expr) (p : Option EC) : Prop := ∀ X W c, Ctx cls C X W c → PO X o (fun σ H Q => ∃ ρ h e, At X.K e h σ ρ H ∧ ∃ k : Option Int → MH → Rs, ∃ P : PV → MH → Prop, SatR (partC p c e h k) P (FinX cls X.K W ρ H σ) ∧
  ∀ i h', SatR (k i h') P (FinX cls X.K W ρ H σ) → ∀ ρ' H', Stp ρ H ρ' H' → Rh X.K ρ' h' H' → Q i H')
theorem PO.imp {X : Cx} {e : Option Expr} {t u : TO} (p : PO X e t) (h : ∀ σ H Q, u σ H Q → t σ H Q) : PO X e u := ⟨fun pins s σ H Q I q => p.run pins s σ H Q I (h σ H Q q)⟩
theorem oo_none : OO cls C none none := fun X W c hc => PO.imp po_none fun σ H Q ⟨ρ, h, e, at_, k, P, s, f⟩ => f none h s ρ H (Stp.refl _ _) at_.rh
theorem oo_some (ha : OE cls C a ca) : OO cls C (some a) (some ca) := fun X W c hc => PO.imp (po_some (ha X W c hc)) fun σ H Q ⟨ρ, h, e, at_, k, P, s, f⟩ =>
  ⟨ρ, h, e, at_, (bnd_sat (f := fun v h => asI (fun i => k (some i) h) .bad v) s).mono (fun v h1 s1 ρ1 H1 x st rh rv => by
    obtain ⟨i, e, s1⟩ := sat_int s1
    subst e
    exact ⟨i, rv_int rv, f (some i) h1 s1 ρ1 H1 st rh⟩) fun _ _ q => q⟩
theorem sIxN_eq (n d : Nat) (o : Option Int) : sIxN n d o = HT.sIx n d o := by
  cases o with
  | none => rfl
  | some i =>
    cases i with
    | ofNat k =>
      show bcs k n (Nat.ble k n) = HT.sIx n d (some ((k : Nat) : Int))
      rw [HT.sIx_nat]
      cases e : Nat.ble k n with
      | true => have := Nat.le_of_ble_eq_true e; show k = min k n; omega
      | false =>
        have : ¬ k ≤ n := fun q => by rw [Nat.ble_eq_true_of_le q] at e; cases e
        show n = min k n; omega
    | negSucc k =>
      show Nat.sub n (Nat.succ k) = HT.sIx n d (some (Int.negSucc k))
      unfold HT.sIx
      simp only
      rw [if_pos (by omega)]
      show n - (k + 1) = _
      omega
theorem cutK_eq {α : Type} (xs : List PV) (lo hi : Option Int) (k : List PV → α) : cutK xs lo hi k = k ((xs.drop (HT.sIx xs.length 0 lo)).take (HT.sIx xs.length xs.length hi - HT.sIx xs.length 0 lo)) := by
  unfold cutK
  rw [fN_eq, fN_eq, fN_eq, takeK_eq, dropN_eq, len_eq, sIxN_eq, sIxN_eq]
  rfl
def rSlU (K : Fg) : V → Option Int → Option Int → Hp → VK → Prop := fun x lo hi H Q => rSlA K x lo hi H Q ∨ rSlL K x lo hi H Q
theorem oe_slice {lo hi : Option Expr} {cl ch : Option EC} {p2 : Pos} (ha : OE cls C a ca) (hl : OO cls C lo cl) (hh : OO cls C hi ch) : OE cls C (.Subscript a (.Slice lo hi none p2) pos) (cSl ca cl ch) := fun X W c hc =>
  PE.imp (pe_slice (r := rSlU X.K) (sl_tupA.or sl_list) (ha X W c hc) (hl X W c hc) (hh X W c hc)) fun σ H Q ⟨ρ, h, e, at_, s⟩ => by
    refine ⟨ρ, h, e, at_, (bnd_sat s).mono (fun v h1 s1 ρ1 H1 x st1 rh1 rv1 => ?_) fun _ _ q => q⟩
    refine ⟨ρ1, h1, e, at_.go st1 rh1, _, _, SatR.mono s1 (fun _ _ q => q) fun _ _ q => q.reb st1, fun l h2 s2 ρ2 H2 st2 rh2 => ?_⟩
    refine ⟨ρ2, h2, e, (at_.go st1 rh1).go st2 rh2, _, _, SatR.mono s2 (fun _ _ q => q) fun _ _ q => q.reb st2, fun u h3 s3 ρ3 H3 st3 rh3 => ?_⟩
    have st : Stp ρ H ρ3 H3 := st1.trans (st2.trans st3)
    have rv := rv1.step (st2.trans st3)
    have s3 := s3.mono (fun _ _ q => FinV.reb st q) fun _ _ q => q
    have tupC : ∀ xs p vs, x = .ref p → SqT X.K H3 p vs → RVs X.K ρ3 H3 xs vs → SatR (cutK xs l u fun r => okV (mkTup r) h3) (FinV X.K ρ3 H3 Q) (FinX cls X.K W ρ2 H2 σ) → rSlU X.K x l u H3 Q := fun xs p vs ex hq rvs s => by
      rw [cutK_eq] at s
      have hlen := rvs.length
      refine .inl ⟨p, vs, ex, hq, fun ⟨w1, w2⟩ => ?_, fun _ q hq' => ?_⟩
      · rw [hlen, w1, w2, List.drop_zero, ← hlen, Nat.sub_zero, List.take_length] at s
        exact sat_oldT rh3 rvs hq s
      · unfold cutV
        rw [hlen] at s
        exact sat_newT rh3 ((rvs.drop _).take _) s hq'
    cases v with
    | tup xs =>
      obtain ⟨p, vs, ex, h1, h2⟩ := rv_tup rv
      exact tupC xs p vs ex h1 h2.toV s3
    | mtup xs =>
      obtain ⟨p, vs, ex, h1, h2⟩ := rv_mtup rv
      exact tupC xs p vs ex h1 h2 s3
    | ref n =>
      obtain ⟨xs, e1, s3⟩ := sat_lst s3
      obtain ⟨p, ex, ea⟩ := rv_ref rv
      obtain ⟨vs, q1, q2⟩ := rh3.lstV e1 ea
      rw [cutK_eq, q2.length] at s3
      exact .inr ⟨p, vs, ex, .inl (.inl q1), fun p hp => sat_newL rh3 ((q2.drop _).take _) s3 hp⟩
    | _ => exact s3.elim

/-! ### built-ins by name -/
/-- the name of a built-in -/
structure Bn (C : CC) (x : Str) (u : Value) : Prop where
  g : C.sc.names.lookup x = some .globalImplicit
  m : C.gl x = some .blt
  v : bootBuiltins x = some u
  n : x ≠ "__name__"
  d : (x == ("__debug__" : Str)) = false
theorem Ctx.gl_of {X : Cx} {W : WX} {c : CF} (hc : Ctx cls C X W c) {x : Str} (h : C.sc.names.lookup x = some .globalImplicit) : Gl X x := by
  show X.env.scope.names.lookup x = _
  rw [hc.sc]; exact h
/-- one argument's reading -/
theorem tA1 {X : Cx} {W : WX} {c : CF} {f : PV → MH → Rs} {σ : L2.St} {H : Hp} {Q : VK} {r : List V → Hp → VK → Prop}
    (hf : ∀ ρ h H v x Q E, Rh X.K ρ h H → RV X.K ρ H v x → SatR (f v h) (FinV X.K ρ H Q) E → r [x] H Q)
    (t : tE cls X.K W c (fun c e h => bnd (ca c e h) f) σ H Q) : tCB r (tCons (tE cls X.K W c ca) tNil) σ H Q := by
  obtain ⟨ρ, h, e, at_, s⟩ := t
  exact ⟨ρ, h, e, at_, (bnd_sat s).mono (fun v h1 s1 ρ1 H1 x st1 rh1 rv1 => hf ρ1 h1 H1 v x Q _ rh1 rv1 (SatR.mono s1 (fun _ _ q => FinV.reb st1 q) fun _ _ q => q)) fun _ _ q => q⟩
theorem oe_b1 {x : Str} {id : String} {p : Pos} {f : PV → MH → Rs} {r : Fg → List V → Hp → VK → Prop} (bn : Bn C x (.builtin id)) (hr : ∀ X W c, Ctx cls C X W c → CallR X (.builtin id) (r X.K)) (hn : notStar a = true)
    (hf : ∀ K ρ h H v x Q E, Rh K ρ h H → RV K ρ H v x → SatR (f v h) (FinV K ρ H Q) E → r K [x] H Q) (ha : OE cls C a ca) : OE cls C (.Call (.Name x p) [a] [] pos) (fun c e h => bnd (ca c e h) f) := fun X W c hc =>
  PE.imp (pe_callB (hr X W c hc) (hc.gl_of bn.g) (hc.blts x bn.m) bn.v (pa_cons (ha X W c hc) pa_nil (star_cons hn _)) bn.n bn.d (star_cons hn _) rfl) fun _ _ _ t => tA1 (hf X.K) t
theorem oe_t1 {x : Str} {T : String} {p : Pos} {f : PV → MH → Rs} {r : Fg → List V → Hp → VK → Prop} (bn : Bn C x (.type T)) (hr : ∀ X W c, Ctx cls C X W c → CallR X (.type T) (r X.K)) (hn : notStar a = true)
    (hf : ∀ K ρ h H v x Q E, Rh K ρ h H → RV K ρ H v x → SatR (f v h) (FinV K ρ H Q) E → r K [x] H Q) (ha : OE cls C a ca) : OE cls C (.Call (.Name x p) [a] [] pos) (fun c e h => bnd (ca c e h) f) := fun X W c hc =>
  PE.imp (pe_callTy (hr X W c hc) (hc.gl_of bn.g) (hc.blts x bn.m) bn.v (pa_cons (ha X W c hc) pa_nil (star_cons hn _)) bn.n bn.d (star_cons hn _) rfl) fun _ _ _ t => tA1 (hf X.K) t
/-- the argument a list made on the way -/
theorem tL1 {X : Cx} {W : WX} {c : CF} {l : LC} {f : List PV → MH → Rs} {σ : L2.St} {H : Hp} {Q : VK} {r : List V → Hp → VK → Prop}
    (hf : ∀ ρ h H vs p xs Q E, Rh X.K ρ h H → H p = some (.lst xs) → RVs X.K ρ H vs xs → SatR (f vs h) (FinV X.K ρ H Q) E → r [.ref p] H Q)
    (t : tE cls X.K W c (fun c e h => bndL (l c e h) f) σ H Q) : tCB r (tCons (tL cls X.K W c l) tNil) σ H Q := by
  obtain ⟨ρ, h, e, at_, s⟩ := t
  exact ⟨ρ, h, e, at_, (bndL_sat s).mono (fun vs h1 s1 ρ1 H1 p xs st1 rh1 hp np hq rv1 => hf ρ1 h1 H1 vs p xs Q _ rh1 hq rv1 (SatR.mono s1 (fun _ _ q => FinV.reb st1 q) fun _ _ q => q)) fun _ _ q => q⟩
theorem oe_bL {x : Str} {id : String} {p : Pos} {l : LC} {f : List PV → MH → Rs} {r : Fg → List V → Hp → VK → Prop} (bn : Bn C x (.builtin id)) (hr : ∀ X W c, Ctx cls C X W c → CallR X (.builtin id) (r X.K)) (hn : notStar a = true)
    (hf : ∀ K ρ h H vs p xs Q E, Rh K ρ h H → H p = some (.lst xs) → RVs K ρ H vs xs → SatR (f vs h) (FinV K ρ H Q) E → r K [.ref p] H Q) (ha : OL cls C a l) : OE cls C (.Call (.Name x p) [a] [] pos) (fun c e h => bndL (l c e h) f) := fun X W c hc =>
  PE.imp (pe_callB (hr X W c hc) (hc.gl_of bn.g) (hc.blts x bn.m) bn.v (pa_cons (ha X W c hc) pa_nil (star_cons hn _)) bn.n bn.d (star_cons hn _) rfl) fun _ _ _ t => tL1 (hf X.K) t
theorem oe_tL {x : Str} {T : String} {p : Pos} {l : LC} {f : List PV → MH → Rs} {r : Fg → List V → Hp → VK → Prop} (bn : Bn C x (.type T)) (hr : ∀ X W c, Ctx cls C X W c → CallR X (.type T) (r X.K)) (hn : notStar a = true)
    (hf : ∀ K ρ h H vs p xs Q E, Rh K ρ h H → H p = some (.lst xs) → RVs K ρ H vs xs → SatR (f vs h) (FinV K ρ H Q) E → r K [.ref p] H Q) (ha : OL cls C a l) : OE cls C (.Call (.Name x p) [a] [] pos) (fun c e h => bndL (l c e h) f) := fun X W c hc =>
  PE.imp (pe_callTy (hr X W c hc) (hc.gl_of bn.g) (hc.blts x bn.m) bn.v (pa_cons (ha X W c hc) pa_nil (star_cons hn _)) bn.n bn.d (star_cons hn _) rfl) fun _ _ _ t => tL1 (hf X.K) t
/-- two arguments -/
theorem oe_b2 {x : Str} {id : String} {p : Pos} {f : PV → PV → MH → Rs} {r : Fg → List V → Hp → VK → Prop} (bn : Bn C x (.builtin id)) (hr : ∀ X W c, Ctx cls C X W c → CallR X (.builtin id) (r X.K)) (hn : notStar a = true) (hn2 : notStar b = true)
    (hf : OpK f fun K x y H Q => r K [x, y] H Q) (ha : OE cls C a ca) (hb : OE cls C b cb) : OE cls C (.Call (.Name x p) [a, b] [] pos) (cOp f ca cb) := fun X W c hc =>
  PE.imp (pe_callB (hr X W c hc) (hc.gl_of bn.g) (hc.blts x bn.m) bn.v (pa_cons (ha X W c hc) (pa_cons (hb X W c hc) pa_nil (star_cons hn2 _)) (star_cons hn _)) bn.n bn.d (star_cons hn _) (star_any pos X.env [b] (by simp [hn2]))) fun σ H Q t => two_of hf t

theorem oe_len {p : Pos} (bn : Bn C "len" (.builtin "len")) (hn : notStar a = true) (ha : OE cls C a ca) : OE cls C (.Call (.Name "len" p) [a] [] pos) (cLen ca) :=
  oe_b1 (r := fun K => fun xs H Q => ∃ p ys, xs = [.ref p] ∧ (SqL K H p ys ∨ SqT K H p ys) ∧ Q (.int ys.length) H) bn (fun X _ _ _ => call_len_seq) hn (fun K ρ h H v x Q E rh rv s => by
    obtain ⟨p, xs, vs, e, hq, r, s⟩ := sat_asQ rh rv s
    rw [len_eq, r.length] at s
    exact ⟨p, vs, by rw [e], hq, sat_okI rh s⟩) ha
theorem oe_lenL {p : Pos} {l : LC} (bn : Bn C "len" (.builtin "len")) (hn : notStar a = true) (ha : OL cls C a l) : OE cls C (.Call (.Name "len" p) [a] [] pos) (cLenL l) :=
  oe_bL (r := fun K => fun xs H Q => ∃ p ys, xs = [.ref p] ∧ (SqL K H p ys ∨ SqT K H p ys) ∧ Q (.int ys.length) H) bn (fun X _ _ _ => call_len_seq) hn (fun K ρ h H vs p xs Q E rh hp rv s => by
    rw [len_eq, rv.length] at s
    exact ⟨p, xs, rfl, .inl (.inl (.inl hp)), sat_okI rh s⟩) ha
theorem oe_abs {p : Pos} (bn : Bn C "abs" (.builtin "abs")) (hn : notStar a = true) (ha : OE cls C a ca) : OE cls C (.Call (.Name "abs" p) [a] [] pos) (cAbs ca) :=
  oe_b1 (r := fun K => fun xs H Q => ∃ i, xs = [.int i] ∧ Q (.int (if i < 0 then -i else i)) H) bn (fun X _ _ _ => call_abs) hn (fun K ρ h H v x Q E rh rv s => by
    obtain ⟨i, e, s2⟩ := sat_int s
    subst e
    refine ⟨i, by rw [rv_int rv], ?_⟩
    have q := sat_okI rh s2
    rw [show (if i < 0 then -i else i) = Int.ofNat (Int.natAbs i) by simp only [Int.ofNat_eq_natCast]; split <;> omega]
    exact q) ha
theorem oe_intc {p : Pos} (bn : Bn C "int" (.type "int")) (hn : notStar a = true) (ha : OE cls C a ca) : OE cls C (.Call (.Name "int" p) [a] [] pos) (cInt ca) :=
  oe_t1 (r := fun K => fun xs H Q => (∃ i, xs = [.int i] ∧ Q (.int i) H) ∨ ∃ k, xs = [.bl k] ∧ Q (.int (if k then 1 else 0)) H) bn (fun X _ _ _ => call_int1) hn (fun K ρ h H v x Q E rh rv s => by
    cases v with
    | bl b => exact .inr ⟨b, by rw [rv_bl rv], by rw [← b2I_eq]; exact sat_ok (v := .int (b2I b)) rh (.pure (.int _)) s⟩
    | int i => exact .inl ⟨i, by rw [rv_int rv], sat_ok (v := .int i) rh (.pure (.int _)) s⟩
    | _ => exact s.elim) ha
def rTupOf (K : Fg) : List V → Hp → VK → Prop := fun xs H Q => ∃ p ys, xs = [.ref p] ∧ ((SqL K H p ys ∧ ∀ l, H l = none → Q (.ref l) (upd H l (.tup ys))) ∨ (SqT K H p ys ∧ Q (.ref p) H))
theorem oe_tupQ {p : Pos} (bn : Bn C "tuple" (.type "tuple")) (hn : notStar a = true) (ha : OE cls C a ca) : OE cls C (.Call (.Name "tuple" p) [a] [] pos) (cTupQ ca) :=
  oe_t1 (r := rTupOf) bn (fun X _ _ hc => call_tuple_of) hn (fun K ρ h H v x Q E rh rv s => by
    cases v with
    | tup xs =>
      obtain ⟨p, vs, e, h1, h2⟩ := rv_tup rv
      exact ⟨p, vs, by rw [e], .inr ⟨h1, by rw [← e]; exact sat_ok rh rv s⟩⟩
    | mtup xs =>
      obtain ⟨p, vs, e, h1, h2⟩ := rv_mtup rv
      exact ⟨p, vs, by rw [e], .inr ⟨h1, by rw [← e]; exact sat_ok rh rv s⟩⟩
    | ref n =>
      obtain ⟨xs, e1, s⟩ := sat_lst s
      obtain ⟨p, e, ea⟩ := rv_ref rv
      obtain ⟨vs, q1, q2⟩ := rh.lstV e1 ea
      exact ⟨p, vs, by rw [e], .inl ⟨.inl (.inl q1), fun l hl => sat_newT rh q2 s hl⟩⟩
    | _ => exact s.elim) ha
theorem oe_tupL {p : Pos} {l : LC} (bn : Bn C "tuple" (.type "tuple")) (hn : notStar a = true) (ha : OL cls C a l) : OE cls C (.Call (.Name "tuple" p) [a] [] pos) (cTupL l) :=
  oe_tL (r := rTupOf) bn (fun X _ _ hc => call_tuple_of) hn (fun K ρ h H vs p xs Q E rh hp rv s => ⟨p, xs, rfl, .inl ⟨.inl (.inl hp), fun l hl => sat_newT rh rv s hl⟩⟩) ha
theorem allBl_rel {K : Fg} {ρ : Rho} {H : Hp} : ∀ {xs : List PV} {vs : List V} {b : Bool}, RVs K ρ H xs vs → allBl xs = some b → ∃ bs : List Bool, vs = bs.map V.bl ∧ b = bs.all id
  | [], _, b, .nil, h => ⟨[], rfl, by cases h; rfl⟩
  | x :: xs, _, b, .cons r1 r2, h => by
    cases x with
    | bl c =>
      have h : ocs (fun t => some (bcs t false c)) none (allBl xs) = some b := h
      cases e : allBl xs with
      | none => rw [e] at h; cases h
      | some t =>
        rw [e] at h
        obtain ⟨bs, e1, e2⟩ := allBl_rel r2 e
        refine ⟨c :: bs, by rw [rv_bl r1, e1]; rfl, ?_⟩
        have h : bcs t false c = b := Option.some.inj h
        subst h e2
        cases c <;> rfl
    | _ => cases h
theorem oe_allL {p : Pos} {l : LC} (bn : Bn C "all" (.builtin "all")) (hn : notStar a = true) (ha : OL cls C a l) : OE cls C (.Call (.Name "all" p) [a] [] pos) (cAllL l) :=
  oe_bL (r := rAll) bn (fun X _ _ hc => cr_all hc.calm) hn (fun K ρ h H vs p xs Q E rh hp rv s => by
    cases e : allBl vs with
    | none =>
      have s : SatR (ocs (fun b => okB b h) .bad (allBl vs)) (FinV K ρ H Q) E := s
      rw [e] at s; exact s.elim
    | some b =>
      have s : SatR (ocs (fun b => okB b h) .bad (allBl vs)) (FinV K ρ H Q) E := s
      rw [e] at s
      obtain ⟨bs, e1, e2⟩ := allBl_rel rv e
      subst e1 e2
      exact ⟨p, bs, rfl, .inl (.inl hp), sat_okB rh s⟩) ha
theorem oe_max {p : Pos} (bn : Bn C "max" (.builtin "max")) (hn : notStar a = true) (hn2 : notStar b = true) (ha : OE cls C a ca) (hb : OE cls C b cb) : OE cls C (.Call (.Name "max" p) [a, b] [] pos) (cMax ca cb) :=
  oe_b2 (r := fun _ xs H Q => ∃ i j, xs = [.int i, .int j] ∧ Q (.int (if j > i then j else i)) H) bn (fun X _ _ hc => call_max2 hc.calm) hn hn2 (ok_I2 fun K ρ h H i j Q E rh s => ⟨i, j, rfl, by
    have q := sat_okI rh s
    rw [ltI_eq] at q
    by_cases z : i < j
    · rw [if_pos z]; rw [decide_eq_true z] at q; exact q
    · rw [if_neg z]; rw [decide_eq_false z] at q; exact q⟩) ha hb
/-- list(x): a new list -/
def rListOf (K : Fg) : List V → Hp → VK → Prop := fun xs H Q => ∃ p ys, xs = [.ref p] ∧ (SqL K H p ys ∨ SqT K H p ys) ∧ ∀ l, H l = none → Q (.ref l) (upd H l (.lst ys))
theorem satL_asQ {K : Fg} {ρ : Rho} {H : Hp} {h : MH} {v : PV} {x : V} {k : List PV → Rl} {P : List PV → MH → Prop} {E : Nat → MH → Prop} (rh : Rh K ρ h H) (r : RV K ρ H v x) (s : SatL (asQ k .bad h v) P E) :
    ∃ p xs vs, x = .ref p ∧ (SqL K H p vs ∨ SqT K H p vs) ∧ RVs K ρ H xs vs ∧ SatL (k xs) P E := by
  cases v with
  | tup xs =>
    obtain ⟨p, vs, e, h1, h2⟩ := rv_tup r
    exact ⟨p, xs, vs, e, .inr h1, h2.toV, s⟩
  | mtup xs =>
    obtain ⟨p, vs, e, h1, h2⟩ := rv_mtup r
    exact ⟨p, xs, vs, e, .inr h1, h2, s⟩
  | ref n =>
    have s : SatL (lstAt k .bad h n) P E := s
    unfold lstAt at s
    rw [nth_eq] at s
    cases q : h[n]? with
    | none => rw [q] at s; exact s.elim
    | some o =>
      rw [q] at s
      cases o with
      | dct kvs => exact s.elim
      | lst xs =>
        obtain ⟨p, e, ea⟩ := rv_ref r
        obtain ⟨vs, q1, q2⟩ := rh.lstV q ea
        exact ⟨p, xs, vs, e, .inl (.inl (.inl q1)), q2, s⟩
  | _ => exact s.elim
theorem ol_list {p : Pos} (bn : Bn C "list" (.type "list")) (hn : notStar a = true) (ha : OE cls C a ca) : OL cls C (.Call (.Name "list" p) [a] [] pos) (lList ca) := fun X W c hc =>
  PE.imp (pe_callTy (r := rListOf X.K) call_list_of (hc.gl_of bn.g) (hc.blts _ bn.m) bn.v (pa_cons (ha X W c hc) pa_nil (star_cons hn _)) bn.n bn.d (star_cons hn _) rfl) fun σ H Q ⟨ρ, h, e, at_, s⟩ =>
    ⟨ρ, h, e, at_, (bndRL_sat s).mono (fun v h1 s1 ρ1 H1 x st1 rh1 rv1 => by
      obtain ⟨p, xs, vs, e, hq, rvs, s1⟩ := satL_asQ rh1 rv1 s1
      refine ⟨p, vs, by rw [e], hq, fun l hl => ?_⟩
      have st2 := stp_new (ρ := ρ1) (.lst vs) hl
      exact s1 ρ1 _ l vs (st1.trans st2) (rh_new rh1 _ hl) (st1.none_of hl) (rh1.unk hl) upd_same (rvs.step st2)) fun _ _ q => q⟩
end
end Tn

set_option maxHeartbeats 4000000
/-! isinstance, methods, defs called -/
namespace Tn
open PySem PySem.Spec PyProof.Rows L2
section
variable {cls : Nat → Value} {C : CC} {pos : Pos} {a b d e : Expr} {ca cb cd : EC} {es : List Expr} {ces : LC}

/-! ### isinstance -/
def ansB : List String → String → Option Bool
  | [], _ => some false
  | c :: cs, a => match kitB a c with
    | some true => some true
    | some false => ansB cs a
    | none => none
theorem ansB_ok {K : Fg} {a : String} : ∀ {cs : List String} {b : Bool}, ansB cs a = some b → PySem.W.kitAny K (.type a) (cs.map Value.type) = some b
  | [], b, h => by cases h; exact kitAny_nil
  | c :: cs, b, h => by
    unfold ansB at h
    cases q : kitB a c with
    | none => rw [q] at h; cases h
    | some r =>
      rw [q] at h
      cases r with
      | true => cases h; exact kitAny_cons (kit_ty q) (fun z => by cases z) (fun _ => rfl)
      | false => exact kitAny_cons (kit_ty q) (fun _ => ansB_ok h) (fun z => by cases z)
theorem tyx_tup {K : Fg} {H : Hp} {p : Addr} {vs : List V} (h : SqT K H p vs) : TyX K H (.ref p) (.type "tuple") := by
  rcases h with (h | ⟨o, h⟩) | ⟨o, its, n, h, c, _⟩
  · exact .base (.tup h)
  · exact .fTuple h
  · exact .kTuple h c
/-- the answers for None, bool, int, str, tuple, list -/
structure Isi (cs : List String) (n b i s t l : Bool) : Prop where
  n : ansB cs "NoneType" = some n
  b : ansB cs "bool" = some b
  i : ansB cs "int" = some i
  s : ansB cs "str" = some s
  t : ansB cs "tuple" = some t
  l : ansB cs "list" = some l
theorem isi_sat {cs : List String} {n b i s t l : Bool} (I : Isi cs n b i s t l) {K : Fg} {ρ : Rho} {h : MH} {H : Hp} {v : PV} {x : V} {Q : VK} {E : Nat → MH → Prop} (rh : Rh K ρ h H) (rv : RV K ρ H v x)
    (q : SatR (PV.cs (.ok (.bl n) h) (fun _ => .ok (.bl b) h) (fun _ => .ok (.bl i) h) (fun _ => .ok (.bl s) h) (fun _ => .ok (.bl t) h) (fun _ => .ok (.bl t) h) (fun m => lstAt (fun _ => .ok (.bl l) h) .bad h m) .bad .bad v) (FinV K ρ H Q) E) :
    ∃ T r, TyX K H x (.type T) ∧ ansB cs T = some r ∧ Q (.bl r) H := by
  have fin : ∀ r : Bool, SatR (.ok (.bl r) h) (FinV K ρ H Q) E → Q (.bl r) H := fun r s => sat_ok (v := .bl r) rh (.pure (.bl r)) s
  cases v with
  | non => exact ⟨_, n, by rw [rv_non rv]; exact .base .non, I.n, fin n q⟩
  | bl z => exact ⟨_, b, by rw [rv_bl rv]; exact .base (.bl z), I.b, fin b q⟩
  | int z => exact ⟨_, i, by rw [rv_int rv]; exact .base (.int z), I.i, fin i q⟩
  | str z => exact ⟨_, s, by rw [rv_str rv]; exact .base (.str z), I.s, fin s q⟩
  | tup xs => obtain ⟨p, vs, e, h1, _⟩ := rv_tup rv; exact ⟨_, t, by rw [e]; exact tyx_tup h1, I.t, fin t q⟩
  | mtup xs => obtain ⟨p, vs, e, h1, _⟩ := rv_mtup rv; exact ⟨_, t, by rw [e]; exact tyx_tup h1, I.t, fin t q⟩
  | ref m =>
    obtain ⟨xs, e1, q⟩ := sat_lst q
    obtain ⟨p, e, ea⟩ := rv_ref rv
    obtain ⟨vs, q1, q2⟩ := rh.lstV e1 ea
    exact ⟨_, l, by rw [e]; exact .base (.lst q1), I.l, fin l q⟩
  | _ => exact q.elim
theorem oe_isi1 {T : Str} {Ts : String} {p q : Pos} {n b i s t l : Bool} (bn : Bn C "isinstance" (.builtin "isinstance")) (bt : Bn C T (.type Ts)) (hn : notStar a = true) (I : Isi [Ts] n b i s t l) (ha : OE cls C a ca) :
    OE cls C (.Call (.Name "isinstance" p) [a, .Name T q] [] pos) (cIsI n b i s t l ca) := fun X W c hc =>
  PE.imp (pe_callB (r := rIsi X.K) call_isi (hc.gl_of bn.g) (hc.blts _ bn.m) bn.v (pa_cons (ha X W c hc) (pa_cons (pe_bltn (v := .ty Ts) (hc.gl_of bt.g) (hc.blts _ bt.m) bt.v rfl bt.n bt.d) pa_nil) (star_cons hn _)) bn.n bn.d (star_cons hn _) rfl) fun σ H Q ⟨ρ, h, e, at_, sat⟩ =>
    ⟨ρ, h, e, at_, (bnd_sat sat).mono (fun v h1 s1 ρ1 H1 x st1 rh1 rv1 => by
      obtain ⟨T', r, h1, h2, h3⟩ := isi_sat I rh1 rv1 (s1.mono (fun _ _ q => FinV.reb st1 q) fun _ _ q => q)
      refine ⟨x, .ty Ts, .type T', .type Ts, r, rfl, .ty Ts, h1, ?_, h3⟩
      have z := ansB_ok (K := X.K) h2
      unfold ansB at h2
      cases q : kitB T' Ts with
      | none => rw [q] at h2; cases h2
      | some k =>
        rw [q] at h2
        cases k with
        | true => cases h2; exact kit_ty q
        | false => cases h2; exact kit_ty q) fun _ _ q => q⟩
theorem pa_tys {X : Cx} {W : WX} {c : CF} (hc : Ctx cls C X W c) : ∀ (ts : List (Str × String × Pos)), (∀ z ∈ ts, Bn C z.1 (.type z.2.1)) → PA X (ts.map fun z => Expr.Name z.1 z.2.2) (fun σ H Q => Q (ts.map fun z => V.ty z.2.1) H)
  | [], _ => PA.imp pa_nil fun _ _ _ q => q
  | z :: ts, h => by
    have bt := h z List.mem_cons_self
    exact PA.imp (pa_cons (pe_bltn (v := .ty z.2.1) (hc.gl_of bt.g) (hc.blts _ bt.m) bt.v rfl bt.n bt.d) (pa_tys hc ts fun y hy => h y (List.mem_cons_of_mem _ hy))) fun _ _ _ q => q
theorem cls_tys : ∀ ts : List (Str × String × Pos), Paired ClsV (ts.map fun z => V.ty z.2.1) ((ts.map fun z => z.2.1).map Value.type)
  | [] => .nil
  | z :: ts => .cons (.ty _) (cls_tys ts)
theorem oe_isiT {ts : List (Str × String × Pos)} {p q : Pos} {k : Nat} {n b i s t l : Bool} (bn : Bn C "isinstance" (.builtin "isinstance")) (bt : ∀ z ∈ ts, Bn C z.1 (.type z.2.1)) (hl : ts.length ≤ 100) (hn : notStar a = true) (I : Isi (ts.map fun z => z.2.1) n b i s t l) (ha : OE cls C a ca) :
    OE cls C (.Call (.Name "isinstance" p) [a, .Tuple (ts.map fun z => Expr.Name z.1 z.2.2) k q] [] pos) (cIsI n b i s t l ca) := fun X W c hc =>
  PE.imp (pe_callB (r := rIsiT X.K) call_isiT (hc.gl_of bn.g) (hc.blts _ bn.m) bn.v (pa_cons (ha X W c hc) (pa_cons (pe_tup (pa_tys hc ts bt)) pa_nil) (star_cons hn _)) bn.n bn.d (star_cons hn _) rfl) fun σ H Q ⟨ρ, h, e, at_, sat⟩ =>
    ⟨ρ, h, e, at_, (bnd_sat sat).mono (fun v h1 s1 ρ1 H1 x st1 rh1 rv1 => by
      refine ⟨by rw [List.length_map]; exact Nat.le_trans hl (by decide), fun tp htp => ?_⟩
      have st2 := stp_new (ρ := ρ1) (.tup (ts.map fun z => V.ty z.2.1)) htp
      obtain ⟨T', r, h1, h2, h3⟩ := isi_sat I (rh_new rh1 _ htp) (rv1.step st2) (s1.mono (fun _ _ q => FinV.reb (st1.trans st2) q) fun _ _ q => q)
      exact ⟨x, tp, _, .type T', _, r, rfl, upd_same, cls_tys ts, h1, ansB_ok h2, h3⟩) fun _ _ q => q⟩

/-! ### methods of lists -/
def okBase : Expr → Bool
  | .Name .. => true
  | .Subscript .. => true
  | .Call (.Name ..) (_ :: _) _ _ => true
  | _ => false
theorem base_ok (h : okBase a = true) (m : Str) (env : Env) : attributeBase a m env (eval a env) = eval a env := by
  cases a with
  | Name => rfl
  | Subscript => rfl
  | Call f as ks p =>
    cases f with
    | Name x q =>
      cases as with
      | nil => cases h
      | cons => rfl
    | _ => cases h
  | _ => cases h
theorem few1 (hn : notStar b = true) (env : Env) (cpos : Pos) : ((backTo cpos (starEach (b :: []) env)).all (fun x => !x.1) && (backToKw cpos (keywordEach [] env)).all (fun x => x.1.isSome) && decide ((b :: ([] : List Expr)).length + ([] : List Keyword).length + (if ([] : List Keyword).isEmpty then 0 else 1) < 30)) = true := by
  rw [star_cons hn]; rfl
theorem tyV_lst {K : Fg} {H : Hp} {p : Addr} {vs : List V} (h : H p = some (.lst vs)) : tyV K "list" (.ref p) H := .inl ⟨rfl, vs, .inl (.inl h)⟩
/-- a method of a list with one argument, by values -/
def KOk (k : PV → Nat → List PV → MH → Rs) (r : Fg → V → List V → Hp → VK → Prop) : Prop := ∀ (K : Fg) (ρ : Rho) (h : MH) (H : Hp) (w : PV) (n : Nat) (xs : List PV) (y : V) (p : Addr) (vs : List V) (Q : VK) (E : Nat → MH → Prop),
  Rh K ρ h H → h[n]? = some (.lst xs) → ρ n = some p → H p = some (.lst vs) → RVs K ρ H xs vs → RV K ρ H w y → SatR (k w n xs h) (FinV K ρ H Q) E → r K (.ref p) [y] H Q
theorem oe_met {m : Str} {id : String} {apos : Pos} {k : PV → Nat → List PV → MH → Rs} {r : Fg → V → List V → Hp → VK → Prop} (slot : Slot "list" m id) (hty : typeOf (.builtin id) = pure (.type "method_descriptor")) (hm : ∀ X W c, Ctx cls C X W c → MtR X id (r X.K)) (hk : KOk k r)
    (ho : okBase a = true) (hl : (apos.endLine == pos.line) = true) (hn : notStar b = true) (ha : OE cls C a ca) (hb : OE cls C b cb) : OE cls C (.Call (.Attribute a m apos) [b] [] pos) (cMet k ca cb) := fun X W c hc =>
  PE.imp (pe_bm PySem.F.plainAttrs_list slot hty (hm X W c hc) (ha X W c hc) (pa_cons (hb X W c hc) pa_nil (star_cons hn _)) (base_ok ho _ _) (few1 hn _ _) hl (star_cons hn _) rfl) fun σ H Q ⟨ρ, h, e, at_, s⟩ => by
    refine ⟨ρ, h, e, at_, (bnd_sat s).mono (fun v h1 s1 ρ1 H1 x st1 rh1 rv1 => ?_) fun _ _ q => q⟩
    obtain ⟨n, e0, s1⟩ := sat_ref s1
    subst e0
    obtain ⟨xs, e1, s1⟩ := sat_lst s1
    obtain ⟨p, e2, ea⟩ := rv_ref rv1
    obtain ⟨vs, q1, q2⟩ := rh1.lstV e1 ea
    subst e2
    refine ⟨tyV_lst q1, ρ1, h1, e, at_.go st1 rh1, (bnd_sat s1).mono (fun w h2 s2 ρ2 H2 y st2 rh2 rv2 => ?_) fun _ _ q => q.reb st1⟩
    obtain ⟨xs', e3, s2⟩ := sat_lst s2
    have eb := st2.inc _ _ ea
    obtain ⟨vs', q3, q4⟩ := rh2.lstV e3 eb
    exact hk X.K ρ2 h2 H2 w n xs' y p vs' Q _ rh2 e3 eb q3 q4 rv2 (s2.mono (fun _ _ q => FinV.reb (st1.trans st2) q) fun _ _ q => q)
theorem kok_app : KOk kApp (fun _ => rAppend) := fun K ρ h H w n xs y p vs Q E rh e1 e2 hp rvs rv s => by
  obtain ⟨hb, s⟩ := sat_bcs s
  have hb := Nat.le_of_ble_eq_true hb
  rw [len_eq, rvs.length] at hb
  rw [appK_eq] at s
  exact ⟨p, vs, y, rfl, rfl, hp, hb, sat_put rh e2 hp trivial (.lst (rvs.append (.cons rv .nil))) (.pure .non) s⟩
theorem oe_app {apos : Pos} (ho : okBase a = true) (hl : (apos.endLine == pos.line) = true) (hn : notStar b = true) (ha : OE cls C a ca) (hb : OE cls C b cb) : OE cls C (.Call (.Attribute a "append" apos) [b] [] pos) (cApp ca cb) :=
  oe_met (r := fun _ => rAppend) PySem.F.slot_list_append PySem.F.type_list_append (fun X _ _ _ => by intro a1 a2 a3 a4 a5 a6 a7 a8 a9; exact mt_append a1 a2 a3 a4 a5 a6 a7 a8 a9) kok_app ho hl hn ha hb
theorem idx_go {x : PV} (hx : shp 8 x = true) {h : MH} {P : PV → MH → Prop} {E : Nat → MH → Prop} : ∀ (xs : List PV) (i : Nat), xs.all (shp 8) = true →
    SatR (List.rec (motive := fun _ => Nat → Rs) (fun _ => .bad) (fun y _ ih i => bcs (okI (.ofNat i) h) (fN (fun j => ih j) (Nat.succ i)) (Tn.eqV 8 y x)) xs i) P E →
    ∃ j z, (toDs xs)[j]? = some z ∧ PyData.eqv z (toD x) = true ∧ (∀ m z', m < j → (toDs xs)[m]? = some z' → PyData.eqv z' (toD x) = false) ∧ SatR (okI (.ofNat (i + j)) h) P E
  | [], i, _, s => s.elim
  | y :: ys, i, ha, s => by
    simp only [List.all_cons, Bool.and_eq_true] at ha
    have s : SatR (bcs (okI (.ofNat i) h) (fN (fun j => List.rec (motive := fun _ => Nat → Rs) (fun _ => .bad) (fun y _ ih i => bcs (okI (.ofNat i) h) (fN (fun j => ih j) (Nat.succ i)) (Tn.eqV 8 y x)) ys j) (Nat.succ i)) (Tn.eqV 8 y x)) P E := s
    rw [eqV_of 8 y x ha.1 hx] at s
    cases q : PyData.eqv (toD y) (toD x) with
    | true =>
      rw [q] at s
      exact ⟨0, toD y, rfl, q, fun m z' hm => absurd hm (by omega), s⟩
    | false =>
      rw [q] at s
      have s : SatR (fN (fun j => List.rec (motive := fun _ => Nat → Rs) (fun _ => .bad) (fun y _ ih i => bcs (okI (.ofNat i) h) (fN (fun j => ih j) (Nat.succ i)) (Tn.eqV 8 y x)) ys j) (Nat.succ i)) P E := s
      rw [fN_eq] at s
      obtain ⟨j, z, h1, h2, h3, s⟩ := idx_go hx ys (i + 1) ha.2 s
      refine ⟨j + 1, z, by simpa [toDs] using h1, h2, fun m z' hm hz => ?_, by rw [show i + (j + 1) = i + 1 + j by omega]; exact s⟩
      cases m with
      | zero =>
        have : toD y = z' := by simpa [toDs] using hz
        rw [← this]; exact q
      | succ m => exact h3 m z' (by omega) (by simpa [toDs] using hz)
theorem kok_idx : KOk kIdx rIndexD := fun K ρ h H w n xs y p vs Q E rh e1 e2 hp rvs rv s => by
  obtain ⟨f1, s⟩ := sat_bcs s
  obtain ⟨f2, s⟩ := sat_bcs s
  rw [allB_eq] at f2
  obtain ⟨j, z, h1, h2, h3, s⟩ := idx_go f1 xs 0 f2 s
  rw [Nat.zero_add] at s
  exact ⟨p, y, toD w, toDs xs, j, z, rfl, rfl, .lst (.inl (.inl hp)) (rvs.toP (shps_pure f2)).dp, (rv.toP (shp_pure f1)).dp, shps_shaped f2, shp_shaped f1, h1, h2, h3, sat_okI rh s⟩
theorem oe_index {apos : Pos} (ho : okBase a = true) (hl : (apos.endLine == pos.line) = true) (hn : notStar b = true) (hu : ∀ X W c, Ctx cls C X W c → X.A.units + 65 < cLine) (ha : OE cls C a ca) (hb : OE cls C b cb) : OE cls C (.Call (.Attribute a "index" apos) [b] [] pos) (cIndex ca cb) :=
  oe_met PySem.F.slot_list_index PySem.F.type_list_index (fun X W c hc => mt_indexD (hu X W c hc)) kok_idx ho hl hn ha hb
theorem oe_pop {apos : Pos} (ho : okBase a = true) (hl : (apos.endLine == pos.line) = true) (ha : OE cls C a ca) : OE cls C (.Call (.Attribute a "pop" apos) [] [] pos) (cPop ca) := fun X W c hc =>
  PE.imp (pe_bm0 PySem.F.plainAttrs_list PySem.F.slot_list_pop PySem.F.type_list_pop mt_pop (ha X W c hc) (base_ok ho _ _) hl) fun σ H Q ⟨ρ, h, e, at_, s⟩ => by
    refine ⟨ρ, h, e, at_, (bnd_sat s).mono (fun v h1 s1 ρ1 H1 x st1 rh1 rv1 => ?_) fun _ _ q => q⟩
    obtain ⟨n, e0, s1⟩ := sat_ref s1
    subst e0
    obtain ⟨xs, e1, s1⟩ := sat_lst s1
    obtain ⟨p, e2, ea⟩ := rv_ref rv1
    obtain ⟨vs, q1, q2⟩ := rh1.lstV e1 ea
    subst e2
    have s2 := s1.mono (fun _ _ q => FinV.reb st1 q) fun _ _ q => q
    unfold lastK at s2
    rw [revA_eq, List.append_nil] at s2
    cases er : xs.reverse with
    | nil => rw [er] at s2; exact s2.elim
    | cons v r =>
      rw [er] at s2
      have s2 : SatR (updH h1 n (.lst (revA r [])) v) (FinV X.K ρ1 H1 Q) (FinX cls X.K W ρ H σ) := s2
      rw [revA_eq, List.append_nil] at s2
      have exs : xs = r.reverse ++ [v] := by rw [← List.reverse_reverse xs, er, List.reverse_cons]
      have hd : xs.dropLast = r.reverse := by rw [exs, List.dropLast_concat]
      have hl : xs[xs.length - 1]? = some v := by rw [exs]; simp
      obtain ⟨x, h1', h2'⟩ := q2.get hl
      have rd : RVs X.K ρ1 H1 r.reverse vs.dropLast := by
        rw [← hd, List.dropLast_eq_take, List.dropLast_eq_take, q2.length]
        exact q2.take _
      exact ⟨tyV_lst q1, p, vs, x, rfl, rfl, q1, by rw [← q2.length]; exact h1', sat_put rh1 ea q1 trivial (.lst rd) h2' s2⟩
/-- {} -/
theorem oe_dnew : OE cls C (.Dict [] [] pos) cDnew := fun X W c hc =>
  PE.imp pe_dnewK fun σ H Q ⟨ρ, h, e, at_, s⟩ => fun p hp => by
    have s : SatR (allocK (.dct []) h) (FinV X.K ρ H Q) (FinX cls X.K W ρ H σ) := s
    rw [allocK_eq] at s
    exact s _ _ _ (stp_lay at_.rh _ hp) (rh_lay at_.rh hp (.dk (fun _ z => nomatch z) .nil .nil)) (.ref ext_same)

/-! ### defs called -/
theorem handOver_rel {c : CF} {f np : Nat} {K : Fg} {ρ : Rho} {h : MH} {H : Hp} {vs : List PV} {xs : List V} {Q : VK} {E : Nat → MH → Prop} {EX : XK} (rh : Rh K ρ h H) (rv : RVs K ρ H vs xs) (hl : vs.length = np)
    (s : SatR (callI c f vs h) (FinV K ρ H Q) E) (hE : ∀ x h', E x h' → ∀ ρ' H', Stp ρ H ρ' H' → Rh K ρ' h' H' → EX (cls x) none H') : spF cls K c f np xs H Q EX := by
  unfold callI at s
  rw [allB_eq] at s
  have whole : SatR (c f vs h) (FinV K ρ H Q) E → spF cls K c f np xs H Q EX := fun s => ⟨ρ, h, vs, rh, rv, hl, s.mono (fun _ _ q => q) fun x h' q => hE x h' q⟩
  cases ep : vs.all isPure with
  | false => rw [ep] at s; exact whole s
  | true =>
    rw [ep] at s
    have s : SatR (Rs.cs (fun v h2 => handOver c f vs h h2 v) (fun x _ => .ex x h) .bad (c f vs [])) (FinV K ρ H Q) E := s
    have ne : ∀ (n : Nat) (a : Addr), (fun _ => none : Rho) n ≠ some a := fun _ _ z => nomatch z
    -- the callee in a heap of its own
    have rh0 : Rh K (fun _ => none) [] H := ⟨fun n o z => by simp at z, fun n m a z => absurd z (ne n a), fun n a z => absurd z (ne n a)⟩
    -- back: what was known is as it was
    have back : ∀ {ρ2 : Rho} {H2 : Hp}, Stp (fun _ => none) H ρ2 H2 → Stp ρ H ρ H2 ∧ Rh K ρ h H2 := fun {ρ2 H2} st => by
      have same : ∀ a o, H a = some o → H2 a = some o := fun a o z => st.keep a o z fun n => ne n a
      have st' : Stp ρ H ρ H2 := ⟨fun _ _ z => z, fun a o z _ => same a o z, st.live, st.tup, st.frz, fun _ _ z => .inl z⟩
      exact ⟨st', rh_step rh st' fun n a z => by
        obtain ⟨o, u, _, h2, _⟩ := rh.live z
        rw [h2]; exact same a u h2⟩
    cases er : c f vs [] with
    | bad => rw [er] at s; exact s.elim
    | ex x h2 =>
      rw [er] at s
      have s : E x h := s
      refine ⟨fun _ => none, [], vs, rh0, (rv.toP ep).toV, hl, ?_⟩
      rw [er]
      intro ρ2 H2 st rh2
      obtain ⟨st', rh'⟩ := back st
      exact hE x h s ρ H2 st' rh'
    | ok v h2 =>
      rw [er] at s
      have s : SatR (handOver c f vs h h2 v) (FinV K ρ H Q) E := s
      have alone : (∀ ρ2 H2 x, Stp (fun _ => none) H ρ2 H2 → Rh K ρ2 h2 H2 → RV K ρ2 H2 v x → Q x H2) → spF cls K c f np xs H Q EX := fun q => by
        refine ⟨fun _ => none, [], vs, rh0, (rv.toP ep).toV, hl, ?_⟩
        rw [er]
        exact q
      have pureC : isPure v = true → SatR (.ok v h) (FinV K ρ H Q) E → spF cls K c f np xs H Q EX := fun pv s => alone fun ρ2 H2 x st rh2 r => by
        obtain ⟨st', rh'⟩ := back st
        exact s ρ H2 x st' rh' (.pure (r.toP pv))
      cases v with
      | non => exact pureC rfl s
      | bl b => exact pureC rfl s
      | int b => exact pureC rfl s
      | str b => exact pureC rfl s
      | tup b => exact pureC rfl s
      | mtup b => exact whole s
      | opq => exact whole s
      | un => exact s.elim
      | ref n =>
        have s : SatR (lstAt (fun xs => bcs (allocK (.lst xs) h) (c f vs h) (allB isPure xs)) (c f vs h) h2 n) (FinV K ρ H Q) E := s
        unfold lstAt at s
        rw [nth_eq] at s
        cases e2 : h2[n]? with
        | none => rw [e2] at s; exact whole s
        | some o =>
          rw [e2] at s
          cases o with
          | dct kvs => exact whole s
          | lst ys =>
            have s : SatR (bcs (allocK (.lst ys) h) (c f vs h) (allB isPure ys)) (FinV K ρ H Q) E := s
            rw [allB_eq] at s
            cases py : ys.all isPure with
            | false => rw [py] at s; exact whole s
            | true =>
              rw [py] at s
              have s : SatR (allocK (.lst ys) h) (FinV K ρ H Q) E := s
              rw [allocK_eq] at s
              refine alone fun ρ2 H2 x st rh2 r => ?_
              obtain ⟨p, rfl, ea⟩ := rv_ref r
              obtain ⟨ws, q1, q2⟩ := rh2.lstV e2 ea
              obtain ⟨st', rh'⟩ := back st
              have fr : H p = none := by
                rcases st.fresh n p ea with z | z
                · cases z
                · exact z
              exact s _ _ _ (stp_adopt st' rh' fr) (rh_alloc rh' q1 (rh.unk fr) (.lst (q2.toP py).toV)) (.ref ext_same)
end
end Tn

set_option maxHeartbeats 4000000
/-! defs called; targets -/
namespace Tn
open PySem PySem.Spec PyProof.Rows L2
section
variable {cls : Nat → Value} {C : CC} {pos : Pos} {a b d e : Expr} {ca cb cd : EC} {es : List Expr} {ces : LC}
theorem pe_callSD0 {X : Cx} {CX : CXT} {k : Nat} {f : Addr} {fd : FuncData} {ps : List Str} {sp : Sp} {E : L2.St → XK} {x : Str} {p pos : Pos} (F : FnOk X.prog X.w X.K X.mg X.base CX k f fd ps sp) (hr : Room k X.A) (hg : Gl X x) (hm : X.mg x = some (.ref f))
    (hk : PySem.W.keepIn X.K (.ref f) = true) (hb : L2.Binds X.K fd ps []) (hx : ∀ σ, PassesAt CX X σ (E σ)) (hdb : (x == ("__debug__" : Str)) = false) : PE X (.Call (.Name x p) [] [] pos) (tCallSD sp [] E tNil) := by
  refine ⟨fun pins s σ H Q I h => ?_⟩
  refine wpAny_Call_Name_kw (ld_glob I hg hm ?_ hdb)
  exact PySem.W.callWith_K0 I.kIn hk (run_fnSD (us := []) F hr hb .nil (hx σ) I .nil h)
/-- as many values as expressions -/
def Ln (a : LC) (n : Nat) : Prop := ∀ c e h vs h', a c e h = .ok vs h' → vs.length = n
theorem ln_nil : Ln aNil 0 := fun c e h vs h' q => by cases q; rfl
theorem ln_cons {n : Nat} (hs : Ln ces n) : Ln (aCons ca ces) (n + 1) := fun c e h vs h' q => by
  unfold aCons bndRL at q
  cases e1 : ca c e h with
  | bad => rw [e1] at q; cases q
  | ex => rw [e1] at q; cases q
  | ok v h1 =>
    rw [e1] at q
    have q : bndLL (ces c e h1) (fun vs h => .ok (v :: vs) h) = .ok vs h' := q
    unfold bndLL at q
    cases e2 : ces c e h1 with
    | bad => rw [e2] at q; cases q
    | ex => rw [e2] at q; cases q
    | ok ws h2 =>
      rw [e2] at q
      have q : Rl.ok (v :: ws) h2 = .ok vs h' := q
      cases q
      rw [List.length_cons, hs _ _ _ _ _ e2]
theorem call_rd {X : Cx} {W : WX} {c : CF} {f np : Nat} (hn : Ln ces np) {σ : L2.St} {H : Hp} {Q : VK} (t : tE cls X.K W c (cCall f ces) σ H Q) : tA cls X.K W c ces σ H fun vs H1 => spF cls X.K c f np (vs ++ []) H1 Q (WE W σ) := by
  obtain ⟨ρ, h, e, at_, s⟩ := t
  have s2 := bndL_sat s
  refine ⟨ρ, h, e, at_, ?_⟩
  cases er : ces c e h with
  | bad => rw [er] at s2; exact s2
  | ex x h1 => rw [er] at s2; exact s2
  | ok vs h1 =>
    rw [er] at s2
    intro ρ1 H1 xs st1 rh1 rv1
    show spF cls X.K c f np (xs ++ []) H1 Q _
    rw [List.append_nil]
    exact handOver_rel rh1 rv1 (hn c e h vs h1 er) (SatR.mono s2 (fun _ _ q => FinV.reb st1 q) fun _ _ q => q) fun x h' q ρ' H' st rh' => q ρ' H' (st1.trans st) rh'
theorem PA.nil_run {X : Cx} {t : TA} (p : PA X [] t) {pins : List (Addr × Obj)} {s : Shared} {σ : L2.St} {H : Hp} {Q : List V → Hp → Prop} (I : Inv X pins σ H s) (h : t σ H Q) : True := trivial
theorem oe_call {x : Str} {p : Pos} {f np : Nat} (hg : C.sc.names.lookup x = some .globalImplicit) (hm : C.gl x = some (.fn f np)) (hd : (x == ("__debug__" : Str)) = false) (hl : es.all notStar = true) (hn : Ln ces np) (he : es ≠ [])
    (ha : OA cls C es ces) : OE cls C (.Call (.Name x p) es [] pos) (cCall f ces) := fun X W c hc => by
  obtain ⟨addr, fd, ps, h1, h2, h3, h4, _⟩ := hc.fns x f np hm
  cases es with
  | nil => exact absurd rfl he
  | cons e1 es =>
    simp only [List.all_cons, Bool.and_eq_true] at hl
    exact PE.imp (pe_callSD h4 hc.room (hc.gl_of hg) h1 h2 h3 .nil (fun σ => passAt hc.tk σ) (ha X W c hc) hd (star_cons hl.1 _) (star_any pos X.env es hl.2)) fun σ H Q t => call_rd hn t
theorem oe_call0 {x : Str} {p : Pos} {f : Nat} (hg : C.sc.names.lookup x = some .globalImplicit) (hm : C.gl x = some (.fn f 0)) (hd : (x == ("__debug__" : Str)) = false) : OE cls C (.Call (.Name x p) [] [] pos) (cCall f aNil) := fun X W c hc => by
  obtain ⟨addr, fd, ps, h1, h2, h3, h4, _⟩ := hc.fns x f 0 hm
  refine PE.imp (pe_callSD0 h4 hc.room (hc.gl_of hg) h1 h2 h3 (fun σ => passAt hc.tk σ) hd) fun σ H Q t => ?_
  obtain ⟨ρ, h, e, at_, s⟩ := call_rd (np := 0) ln_nil t
  exact s ρ H [] (Stp.refl _ _) at_.rh .nil

/-! ### targets of names -/
theorem wipe_in {σ : L2.St} {i : Nat} (hi : i < σ.length) : ∀ {vs : List Nat}, i ∈ vs → (L2.wipe σ vs)[i]? = some none
  | [], h => nomatch h
  | v :: vs, h => by
    unfold L2.wipe
    by_cases e : v = i
    · subst e
      exact List.getElem?_set_self (by rw [wipe_length]; exact hi)
    · rw [List.getElem?_set_ne e]
      rcases List.mem_cons.mp h with q | q
      · exact absurd q.symm e
      · exact wipe_in hi q
theorem wipe_set {σ : L2.St} {i : Nat} {x : Option V} {vs : List Nat} (h : i ∈ vs) : L2.wipe (σ.set i x) vs = L2.wipe σ vs := by
  apply List.ext_getElem?
  intro j
  by_cases hj : j ∈ vs
  · by_cases hl : j < σ.length
    · rw [wipe_in (by rw [List.length_set]; exact hl) hj, wipe_in hl hj]
    · rw [List.getElem?_eq_none (by rw [wipe_length, List.length_set]; omega), List.getElem?_eq_none (by rw [wipe_length]; omega)]
  · have e : i ≠ j := fun q => hj (q ▸ h)
    rw [wipe_out hj, wipe_out hj, List.getElem?_set_ne e]
/-- but for the slots ss all is as it was -/
def Bt (ss : List Nat) (σ σ' : L2.St) : Prop := ∀ vs : List Nat, (∀ i ∈ ss, i ∈ vs) → L2.wipe σ' vs = L2.wipe σ vs
/-- v goes to a target: the slots behind -/
def OG (cls : Nat → Value) (C : CC) (tg : Expr) (g : TC) (ss : List Nat) : Prop := ∀ X W c, Ctx cls C X W c → PG X tg (fun x σ H Q => ∃ ρ v h e e', At X.K e h σ ρ H ∧ RV X.K ρ H v x ∧ g v e = some e' ∧ ∀ σ', At X.K e' h σ' ρ H → Bt ss σ σ' → Q σ' H)
def OGs (cls : Nat → Value) (C : CC) (ts : List Expr) (g : TsC) (ss : List Nat) : Prop := ∀ X W c, Ctx cls C X W c → PGs X ts (fun xs σ H Q => ∃ ρ vs h e e', At X.K e h σ ρ H ∧ RVs X.K ρ H vs xs ∧ g vs e = some e' ∧ ∀ σ', At X.K e' h σ' ρ H → Bt ss σ σ' → Q σ' H)
theorem PG.imp {X : Cx} {tg : Expr} {t u : TG} (p : PG X tg t) (h : ∀ v σ H Q, u v σ H Q → t v σ H Q) : PG X tg u := ⟨fun pins s σ H v w Q I r q => p.run pins s σ H v w Q I r (h v σ H Q q)⟩
theorem PGs.imp {X : Cx} {tg : List Expr} {t u : TGs} (p : PGs X tg t) (h : ∀ v σ H Q, u v σ H Q → t v σ H Q) : PGs X tg u := ⟨fun pins s σ H v w Q I r q => p.run pins s σ H v w Q I r (h v σ H Q q)⟩
theorem og_name {i : Nat} {x : Str} (hN : C.N[i]? = some x) (hx : Loc C.sc x) (hs : C.stor x = true) : OG cls C (.Name x pos) (gN i) [i] := fun X W c hc =>
  PG.imp (pg_name (i := i) (by rw [hc.N]; exact hc.nd) (by rw [hc.N]; exact hN) (by rw [hc.sc]; exact hx) (hc.stor x hs)) fun x σ H Q ⟨ρ, v, h, e, e', at_, rv, ge, q⟩ => by
    have ge : setK e i v some = some e' := ge
    rw [setK_eq] at ge
    cases ge
    exact q _ ⟨at_.rh, at_.re.set rv⟩ fun vs hv => wipe_set (hv i (by simp))
theorem ogs_nil : OGs cls C [] gsNil [] := fun X W c hc => PGs.imp pgs_nil fun xs σ H Q ⟨ρ, vs, h, e, e', at_, rv, ge, q⟩ => by
  cases vs with
  | cons v vs => cases ge
  | nil =>
    cases rv
    have ge : some e = some e' := ge
    cases ge
    exact ⟨rfl, q σ at_ fun _ _ => rfl⟩
theorem ogs_cons {ts : List Expr} {g : TC} {u : TsC} {s1 s2 : List Nat} (hn : notStar a = true) (h1 : OG cls C a g s1) (h2 : OGs cls C ts u s2) : OGs cls C (a :: ts) (gsCons g u) (s1 ++ s2) := fun X W c hc =>
  PGs.imp (pgs_cons (h1 X W c hc) (h2 X W c hc) (by cases a <;> first | rfl | cases hn)) fun xs σ H Q ⟨ρ, vs, h, e, e', at_, rv, ge, q⟩ => by
    cases vs with
    | nil => cases ge
    | cons v vs =>
      cases rv with
      | cons r1 r2 =>
        have ge : ocs (fun e => u vs e) none (g v e) = some e' := ge
        cases e1 : g v e with
        | none => rw [e1] at ge; cases ge
        | some e2 =>
          rw [e1] at ge
          exact ⟨_, _, rfl, ρ, v, h, e, e2, at_, r1, e1, fun σ' at' b1 => ⟨ρ, vs, h, e2, e', at', r2, ge, fun σ2 at2 b2 => q σ2 at2 fun ws hw => (b2 ws fun i hi => hw i (List.mem_append_right _ hi)).trans (b1 ws fun i hi => hw i (List.mem_append_left _ hi))⟩⟩
theorem ln_ogs {ts : List Expr} {u : TsC} : True := trivial
/-- the codes of several targets fix how many values there are -/
def LnG (u : TsC) (n : Nat) : Prop := ∀ vs e e', u vs e = some e' → vs.length = n
theorem lng_nil : LnG gsNil 0 := fun vs e e' h => by cases vs with | nil => rfl | cons => cases h
theorem lng_cons {g : TC} {u : TsC} {n : Nat} (h : LnG u n) : LnG (gsCons g u) (n + 1) := fun vs e e' q => by
  cases vs with
  | nil => cases q
  | cons v vs =>
    have q : ocs (fun e => u vs e) none (g v e) = some e' := q
    cases e1 : g v e with
    | none => rw [e1] at q; cases q
    | some e2 => rw [e1] at q; rw [List.length_cons, h vs e2 e' q]
theorem each_len (env : Env) : ∀ ts : List Expr, (assignEach ts env).length = ts.length
  | [] => rfl
  | t :: ts => by cases t <;> (show (assignEach ts env).length + 1 = ts.length + 1; rw [each_len env ts])
theorem each_star (env : Env) : ∀ ts : List Expr, ts.all notStar = true → (assignEach ts env).findIdx? (·.1) = none
  | [], _ => rfl
  | t :: ts, h => by
    simp only [List.all_cons, Bool.and_eq_true] at h
    have e : assignEach (t :: ts) env = (false, assign t env) :: assignEach ts env := by cases t <;> first | rfl | cases h.1
    rw [e, List.findIdx?_cons, each_star env ts h.2]; rfl
theorem og_tup {ts : List Expr} {k : Nat} {u : TsC} {ss : List Nat} (hn : ts.all notStar = true) (hl : LnG u ts.length) (h : OGs cls C ts u ss) : OG cls C (.Tuple ts k pos) (gT u) ss := fun X W c hc =>
  PG.imp (pg_tup hc.calm (h X W c hc) (each_len X.env ts) (each_star X.env ts hn)) fun x σ H Q ⟨ρ, v, h, e, e', at_, rv, ge, q⟩ => by
    have fin : ∀ xs p vs, x = .ref p → SqT X.K H p vs → RVs X.K ρ H xs vs → u xs e = some e' → gTup X.K ts.length (fun xs σ H Q => ∃ ρ vs h e e', At X.K e h σ ρ H ∧ RVs X.K ρ H vs xs ∧ u vs e = some e' ∧ ∀ σ', At X.K e' h σ' ρ H → Bt ss σ σ' → Q σ' H) x σ H Q :=
      fun xs p vs ex hq rvs ge => ⟨p, vs, ex, hq, by rw [← rvs.length]; exact hl xs e e' ge, ρ, xs, h, e, e', at_, rvs, ge, q⟩
    cases v with
    | tup xs => obtain ⟨p, vs, ex, h1, h2⟩ := rv_tup rv; exact fin xs p vs ex h1 h2.toV ge
    | mtup xs => obtain ⟨p, vs, ex, h1, h2⟩ := rv_mtup rv; exact fin xs p vs ex h1 h2 ge
    | _ => cases ge
end
end Tn

set_option maxHeartbeats 4000000
/-! enumerate over a tuple -/
namespace PySem
open Sem (wp)
theorem meets_enumerate_newB1 {v : Value} {o : Obj} {H : Heap → Prop} (B : Begins v o H) :
    Meets (Builtin.«enumerate.__new__» ⟨[.type "enumerate", v], []⟩) (fun _ R s => H s.heap ∧
      R (.ok (.ret (.ref (s.heap.push o).objs.size))) { s with heap := (s.heap.push o).push { cls := .type "enumerate", data := .fields #[.none, .bool false, .ref s.heap.objs.size, rawInt 0, .none, .none] } }) :=
  .of_wp fun prog w A R s h => by
    obtain ⟨hp, g, d, tk, os⟩ := s; obtain ⟨h1, h⟩ := h
    have hsub := sub_enumerate
    have q1 : ∀ {A' : Around} {E : Value → Shared → Prop} {Q : Value → Shared → Prop}, Q (.ref hp.objs.size) ⟨hp.push o, g, d, tk, os⟩ → wpAny (model prog w) A' (pyIter v) Q E ⟨hp, g, d, tk, os⟩ :=
      fun q => B.iter prog w _ _ ⟨hp, g, d, tk, os⟩ _ h1 q
    wp_walk using q1
    refine wpAny_stack_any fun st => wpAny_pure ?_
    split
    · rename_i c _ _ _ _ _
      cases (c == Value.type "enumerate")
      · wp_walk using q1
        exact ⟨_, rfl, h⟩
      · wp_walk using q1
        exact ⟨_, rfl, h⟩
    · wp_walk using q1
      exact ⟨_, rfl, h⟩
theorem call_enumerate_B {prog : Program} {w : World} {A : Around} {E : Value → Shared → Prop} {s : Shared} {v : Value} {o : Obj} {H : Heap → Prop} {Q : Value → Shared → Prop} (B : Begins v o H) (h1 : H s.heap)
    (h : ∀ h', IsEnum h' (s.heap.objs.size + 1) s.heap.objs.size 0 .none → h'.get? s.heap.objs.size = some o → h'.objs.size = s.heap.objs.size + 2 →
      (∀ b o, s.heap.get? b = some o → h'.get? b = some o) → Q (.ref (s.heap.objs.size + 1)) { s with heap := h' }) :
    wpAny (model prog w) A (call (.type "enumerate") [v]) Q E s := by
  refine callType_new F.called_enumerate (by decide) (F.typeCall_enumerate_1 _) (F.newCall_enumerate_1 _) (fun obj => F.args_object_init_2 obj _) F.entry_enumerate_new
    (meets_enumerate_newB1 B) ⟨h1, ?_⟩
  have hz : (s.heap.push o).objs.size = s.heap.objs.size + 1 := Heap.size_push ..
  show _ ∧ _
  rw [hz]
  have he : IsEnum ((s.heap.push o).push { cls := .type "enumerate", data := .fields #[.none, .bool false, .ref s.heap.objs.size, rawInt 0, .none, .none] }) (s.heap.objs.size + 1) s.heap.objs.size 0 .none := by
    have := Heap.get?_push_size (s.heap.push o) (o := { cls := .type "enumerate", data := .fields #[.none, .bool false, .ref s.heap.objs.size, rawInt 0, .none, .none] }) rfl
    rw [hz] at this; exact this
  refine ⟨⟨_, he, rfl⟩, h _ he (Heap.get?_push_of_some _ (Heap.get?_push_size _ B.free)) (by rw [Heap.size_push, hz]) fun b o x => Heap.get?_push_of_some _ (Heap.get?_push_of_some _ x)⟩
end PySem
namespace Tn
open PySem PySem.Spec PyProof.Rows L2
/-- the tuple at a, each item in a new pair -/
def IteT (K : PySem.W.Frag) (a : Addr) : It :=
  ⟨fun i H => ∃ (xs : List V) (x : V), SqT K H a xs ∧ xs[i]? = some x, fun i H v H' => ∃ T x, v = .ref T ∧ H T = none ∧ H' = upd H T (.tup [.int (i : Nat), x]) ∧ ∀ xs, SqT K H a xs → xs[i]? = some x, fun i H => ∃ xs : List V, SqT K H a xs ∧ xs.length = i⟩
theorem turn_enumT {P : Program} {w : World} {K : PySem.W.Frag} {elts : List Expr} {kk : Nat} {tpos : Pos} (a e it : Addr) :
    Turn P w K (.Tuple elts kk tpos) (IteT K a) [e, it] e (fun i h => (∃ old, IsEnum h e it ((i : Nat) : Int) old) ∧ h.IsTupleIter it a i ∧ e ≠ it) where
  mem := by simp
  obj := fun i h st b hb => by
    obtain ⟨⟨old, he⟩, ⟨o, ho, hc, hd⟩, _⟩ := st
    have e' : b = e ∨ b = it := by simpa using hb
    rcases e' with z | z
    · rw [z]; exact ⟨_, he, fun v q => nomatch q⟩
    · rw [z]; exact ⟨o, ho, fun v q => by rw [hd] at q; cases q⟩
  keep := fun i h h' st k => let ⟨⟨old, he⟩, hi, hne⟩ := st; ⟨⟨old, k e (by simp) _ he⟩, hi.at fun o q => k it (by simp) o q, hne⟩
  item := by
    intro X hP hw hK hc i pins s σ H E I hf st hg
    subst hP hw hK
    obtain ⟨⟨old, he⟩, hit, hne⟩ := st
    obtain ⟨xs, x, hq, hx⟩ := hg
    obtain ⟨its, rv, p, hz⟩ := I.tuple hq
    obtain ⟨u, hu, ru⟩ := rv.get hx
    have ht : s.heap.IsTuple a its.toArray := p
    have hel : e < s.heap.objs.size := Heap.lt_size he
    have hil : it < s.heap.objs.size := by obtain ⟨_, q, _⟩ := hit; exact Heap.lt_size q
    have hat : a ≠ it := by
      rintro rfl
      obtain ⟨o1, q1, c1, _⟩ := ht
      obtain ⟨o2, q2, c2, _⟩ := hit
      rw [q1] at q2; cases q2
      rw [c1] at c2; simp at c2
    have hea : e ≠ a := by
      rintro rfl
      obtain ⟨o1, q1, c1, _⟩ := ht
      have he' : s.heap.get? e = some _ := he
      rw [q1] at he'; cases he'
      simp at c1
    have hlt : i < its.toArray.size := by
      rw [List.size_toArray]
      exact (List.getElem?_eq_some_iff.mp hu).1
    refine wpAny_pyNext_enum_itemC (Draws.tuple (A := X.A.in1) (I.ok.hd hc) it a hat its.toArray) he ⟨hit, ht⟩ hlt hne (by simp [hne, hea]) fun z h' tk hz' ho hit' hT hsz hk => ?_
    have ez : z = u := by
      have hz' : its.toArray[i]? = some z := hz'
      rw [List.getElem?_toArray, hu] at hz'
      exact (Option.some.inj hz').symm
    subst ez
    refine ⟨_, rfl, wpAny_letOwnedTupleGo_enum (s := { s with heap := h', toks := tk + 1 }) ho fun h'' he' sb => ?_⟩
    have hT2 : h''.get? s.heap.objs.size = some { cls := .type "tuple", data := .seq #[.int i tk, z] } := (sb.2 _ (Nat.ne_of_gt hel)).trans hT
    have new : ObjOk X.prog X.w (upd H s.heap.objs.size (.tup [.int (i : Nat), x])) h'' s.heap.objs.size (.tup [.int (i : Nat), x]) :=
      ⟨by show 2 ≤ sizeLine; decide, [.int i tk, z], .cons ⟨_, rfl⟩ (.cons ru .nil), ⟨_, hT2, rfl, _, rfl⟩⟩
    have I1 : Inv X pins σ (upd H s.heap.objs.size (.tup [.int (i : Nat), x])) { s with heap := h'', toks := tk + 1 } :=
      I.turnedNew (ch := [e, it]) (fun b ob hb q => (sb.2 b (fun z => hb (by simp [z]))).trans (hk b ob (fun z => hb (by simp [z])) (fun z => hb (by simp [z])) q)) hf (Nat.le_refl _) new
    refine ⟨.ref s.heap.objs.size, _, I1, rfl, ⟨_, x, rfl, I.hok.fresh (Nat.le_refl _), rfl, fun ys hy => by rw [I.tuple_inj hy hq]; exact hx⟩, ⟨⟨z, ?_⟩, hit'.1.at fun o q => (sb.2 it (Ne.symm hne)).trans q, hne⟩, fun b hb => ?_⟩
    · have e1 : ((i + 1 : Nat) : Int) = (i : Int) + 1 := by omega
      rw [e1]; exact he'
    · have hb' : b < s.heap.objs.size := by
        have e' : b = e ∨ b = it := by simpa using hb
        rcases e' with z | z
        · rw [z]; exact hel
        · rw [z]; exact hil
      rw [upd_ne (Nat.ne_of_lt hb')]
      exact (hf b hb).1
  done := by
    intro X hP hw hK hc i pins s σ H E I hf st hg
    subst hP hw hK
    obtain ⟨⟨old, he⟩, hit, hne⟩ := st
    obtain ⟨xs, hq, hx⟩ := hg
    obtain ⟨its, rv, p, hz⟩ := I.tuple hq
    have ht : s.heap.IsTuple a its.toArray := p
    obtain ⟨f0, f1, f2, f3, f4, f5⟩ := hf it (by simp)
    have hl := rv.length
    have hat : a ≠ it := by
      rintro rfl
      obtain ⟨o1, q1, c1, _⟩ := ht
      obtain ⟨o2, q2, c2, _⟩ := hit
      rw [q1] at q2; cases q2
      rw [c1] at c2; simp at c2
    have hn : its.toArray.size = i := by rw [List.size_toArray, ← hl]; exact hx
    subst hn
    exact wpAny_pyNext_enum_endD (Draws.tuple (A := X.A.in1) (I.ok.hd hc) it a hat its.toArray) he ⟨hit, ht⟩ fun h' eb => ⟨rfl, I.turned (t' := s.toks) (fun b o hb q => eb b o hb q) f0 f1 f3 f4 f5⟩
  self := fun A i s Q E st h => let ⟨⟨_, he⟩, _⟩ := st; wpAny_pyIter_enum he h
/-- enumerate of a list or a tuple -/
def iEnumA (K : PySem.W.Frag) (ta : TA) : TI := fun σ H R => ta σ H fun vs H1 => ∃ a xs, vs = [.ref a] ∧ ((SqL K H1 a xs ∧ R (Ite K a) H1) ∨ (SqT K H1 a xs ∧ R (IteT K a) H1))
theorem pi_enumA {X : Cx} {e : Expr} {ta : TA} {p pos tpos : Pos} {elts : List Expr} {kk : Nat} (hg : Gl X "enumerate") (hm : X.mg "enumerate" = none) (ha : PA X [e] ta) (hs : starEach [e] X.env = [(false, eval e X.env)]) :
    PI X (.Tuple elts kk tpos) (.Call (.Name "enumerate" p) [e] [] pos) (iEnumA X.K ta) := by
  refine ⟨fun pins s σ H R I h => ?_⟩
  refine Call_ (ld_blt I hg hm boot_enumerate (PyProof.Rows.callWith_type1 (thn (ha.run pos pins s σ H _ I h) fun us s1 ⟨vs, H1, I1, r1, q1⟩ => ?_) hs rfl))
  obtain ⟨a, xs, ex, q1⟩ := q1
  subst ex
  cases r1 with
  | cons r rr =>
    cases rr
    cases r
    have fp2 : ∀ b ∈ [s1.heap.objs.size + 1, s1.heap.objs.size], FpOk X pins H1 b := fun b hb => by
      have e' : b = s1.heap.objs.size + 1 ∨ b = s1.heap.objs.size := by simpa using hb
      have hle : s1.heap.objs.size ≤ b := by
        rcases e' with z | z
        · rw [z]; exact Nat.le_add_right _ _
        · rw [z]; exact Nat.le_refl _
      exact I1.fpOk hle (I1.hok.fresh hle)
    rcases q1 with ⟨hq, q⟩ | ⟨hq, q⟩
    · obtain ⟨its, rv, p', hz⟩ := I1.list hq
      refine call_enumerate_list p'.isList fun h' he hit hsz hk => wpAny_pyIter_enum he ?_
      have I2 : Inv X pins σ H1 { s1 with heap := h' } := I1.kept (t' := s1.toks) hk
      exact ⟨s1.heap.objs.size + 1, [s1.heap.objs.size + 1, s1.heap.objs.size], _, _, H1, rfl, I2, turn_enum a (s1.heap.objs.size + 1) s1.heap.objs.size, ⟨⟨.none, he⟩, hit, Nat.succ_ne_self _⟩, fp2, q⟩
    · obtain ⟨its, rv, p', hz⟩ := I1.tuple hq
      have ht : s1.heap.IsTuple a its.toArray := p'
      refine call_enumerate_B (begins_tuple a its.toArray) ht fun h' he ho hsz hk => wpAny_pyIter_enum he ?_
      have I2 : Inv X pins σ H1 { s1 with heap := h' } := I1.kept (t' := s1.toks) hk
      exact ⟨s1.heap.objs.size + 1, [s1.heap.objs.size + 1, s1.heap.objs.size], _, _, H1, rfl, I2, turn_enumT a (s1.heap.objs.size + 1) s1.heap.objs.size, ⟨⟨.none, he⟩, ⟨_, ho, rfl, rfl⟩, Nat.succ_ne_self _⟩, fp2, q⟩
end Tn

set_option maxHeartbeats 4000000
/-! what is walked; comprehensions -/
namespace Tn
open PySem PySem.Spec PyProof.Rows L2 RZ
/-- the turn is not beyond the end -/
def ib : Src → Nat → Prop
  | .ent vs, i => i ≤ vs.length
  | _, _ => True
def OkA (K : Fg) (ρ : Rho) (h : MH) (H : Hp) (i : Nat) (J : It) (s : Src) : It3 → Prop
  | .item v => (J.go i H ∧ ∀ x H', J.yld i H x H' → Stp ρ H ρ H' ∧ Rh K ρ h H' ∧ RV K ρ H' v x) ∧ ib s (i + 1)
  | .stop => J.stop i H
  | .bad => True
def SrcOk (K : Fg) (ρ0 : Rho) (H0 : Hp) (s : Src) (J : It) : Prop := ∀ ρ h H i, Stp ρ0 H0 ρ H → Rh K ρ h H → ib s i → OkA K ρ h H i J s (srcAt s i h)
section
variable {cls : Nat → Value} {C : CC} {pos : Pos} {a b d e : Expr} {ca cb cd : EC} {es : List Expr} {ces : LC}
def OI (cls : Nat → Value) (C : CC) (tg iter : Expr) (w : WC) : Prop := ∀ X W c, Ctx cls C X W c → PI X tg iter (fun σ H R => ∃ ρ h e, At X.K e h σ ρ H ∧ SatW (w c e h) (fun s h' => ∀ ρ' H' J, Stp ρ H ρ' H' → Rh X.K ρ' h' H' → ib s 0 → SrcOk X.K ρ' H' s J → R J H') (FinX cls X.K W ρ H σ))
theorem PI.imp {X : Cx} {tg iter : Expr} {t u : TI} (p : PI X tg iter t) (h : ∀ σ H R, u σ H R → t σ H R) : PI X tg iter u := ⟨fun pins s σ H R I q => p.run pins s σ H R I (h σ H R q)⟩
theorem PI.or {X : Cx} {tg iter : Expr} {t u : TI} (p : PI X tg iter t) (q : PI X tg iter u) : PI X tg iter (fun σ H R => t σ H R ∨ u σ H R) := ⟨fun pins s σ H R I r => r.elim (p.run pins s σ H R I) (q.run pins s σ H R I)⟩
theorem satW_int {P : Src → MH → Prop} {E : Nat → MH → Prop} {v : PV} {k : Int → Rsrc} (s : SatW (asI k .bad v) P E) : ∃ i, v = .int i ∧ SatW (k i) P E := by
  cases v <;> first | exact ⟨_, rfl, s⟩ | exact s.elim
theorem satW_bcs {P : Src → MH → Prop} {E : Nat → MH → Prop} {b : Bool} {r : Rsrc} (s : SatW (bcs r .bad b) P E) : b = true ∧ SatW r P E := by
  cases b with
  | true => exact ⟨rfl, s⟩
  | false => exact s.elim
theorem satW_lst {P : Src → MH → Prop} {E : Nat → MH → Prop} {h : MH} {n : Nat} {k : List PV → Rsrc} (s : SatW (lstAt k .bad h n) P E) : ∃ xs, h[n]? = some (.lst xs) ∧ SatW (k xs) P E := by
  unfold lstAt at s
  rw [nth_eq] at s
  cases q : h[n]? with
  | none => rw [q] at s; exact s.elim
  | some o =>
    rw [q] at s
    cases o with
    | lst xs => exact ⟨xs, rfl, s⟩
    | dct kvs => exact s.elim
theorem SatW.mono {r : Rsrc} {P P' : Src → MH → Prop} {E E' : Nat → MH → Prop} (h : SatW r P E) (p : ∀ v h, P v h → P' v h) (e : ∀ c h, E c h → E' c h) : SatW r P' E' := by
  cases r with
  | ok v h' => exact p _ _ h
  | ex c h' => exact e _ _ h
  | bad => exact h

/-! ### range -/
theorem src_rng {K : Fg} {ρ : Rho} {H : Hp} {lo : Int} {n : Nat} : SrcOk K ρ H (.rng lo 1 n) (Itr lo n) := fun ρ h H i st rh _ => by
  show OkA K ρ h H i _ _ (bcs (fI (fun z => It3.item (.int z)) (Int.add lo (Int.mul (.ofNat i) 1))) .stop (Nat.ble (Nat.succ i) n))
  cases e : Nat.ble (Nat.succ i) n with
  | true =>
    rw [bcs_true, fI_eq]
    have hl := Nat.le_of_ble_eq_true e
    refine ⟨⟨hl, fun x H' hy => ?_⟩, trivial⟩
    obtain ⟨rfl, rfl⟩ := hy
    refine ⟨Stp.refl _ _, rh, ?_⟩
    have e2 : Int.add lo (Int.mul (.ofNat i) 1) = lo + i := by
      show lo + (i : Int) * 1 = lo + i
      omega
    rw [e2]
    exact .pure (.int _)
  | false =>
    rw [bcs_false]
    show n ≤ i
    have : ¬ i + 1 ≤ n := fun q => by rw [Nat.ble_eq_true_of_le q] at e; cases e
    omega
theorem smallR_ok {i : Int} (h : smallR i = true) : -(2 ^ 62) ≤ i ∧ i < 2 ^ 62 := by
  have := Nat.le_of_ble_eq_true h
  omega
theorem oi_rng1 {tg : Expr} {p : Pos} (bn : Bn C "range" (.type "range")) (hn : notStar a = true) (ha : OE cls C a ca) : OI cls C tg (.Call (.Name "range" p) [a] [] pos) (wRng1 ca) := fun X W c hc =>
  PI.imp (pi_range1 (hc.gl_of bn.g) (hc.blts _ bn.m) (pa_cons (ha X W c hc) pa_nil (star_cons hn _)) (star_cons hn _)) fun σ H R ⟨ρ, h, e, at_, s⟩ =>
    ⟨ρ, h, e, at_, (bndS_sat s).mono (fun v h1 s1 ρ1 H1 x st1 rh1 rv1 => by
      obtain ⟨j, e, s1⟩ := satW_int s1
      subst e
      obtain ⟨sm, s1⟩ := satW_bcs s1
      obtain ⟨b1, b2⟩ := smallR_ok sm
      exact ⟨j, by rw [rv_int rv1], b1, b2, s1 ρ1 H1 _ st1 rh1 trivial src_rng⟩) fun _ _ q => q⟩
theorem oi_rng2 {tg : Expr} {p : Pos} (bn : Bn C "range" (.type "range")) (hn : notStar a = true) (hn2 : notStar b = true) (ha : OE cls C a ca) (hb : OE cls C b cb) : OI cls C tg (.Call (.Name "range" p) [a, b] [] pos) (wRng2 ca cb) := fun X W c hc =>
  PI.imp (pi_range2 (hc.gl_of bn.g) (hc.blts _ bn.m) (pa_cons (ha X W c hc) (pa_cons (hb X W c hc) pa_nil (star_cons hn2 _)) (star_cons hn _)) (by rw [star_cons hn, star_cons hn2]; rfl) (by rw [star_cons hn2]; rfl)) fun σ H R ⟨ρ, h, e, at_, s⟩ =>
    ⟨ρ, h, e, at_, (bndS_sat s).mono (fun v h1 s1 ρ1 H1 x st1 rh1 rv1 => ⟨ρ1, h1, e, at_.go st1 rh1, (bndS_sat s1).mono (fun w h2 s2 ρ2 H2 y st2 rh2 rv2 => by
      obtain ⟨i, e, s2⟩ := satW_int s2
      obtain ⟨j, e', s2⟩ := satW_int s2
      subst e e'
      obtain ⟨sm1, s2⟩ := satW_bcs s2
      obtain ⟨sm2, s2⟩ := satW_bcs s2
      obtain ⟨b1, b2⟩ := smallR_ok sm1
      obtain ⟨b3, b4⟩ := smallR_ok sm2
      first
        | exact ⟨i, j, by rw [rv_int rv1, rv_int rv2], ⟨b1, b2, b3, b4⟩, s2 ρ2 H2 _ (st1.trans st2) rh2 trivial src_rng⟩
        | exact ⟨i, j, by rw [rv_int rv1, rv_int rv2], ⟨b3, b4, b1, b2⟩, s2 ρ2 H2 _ (st1.trans st2) rh2 trivial src_rng⟩) fun _ _ q => q.reb st1⟩) fun _ _ q => q⟩

/-! ### lists, tuples -/
theorem src_itm {K : Fg} {ρ : Rho} {H : Hp} {xs : List PV} {vs : List V} {p : Addr} (hq : SqT K H p vs) (r : RVs K ρ H xs vs) : SrcOk K ρ H (.itm xs) (Itt K p) := fun ρ1 h H1 i st rh _ => by
  show OkA K ρ1 h H1 i _ _ (itO (nth xs i))
  rw [nth_eq]
  have hq1 := st.sqt hq
  have r1 := r.step st
  cases e : xs[i]? with
  | some v =>
    obtain ⟨x, h1, h2⟩ := r1.get e
    exact ⟨⟨⟨vs, x, hq1, h1⟩, fun y H' ⟨e1, hy⟩ => by subst e1; have := hy vs hq1; rw [h1] at this; cases this; exact ⟨Stp.refl _ _, rh, h2⟩⟩, trivial⟩
  | none => exact ⟨vs, hq1, by rw [← r1.length]; exact List.getElem?_eq_none_iff.mp e⟩
/-- a list made on the way -/
theorem src_tmp {K : Fg} {ρ : Rho} {H : Hp} {xs : List PV} {vs : List V} {p : Addr} (hp : H p = some (.lst vs)) (np : ∀ n, ρ n ≠ some p) (r : RVs K ρ H xs vs) : SrcOk K ρ H (.itm xs) (Itl K p) := fun ρ1 h H1 i st rh _ => by
  show OkA K ρ1 h H1 i _ _ (itO (nth xs i))
  rw [nth_eq]
  have hq1 : SqL K H1 p vs := .inl (.inl (st.keep p _ hp np))
  have r1 := r.step st
  cases e : xs[i]? with
  | some v =>
    obtain ⟨x, h1, h2⟩ := r1.get e
    exact ⟨⟨⟨vs, x, hq1, h1⟩, fun y H' ⟨e1, hy⟩ => by subst e1; have := hy vs hq1; rw [h1] at this; cases this; exact ⟨Stp.refl _ _, rh, h2⟩⟩, trivial⟩
  | none => exact ⟨vs, hq1, by rw [← r1.length]; exact List.getElem?_eq_none_iff.mp e⟩
theorem src_lst {K : Fg} {ρ : Rho} {H : Hp} {m : Nat} {p : Addr} (hp : ρ m = some p) : SrcOk K ρ H (.lst m) (Itl K p) := fun ρ1 h H1 i st rh _ => by
  show OkA K ρ1 h H1 i _ _ (lstAt (fun xs => itO (nth xs i)) .bad h m)
  have ep := st.inc _ _ hp
  unfold lstAt
  rw [nth_eq]
  cases e : h[m]? with
  | none => exact trivial
  | some o =>
    cases o with
    | dct kvs => exact trivial
    | lst xs =>
      obtain ⟨vs, q1, q2⟩ := rh.lstV e ep
      show OkA K ρ1 h H1 i _ _ (itO (nth xs i))
      rw [nth_eq]
      cases e : xs[i]? with
      | some v =>
        obtain ⟨x, h1, h2⟩ := q2.get e
        exact ⟨⟨⟨vs, x, .inl (.inl q1), h1⟩, fun y H' ⟨e1, hy⟩ => by subst e1; have := hy vs (.inl (.inl q1)); rw [h1] at this; cases this; exact ⟨Stp.refl _ _, rh, h2⟩⟩, trivial⟩
      | none => exact ⟨vs, .inl (.inl q1), by rw [← q2.length]; exact List.getElem?_eq_none_iff.mp e⟩
theorem oi_seq {tg : Expr} (ha : OE cls C a ca) : OI cls C tg a (wSeq ca) := fun X W c hc =>
  PI.imp (Tn.PI.or (pi_list (ha X W c hc)) (pi_tup (ha X W c hc))) fun σ H R ⟨ρ, h, e, at_, s⟩ => by
    have s2 := bndS_sat s
    cases er : ca c e h with
    | bad => rw [er] at s2; exact s2.elim
    | ex x h1 => refine .inl ⟨ρ, h, e, at_, ?_⟩; rw [er]; rw [er] at s2; exact s2
    | ok v h1 =>
      rw [er] at s2
      have tupC : ∀ xs, v = .tup xs ∨ v = .mtup xs → (∀ ρ' H' J, Stp ρ H ρ' H' → Rh X.K ρ' h1 H' → ib (.itm xs) 0 → SrcOk X.K ρ' H' (.itm xs) J → R J H') → iTup X.K (tE cls X.K W c ca) σ H R := fun xs hv s2 => by
        refine ⟨ρ, h, e, at_, ?_⟩
        rw [er]
        intro ρ1 H1 x st1 rh1 rv1
        have : ∃ p vs, x = .ref p ∧ SqT X.K H1 p vs ∧ RVs X.K ρ1 H1 xs vs := by
          rcases hv with rfl | rfl
          · obtain ⟨p, vs, e, h1, h2⟩ := rv_tup rv1; exact ⟨p, vs, e, h1, h2.toV⟩
          · exact rv_mtup rv1
        obtain ⟨p, vs, ex, hq, rvs⟩ := this
        exact ⟨p, ex, ⟨vs, hq⟩, s2 ρ1 H1 _ st1 rh1 trivial (src_itm hq rvs)⟩
      cases v with
      | tup xs => exact .inr (tupC xs (.inl rfl) s2)
      | mtup xs => exact .inr (tupC xs (.inr rfl) s2)
      | ref n =>
        obtain ⟨xs, e1, s2⟩ := satW_lst s2
        refine .inl ⟨ρ, h, e, at_, ?_⟩
        rw [er]
        intro ρ1 H1 x st1 rh1 rv1
        obtain ⟨p, ex, ea⟩ := rv_ref rv1
        obtain ⟨vs, q1, q2⟩ := rh1.lstV e1 ea
        exact ⟨p, ex, ⟨vs, .inl (.inl q1)⟩, s2 ρ1 H1 _ st1 rh1 trivial (src_lst ea)⟩
      | _ => exact s2.elim
theorem oi_tmp {tg : Expr} {l : LC} (ha : OL cls C a l) : OI cls C tg a (wTmp l) := fun X W c hc =>
  PI.imp (pi_list (ha X W c hc)) fun σ H R ⟨ρ, h, e, at_, s⟩ => ⟨ρ, h, e, at_, (bndLS_sat s).mono (fun vs h1 s1 ρ1 H1 p xs st1 rh1 hp np hq rv =>
    ⟨p, rfl, ⟨xs, .inl (.inl hq)⟩, s1 ρ1 H1 _ st1 rh1 trivial (src_tmp hq np rv)⟩) fun _ _ q => q⟩

/-! ### enumerate, zip -/
/-- a new pair -/
theorem pair_new {K : Fg} {ρ : Rho} {h : MH} {H : Hp} {v w : PV} {x y : V} {T : Addr} (rh : Rh K ρ h H) (hT : H T = none) (r1 : RV K ρ H v x) (r2 : RV K ρ H w y) :
    Stp ρ H ρ (upd H T (.tup [x, y])) ∧ Rh K ρ h (upd H T (.tup [x, y])) ∧ RV K ρ (upd H T (.tup [x, y])) (pairV v w) (.ref T) := by
  have st := stp_new (ρ := ρ) (.tup [x, y]) hT
  exact ⟨st, rh_new rh _ hT, mkTup_rel (.cons (r1.step st) (.cons (r2.step st) .nil)) (.inl (.inl upd_same))⟩
theorem src_ent {K : Fg} {ρ : Rho} {H : Hp} {xs : List PV} {vs : List V} {p : Addr} (hq : SqT K H p vs) (r : RVs K ρ H xs vs) : SrcOk K ρ H (.ent xs) (IteT K p) := fun ρ1 h H1 i st rh hi => by
  show OkA K ρ1 h H1 i _ _ (ocs (fun v => .item (pairV (.int (.ofNat i)) v)) .stop (nth xs i))
  rw [nth_eq]
  have hq1 := st.sqt hq
  have r1 := r.step st
  cases e : xs[i]? with
  | some v =>
    obtain ⟨x, h1, h2⟩ := r1.get e
    refine ⟨⟨⟨vs, x, hq1, h1⟩, fun y H' ⟨T, z, e0, hT, eH, hy⟩ => ?_⟩, ?_⟩
    · have := hy vs hq1
      rw [h1] at this; cases this
      subst e0 eH
      exact pair_new rh hT (.pure (.int _)) h2
    · exact (List.getElem?_eq_some_iff.mp e).1
  | none =>
    refine ⟨vs, hq1, ?_⟩
    have := List.getElem?_eq_none_iff.mp e
    have hi : i ≤ xs.length := hi
    rw [← r1.length]; omega
theorem src_enl {K : Fg} {ρ : Rho} {H : Hp} {m : Nat} {p : Addr} (hp : ρ m = some p) : SrcOk K ρ H (.enl m) (Ite K p) := fun ρ1 h H1 i st rh _ => by
  show OkA K ρ1 h H1 i _ _ (lstAt (fun xs => ocs (fun v => .item (pairV (.int (.ofNat i)) v)) .stop (nth xs i)) .bad h m)
  have ep := st.inc _ _ hp
  unfold lstAt
  rw [nth_eq]
  cases e : h[m]? with
  | none => exact trivial
  | some o =>
    cases o with
    | dct kvs => exact trivial
    | lst xs =>
      obtain ⟨vs, q1, q2⟩ := rh.lstV e ep
      show OkA K ρ1 h H1 i _ _ (ocs (fun v => .item (pairV (.int (.ofNat i)) v)) .stop (nth xs i))
      rw [nth_eq]
      cases e : xs[i]? with
      | some v =>
        obtain ⟨x, h1, h2⟩ := q2.get e
        refine ⟨⟨⟨vs, x, .inl (.inl q1), h1⟩, fun y H' ⟨T, z, e0, hT, eH, hy⟩ => ?_⟩, trivial⟩
        have := hy vs (.inl (.inl q1))
        rw [h1] at this; cases this
        subst e0 eH
        exact pair_new rh hT (.pure (.int _)) h2
      | none => exact ⟨vs, .inl (.inl q1), by rw [← q2.length]; exact List.getElem?_eq_none_iff.mp e⟩
theorem oi_enum {elts : List Expr} {kk : Nat} {tpos p : Pos} (bn : Bn C "enumerate" (.type "enumerate")) (hn : notStar a = true) (ha : OE cls C a ca) : OI cls C (.Tuple elts kk tpos) (.Call (.Name "enumerate" p) [a] [] pos) (wEnum ca) := fun X W c hc =>
  PI.imp (pi_enumA (hc.gl_of bn.g) (hc.blts _ bn.m) (pa_cons (ha X W c hc) pa_nil (star_cons hn _)) (star_cons hn _)) fun σ H R ⟨ρ, h, e, at_, s⟩ =>
    ⟨ρ, h, e, at_, (bndS_sat s).mono (fun v h1 s1 ρ1 H1 x st1 rh1 rv1 => by
      cases v with
      | tup xs =>
        obtain ⟨p, vs, ex, hq, rvs⟩ := rv_tup rv1
        exact ⟨p, vs, by rw [ex], .inr ⟨hq, s1 ρ1 H1 _ st1 rh1 (Nat.zero_le _) (src_ent hq rvs.toV)⟩⟩
      | mtup xs =>
        obtain ⟨p, vs, ex, hq, rvs⟩ := rv_mtup rv1
        exact ⟨p, vs, by rw [ex], .inr ⟨hq, s1 ρ1 H1 _ st1 rh1 (Nat.zero_le _) (src_ent hq rvs)⟩⟩
      | ref n =>
        obtain ⟨xs, e1, s1⟩ := satW_lst s1
        obtain ⟨p, ex, ea⟩ := rv_ref rv1
        obtain ⟨vs, q1, q2⟩ := rh1.lstV e1 ea
        exact ⟨p, vs, by rw [ex], .inl ⟨.inl (.inl q1), s1 ρ1 H1 _ st1 rh1 trivial (src_enl ea)⟩⟩
      | _ => exact s1.elim) fun _ _ q => q⟩
theorem src_zpt {K : Fg} {ρ : Rho} {H : Hp} {xs ys : List PV} {vs ws : List V} {p q : Addr} (hq : SqT K H p vs) (r : RVs K ρ H xs vs) (hq' : SqT K H q ws) (r' : RVs K ρ H ys ws) : SrcOk K ρ H (.zpt xs ys) (ItzT K p q) := fun ρ1 h H1 i st rh hi => by
  show OkA K ρ1 h H1 i _ _ (ocs (fun x => ocs (fun y => .item (pairV x y)) .stop (nth ys i)) .stop (nth xs i))
  rw [nth_eq, nth_eq]
  have hq1 := st.sqt hq
  have hq2 := st.sqt hq'
  have r1 := r.step st
  have r2 := r'.step st
  cases e : xs[i]? with
  | none => exact ⟨vs, ws, hq1, hq2, .inl (by rw [← r1.length]; exact List.getElem?_eq_none_iff.mp e)⟩
  | some v =>
    obtain ⟨x, h1, h2⟩ := r1.get e
    cases e2 : ys[i]? with
    | none => exact ⟨vs, ws, hq1, hq2, .inr (by rw [← r2.length]; exact List.getElem?_eq_none_iff.mp e2)⟩
    | some w =>
      obtain ⟨y, h3, h4⟩ := r2.get e2
      refine ⟨⟨⟨vs, ws, x, y, hq1, hq2, h1, h3⟩, fun z H' ⟨T, x', y', e0, hT, eH, hx, hy⟩ => ?_⟩, trivial⟩
      have q1 := hx vs hq1
      have q2 := hy ws hq2
      rw [h1] at q1; cases q1
      rw [h3] at q2; cases q2
      subst e0 eH
      exact pair_new rh hT h2 h4
theorem src_zpl {K : Fg} {ρ : Rho} {H : Hp} {m k : Nat} {p q : Addr} (hp : ρ m = some p) (hq : ρ k = some q) : SrcOk K ρ H (.zpl m k) (Itz K p q) := fun ρ1 h H1 i st rh _ => by
  show OkA K ρ1 h H1 i _ _ (lstAt (fun xs => lstAt (fun ys => ocs (fun x => ocs (fun y => .item (pairV x y)) .stop (nth ys i)) .stop (nth xs i)) .bad h k) .bad h m)
  have ep := st.inc _ _ hp
  have eq := st.inc _ _ hq
  unfold lstAt
  rw [nth_eq, nth_eq]
  cases e : h[m]? with
  | none => exact trivial
  | some o =>
    cases o with
    | dct kvs => exact trivial
    | lst xs =>
      show OkA K ρ1 h H1 i _ _ (ocs (fun o => HObj.cs (fun ys => ocs (fun x => ocs (fun y => .item (pairV x y)) .stop (nth ys i)) .stop (nth xs i)) (fun _ => .bad) o) .bad h[k]?)
      cases e' : h[k]? with
      | none => exact trivial
      | some o' =>
        cases o' with
        | dct kvs => exact trivial
        | lst ys =>
          obtain ⟨vs, q1, r1⟩ := rh.lstV e ep
          obtain ⟨ws, q2, r2⟩ := rh.lstV e' eq
          have hq1 : SqL K H1 p vs := .inl (.inl q1)
          have hq2 : SqL K H1 q ws := .inl (.inl q2)
          show OkA K ρ1 h H1 i _ _ (ocs (fun x => ocs (fun y => .item (pairV x y)) .stop (nth ys i)) .stop (nth xs i))
          rw [nth_eq, nth_eq]
          cases e : xs[i]? with
          | none => exact ⟨vs, ws, hq1, hq2, .inl (by rw [← r1.length]; exact List.getElem?_eq_none_iff.mp e)⟩
          | some v =>
            obtain ⟨x, h1, h2⟩ := r1.get e
            cases e2 : ys[i]? with
            | none => exact ⟨vs, ws, hq1, hq2, .inr (by rw [← r2.length]; exact List.getElem?_eq_none_iff.mp e2)⟩
            | some w =>
              obtain ⟨y, h3, h4⟩ := r2.get e2
              refine ⟨⟨⟨vs, ws, x, y, hq1, hq2, h1, h3⟩, fun z H' ⟨T, x', y', e0, hT, eH, hx, hy⟩ => ?_⟩, trivial⟩
              have q1 := hx vs hq1
              have q2 := hy ws hq2
              rw [h1] at q1; cases q1
              rw [h3] at q2; cases q2
              subst e0 eH
              exact pair_new rh hT h2 h4
theorem satW_tup {K : Fg} {ρ : Rho} {H : Hp} {P : Src → MH → Prop} {E : Nat → MH → Prop} {v : PV} {x : V} {k : List PV → Rsrc} (r : RV K ρ H v x) (s : SatW (asT k .bad v) P E) : ∃ a xs vs, x = .ref a ∧ SqT K H a vs ∧ RVs K ρ H xs vs ∧ SatW (k xs) P E := by
  cases v with
  | tup xs =>
    obtain ⟨a, vs, e, h1, h2⟩ := rv_tup r
    exact ⟨a, xs, vs, e, h1, h2.toV, s⟩
  | mtup xs =>
    obtain ⟨a, vs, e, h1, h2⟩ := rv_mtup r
    exact ⟨a, xs, vs, e, h1, h2, s⟩
  | _ => exact s.elim
theorem satW_ref {P : Src → MH → Prop} {E : Nat → MH → Prop} {v : PV} {k : Nat → Rsrc} (s : SatW (asR k .bad v) P E) : ∃ i, v = .ref i ∧ SatW (k i) P E := by
  cases v <;> first | exact ⟨_, rfl, s⟩ | exact s.elim
theorem oi_zip {elts : List Expr} {kk : Nat} {tpos p : Pos} (bn : Bn C "zip" (.type "zip")) (hn : notStar a = true) (hn2 : notStar b = true) (ha : OE cls C a ca) (hb : OE cls C b cb) :
    OI cls C (.Tuple elts kk tpos) (.Call (.Name "zip" p) [a, b] [] pos) (wZip ca cb) := fun X W c hc =>
  PI.imp (pi_zipA (hc.gl_of bn.g) (hc.blts _ bn.m) (pa_cons (ha X W c hc) (pa_cons (hb X W c hc) pa_nil (star_cons hn2 _)) (star_cons hn _)) (star_cons hn _) (star_any pos X.env [b] (by simp [hn2]))) fun σ H R ⟨ρ, h, e, at_, s⟩ =>
    ⟨ρ, h, e, at_, (bndS_sat s).mono (fun v h1 s1 ρ1 H1 x st1 rh1 rv1 => ⟨ρ1, h1, e, at_.go st1 rh1, (bndS_sat s1).mono (fun w h2 s2 ρ2 H2 y st2 rh2 rv2 => by
      have rv1 := rv1.step st2
      have tupC : ∀ xs p vs, x = .ref p → SqT X.K H2 p vs → RVs X.K ρ2 H2 xs vs → SatW (asT (fun ys => .ok (.zpt xs ys) h2) .bad w) (fun s h' => ∀ ρ' H' J, Stp ρ H ρ' H' → Rh X.K ρ' h' H' → ib s 0 → SrcOk X.K ρ' H' s J → R J H') (FinX cls X.K W ρ H σ) →
          ∃ a b xs ys, [x, y] = [V.ref a, .ref b] ∧ ((SqL X.K H2 a xs ∧ SqL X.K H2 b ys ∧ R (Itz X.K a b) H2) ∨ (SqT X.K H2 a xs ∧ SqT X.K H2 b ys ∧ R (ItzT X.K a b) H2)) := fun xs p vs ex hq rvs s => by
        obtain ⟨q, ys, ws, ey, hq', rvs', s⟩ := satW_tup rv2 s
        exact ⟨p, q, vs, ws, by rw [ex, ey], .inr ⟨hq, hq', s ρ2 H2 _ (st1.trans st2) rh2 trivial (src_zpt hq rvs hq' rvs')⟩⟩
      cases v with
      | tup xs => obtain ⟨p, vs, ex, hq, rvs⟩ := rv_tup rv1; exact tupC xs p vs ex hq rvs.toV s2
      | mtup xs => obtain ⟨p, vs, ex, hq, rvs⟩ := rv_mtup rv1; exact tupC xs p vs ex hq rvs s2
      | ref n =>
        obtain ⟨m, e0, s2⟩ := satW_ref s2
        subst e0
        obtain ⟨p, ex, ea⟩ := rv_ref rv1
        obtain ⟨q, ey, eb⟩ := rv_ref rv2
        obtain ⟨xs, e1, s2⟩ := satW_lst s2
        obtain ⟨ys, e2, s2⟩ := satW_lst s2
        obtain ⟨vs, q1, q2⟩ := rh2.lstV e1 ea
        obtain ⟨ws, q3, q4⟩ := rh2.lstV e2 eb
        exact ⟨p, q, vs, ws, by rw [ex, ey], .inl ⟨.inl (.inl q1), .inl (.inl q3), s2 ρ2 H2 _ (st1.trans st2) rh2 trivial (src_zpl ea eb)⟩⟩
      | _ => exact s2.elim) fun _ _ q => q.reb st1⟩) fun _ _ q => q⟩
end
end Tn

set_option maxHeartbeats 4000000
/-! comprehensions -/
namespace Tn
open PySem PySem.Spec PyProof.Rows L2 RZ
section
variable {cls : Nat → Value} {C : CC} {pos : Pos} {a b d e : Expr} {ca cb cd : EC} {es : List Expr} {ces : LC}
/-- where a comprehension's block stands -/
def CC.blk (C : CC) (scope : Scope) : CC := { C with sc := relS scope C.sc, stor := fun x => scope.names.lookup x == some .cell || (relS scope C.sc).names.lookup x == some .local, sq := false }
theorem ctx_blk {X : Cx} {W : WX} {c : CF} (hc : Ctx cls C X W c) (scope : Scope) (s : Shared) (H : Hp) (D : Addr) (cl : List (Str × Addr)) (fp : List Addr) : Ctx cls (C.blk scope) (X.blk s H scope (compEnvC scope cl D X.env) fp) (fun _ _ _ _ => False) c where
  N := hc.N
  sc := by show relS scope X.env.scope = relS scope C.sc; rw [hc.sc]
  nd := hc.nd
  calm := hc.calm
  tk := takes0
  pass := PassesOwn.never
  stor := fun x h => by
    have h : (scope.names.lookup x == some .cell || (relS scope C.sc).names.lookup x == some .local) = true := h
    rw [Bool.or_eq_true] at h
    rcases h with h | h
    · exact .inl h
    · refine .inr ?_
      show (relS scope X.env.scope).names.lookup x = some .local
      rw [hc.sc]
      exact beq_iff_eq.mp h
  room := hc.room
  ind := fun h => by cases h
  fns := hc.fns
  csts := hc.csts
  blts := hc.blts
  clss := hc.clss
  hnd := hc.hnd
  fr := fun h => by cases h
theorem wipeK_eq {α : Type} : ∀ (own : List Nat) (e : MEnv) (k : MEnv → α), wipeK own e k = k (own.foldr (fun i e => e.set i .un) e)
  | [], e, k => rfl
  | i :: own, e, k => by
    show wipeK own e (fun e => setK e i .un k) = _
    rw [wipeK_eq own e, setK_eq]; rfl
theorem wipe_re {K : Fg} {ρ : Rho} {H : Hp} {e : MEnv} {σ : L2.St} (r : Re K ρ H e σ) : ∀ own : List Nat, Re K ρ H (own.foldr (fun i e => e.set i .un) e) (L2.wipe σ own)
  | [] => r
  | i :: own => by
    have ih := wipe_re r own
    show Re K ρ H ((own.foldr (fun i e => e.set i .un) e).set i .un) ((L2.wipe σ own).set i none)
    refine ⟨by rw [List.length_set, List.length_set]; exact ih.len, fun j v h n => ?_⟩
    by_cases hj : i = j
    · subst hj
      by_cases hl : i < (own.foldr (fun i e => e.set i .un) e).length
      · rw [List.getElem?_set_self hl] at h; cases h; exact absurd rfl n
      · rw [List.getElem?_eq_none (by rw [List.length_set]; omega)] at h; cases h
    · rw [List.getElem?_set_ne hj] at h
      obtain ⟨x, h1, h2⟩ := ih.get j v h n
      exact ⟨x, by rw [List.getElem?_set_ne hj]; exact h1, h2⟩
theorem cOut_sat {r : Rs} {f : PV → MH → Rl} {P : List PV → MH → Prop} {E E' : Nat → MH → Prop} (s : SatL (cOut r f) P E) : SatR r (fun v h => SatL (f v h) P E) E' := by cases r <;> first | exact s | exact s.elim
theorem satL_bl {v : PV} {f : Bool → Rl} {P : List PV → MH → Prop} {E : Nat → MH → Prop} (s : SatL (asB f .bad v) P E) : ∃ b, v = .bl b ∧ SatL (f b) P E := by
  cases v <;> first | exact ⟨_, rfl, s⟩ | exact s.elim
theorem satL_bcs {b : Bool} {r : Rl} {P : List PV → MH → Prop} {E : Nat → MH → Prop} (s : SatL (bcs r .bad b) P E) : b = true ∧ SatL r P E := by
  cases b with
  | true => exact ⟨rfl, s⟩
  | false => exact s.elim
mutual
theorem RV.sq {K : Fg} {ρ : Rho} {H H' : Hp} (s : ∀ a vs, SqT K H a vs → SqT K H' a vs) : ∀ {v : PV} {x : V}, RV K ρ H v x → RV K ρ H' v x
  | _, _, .pure a => .pure (RP.sq s a)
  | _, _, .ref a => .ref a
  | _, _, .mtup a b => .mtup (s _ _ a) (RVs.sq s b)
  | _, _, .opq => .opq
theorem RVs.sq {K : Fg} {ρ : Rho} {H H' : Hp} (s : ∀ a vs, SqT K H a vs → SqT K H' a vs) : ∀ {v : List PV} {x : List V}, RVs K ρ H v x → RVs K ρ H' v x
  | _, _, .nil => .nil
  | _, _, .cons a b => .cons (RV.sq s a) (RVs.sq s b)
theorem RP.sq {K : Fg} {H H' : Hp} (s : ∀ a vs, SqT K H a vs → SqT K H' a vs) : ∀ {v : PV} {x : V}, RP K H v x → RP K H' v x
  | _, _, .non => .non
  | _, _, .bl b => .bl b
  | _, _, .int i => .int i
  | _, _, .str x => .str x
  | _, _, .tup a b => .tup (s _ _ a) (RPs.sq s b)
theorem RPs.sq {K : Fg} {H H' : Hp} (s : ∀ a vs, SqT K H a vs → SqT K H' a vs) : ∀ {v : List PV} {x : List V}, RPs K H v x → RPs K H' v x
  | _, _, .nil => .nil
  | _, _, .cons a b => .cons (RP.sq s a) (RPs.sq s b)
end
theorem sqt_dyn {K : Fg} {H : Hp} {D : Addr} {xs ys : List V} (d : H D = some (.lst xs)) {a : Addr} {vs : List V} (q : SqT K H a vs) : SqT K (upd H D (.lst ys)) a vs := by
  rcases q with (h | ⟨o, h⟩) | h
  · exact .inl (.inl (by rw [upd_ne (fun z => by subst z; rw [d] at h; cases h)]; exact h))
  · exact .inl (.inr ⟨o, by rw [upd_ne (fun z => by subst z; rw [d] at h; cases h)]; exact h⟩)
  · exact .inr h
theorem stp_dyn {ρ1 ρ : Rho} {H1 H : Hp} (s : Stp ρ1 H1 ρ H) {D : Addr} {xs ys : List V} (hD : H1 D = none) (d : H D = some (.lst xs)) : Stp ρ1 H1 ρ (upd H D (.lst ys)) :=
  ⟨s.inc, fun a o e n => by rw [upd_ne (ne_of_none e hD)]; exact s.keep a o e n, fun a e => upd_live (s.live a e), fun a vs e => by rw [upd_ne (ne_of_none e hD)]; exact s.tup a vs e,
    fun a o u e => by rw [upd_ne (ne_of_none e hD)]; exact s.frz a o u e, s.fresh⟩
theorem rh_dyn {K : Fg} {ρ : Rho} {h : MH} {H : Hp} (r : Rh K ρ h H) {D : Addr} {xs ys : List V} (d : H D = some (.lst xs)) (nd : ∀ n, ρ n ≠ some D) : Rh K ρ h (upd H D (.lst ys)) :=
  ⟨fun n o e => by
    obtain ⟨a, u, h1, h2, h3⟩ := r.at_ n o e
    refine ⟨a, u, h1, by rw [upd_ne (fun z => nd n (by rw [← z]; exact h1))]; exact h2, ?_⟩
    cases h3 with
    | lst a => exact .lst (a.sq fun _ _ q => sqt_dyn d q)
    | dk p a b => exact .dk p (a.sq fun _ _ q => sqt_dyn d q) (b.sq fun _ _ q => sqt_dyn d q), r.inj, r.dom⟩
theorem re_dyn {K : Fg} {ρ : Rho} {H H' : Hp} {e : MEnv} {σ : L2.St} (s : ∀ a vs, SqT K H a vs → SqT K H' a vs) (r : Re K ρ H e σ) : Re K ρ H' e σ :=
  ⟨r.len, fun i v h n => let ⟨x, h1, h2⟩ := r.get i v h n; ⟨x, h1, h2.sq s⟩⟩
/-- the state of a comprehension between two turns -/
structure CSt (cls : Nat → Value) (K : Fg) (W : WX) (tg : TC) (t : Option EC) (elt : EC) (c : CF) (src : Src) (Q : VK) (σ : L2.St) (e : MEnv) (ρ0 : Rho) (H0 : Hp) (ρ1 : Rho) (H1 : Hp) (D : Addr) (σw : L2.St) (i m : Nat) (H : Hp) (ρ : Rho) (h : MH) (acc : List PV) (accV : List V) : Prop where
  st : Stp ρ1 H1 ρ H
  at_ : At K e h σw ρ H
  ib : ib src i
  d : H D = some (.lst accV)
  nd : ∀ n, ρ n ≠ some D
  rv : RVs K ρ H acc.reverse accV
  le : acc.length ≤ i
  run : SatL (compK tg t elt c e src m i acc h) (FinL K ρ0 H0 Q) (FinX cls K W ρ0 H0 σ)
theorem wipe_idem {σ : L2.St} {vs : List Nat} : L2.wipe (L2.wipe σ vs) vs = L2.wipe σ vs := by
  apply List.ext_getElem?
  intro j
  by_cases hj : j ∈ vs
  · by_cases hl : j < σ.length
    · rw [wipe_in (by rw [wipe_length]; exact hl) hj, wipe_in hl hj]
    · rw [List.getElem?_eq_none (by rw [wipe_length, wipe_length]; omega), List.getElem?_eq_none (by rw [wipe_length]; omega)]
  · rw [wipe_out hj]
def OTs (cls : Nat → Value) (C : CC) (ifs : List Expr) (ct : Option EC) : Prop := match ct, ifs with | none, [] => True | some cc, [cx] => OT cls C cx cc | _, _ => False
def ttOf (cls : Nat → Value) (K : Fg) (c : CF) (ct : Option EC) : TT := match ct with
  | none => tYes
  | some cc => tT cls K (fun _ _ _ _ => False) c cc
def gRd (K : Fg) (g : TC) (ss : List Nat) : TG := fun x σ H Q => ∃ ρ v h e e', At K e h σ ρ H ∧ RV K ρ H v x ∧ g v e = some e' ∧ ∀ σ', At K e' h σ' ρ H → Bt ss σ σ' → Q σ' H
def wRd (cls : Nat → Value) (K : Fg) (W : WX) (c : CF) (w : WC) : TI := fun σ H R => ∃ ρ h e, At K e h σ ρ H ∧ SatW (w c e h) (fun s h' => ∀ ρ' H' J, Stp ρ H ρ' H' → Rh K ρ' h' H' → ib s 0 → SrcOk K ρ' H' s J → R J H') (FinX cls K W ρ H σ)
theorem lc_rd {own : List (Str × Nat)} {w : WC} {g : TC} {ss : List Nat} {ct : Option EC} {cel : EC} {X : Cx} {W : WX} {c : CF} (hss : ∀ i ∈ ss, i ∈ own.map (·.2)) {σ : L2.St} {H : Hp} {Q : VK}
    (t : tL cls X.K W c (lComp (own.map (·.2)) w g ct cel) σ H Q) : tLc (wRd cls X.K W c w) (gRd X.K g ss) (ttOf cls X.K c ct) (tE cls X.K (fun _ _ _ _ => False) c cel) (own.map (·.2)) σ H Q := by
  obtain ⟨ρ, h, e, at_, s⟩ := t
  refine ⟨ρ, h, e, at_, ?_⟩
  have s : SatL (Rsrc.cs (fun s h => wipeK (own.map (·.2)) e fun e => compK g ct cel c e s fuelN 0 [] h) .ex .bad (w c e h)) (FinL X.K ρ H Q) (FinX cls X.K W ρ H σ) := s
  cases er : w c e h with
  | bad => rw [er] at s; exact s.elim
  | ex x h1 => rw [er] at s; exact s
  | ok src h1 =>
    rw [er] at s
    have s : SatL (wipeK (own.map (·.2)) e fun e => compK g ct cel c e src fuelN 0 [] h1) (FinL X.K ρ H Q) (FinX cls X.K W ρ H σ) := s
    rw [wipeK_eq] at s
    intro ρ1 H1 J st1 rh1 hib hsrc D hD
    generalize hew : (own.map (·.2)).foldr (fun i e => e.set i .un) e = ew at s
    have stD := stp_new (ρ := ρ1) (.lst []) hD
    have re0 : Re X.K ρ1 (upd H1 D (.lst [])) ew (L2.wipe σ (own.map (·.2))) := by
      rw [← hew]; exact (wipe_re (at_.re.step st1) _).step stD
    refine ⟨fun i m H2 => ∃ ρ2 h2 acc accV, CSt cls X.K W g ct cel c src Q σ ew ρ H ρ1 H1 D (L2.wipe σ (own.map (·.2))) i m H2 ρ2 h2 acc accV, ⟨fuelN, ρ1, h1, [], [], stD, ⟨rh_new rh1 _ hD, re0⟩, hib, upd_same, rh1.unk hD, .nil, Nat.zero_le _, s⟩, ?_⟩
    rintro i m H2 ⟨ρ2, h2, acc, accV, S⟩
    have run := S.run
    cases m with
    | zero => exact run.elim
    | succ m =>
      have run : SatL (It3.cs (fun v => ocs (fun e1 => ocs
          (fun tc => cOut (tc c e1 h2) fun b h => asB (fun b => bcs (cOut (cel c e1 h) fun y h => bcs (fN (fun j => compK g ct cel c ew src m j (y :: acc) h) (Nat.succ i)) .bad (Nat.ble i 1000000)) (fN (fun j => compK g ct cel c ew src m j acc h) (Nat.succ i)) b) .bad b)
          (cOut (cel c e1 h2) fun y h => bcs (fN (fun j => compK g ct cel c ew src m j (y :: acc) h) (Nat.succ i)) .bad (Nat.ble i 1000000)) ct) .bad (g v ew))
        (.ok (revA acc []) h2) .bad (srcAt src i h2)) (FinL X.K ρ H Q) (FinX cls X.K W ρ H σ) := run
      have so := hsrc ρ2 h2 H2 i S.st S.at_.rh S.ib
      cases ea : srcAt src i h2 with
      | bad => rw [ea] at run; exact run.elim
      | stop =>
        rw [ea] at run so
        have run : SatL (.ok (revA acc []) h2) (FinL X.K ρ H Q) (FinX cls X.K W ρ H σ) := run
        rw [revA_eq, List.append_nil] at run
        exact .inl ⟨so, run ρ2 H2 D accV (st1.trans S.st) S.at_.rh (st1.none_of hD) S.nd S.d S.rv⟩
      | item v =>
        rw [ea] at run so
        obtain ⟨⟨hgo, hyld⟩, hib'⟩ := so
        cases eg : g v ew with
        | none =>
          have run : SatL (ocs _ .bad (g v ew)) (FinL X.K ρ H Q) (FinX cls X.K W ρ H σ) := run
          rw [eg] at run; exact run.elim
        | some e1 =>
          have run : SatL (ocs _ .bad (g v ew)) (FinL X.K ρ H Q) (FinX cls X.K W ρ H σ) := run
          rw [eg] at run
          refine .inr ⟨hgo, fun H' => ∃ ρ' h' acc' accV', CSt cls X.K W g ct cel c src Q σ ew ρ H ρ1 H1 D (L2.wipe σ (own.map (·.2))) (i + 1) m H' ρ' h' acc' accV', fun H' q => ⟨m, Nat.lt_succ_self m, q⟩, fun x H3 hy => ?_⟩
          obtain ⟨st3, rh3, rv3⟩ := hyld x H3 hy
          have at3 : At X.K ew h2 (L2.wipe σ (own.map (·.2))) ρ2 H3 := S.at_.go st3 rh3
          refine ⟨ρ2, v, h2, ew, e1, at3, rv3, eg, fun σ' at' bt => ?_⟩
          have wo : L2.wipe σ' (own.map (·.2)) = L2.wipe σ (own.map (·.2)) := (bt _ hss).trans wipe_idem
          refine ⟨wo, ?_⟩
          have d3 : H3 D = some (.lst accV) := st3.keep _ _ S.d S.nd
          have go : ∀ {ρ4 : Rho} {h4 : MH} {H4 : Hp}, Stp ρ2 H3 ρ4 H4 → H4 D = some (.lst accV) ∧ (∀ n, ρ4 n ≠ some D) ∧ RVs X.K ρ4 H4 acc.reverse accV := fun {ρ4 h4 H4} st4 =>
            ⟨st4.keep _ _ d3 S.nd, fun n z => (st4.fresh n D z).elim (S.nd n) (fun q => by rw [d3] at q; cases q), (S.rv.step st3).step st4⟩
          -- the turn goes on from H4 to the next one
          have skip : ∀ {ρ4 : Rho} {h4 : MH} {H4 : Hp}, Stp ρ2 H3 ρ4 H4 → Rh X.K ρ4 h4 H4 →
              SatL (fN (fun j => compK g ct cel c ew src m j acc h4) (Nat.succ i)) (FinL X.K ρ H Q) (FinX cls X.K W ρ H σ) →
              ∃ ρ' h' acc' accV', CSt cls X.K W g ct cel c src Q σ ew ρ H ρ1 H1 D (L2.wipe σ (own.map (·.2))) (i + 1) m H4 ρ' h' acc' accV' := fun {ρ4 h4 H4} st4 rh4 s4 => by
            rw [fN_eq] at s4
            obtain ⟨d4, n4, r4⟩ := go (h4 := h4) st4
            exact ⟨ρ4, h4, acc, accV, S.st.trans (st3.trans st4), (S.at_.go st3 rh3).go st4 rh4, hib', d4, n4, r4, Nat.le_succ_of_le S.le, s4⟩
          have eltR : ∀ {ρ4 : Rho} {h4 : MH} {H4 : Hp}, Stp ρ2 H3 ρ4 H4 → Rh X.K ρ4 h4 H4 →
              SatL (cOut (cel c e1 h4) fun y h => bcs (fN (fun j => compK g ct cel c ew src m j (y :: acc) h) (Nat.succ i)) .bad (Nat.ble i 1000000)) (FinL X.K ρ H Q) (FinX cls X.K W ρ H σ) →
              tE cls X.K (fun _ _ _ _ => False) c cel σ' H4 fun y H4 => ∃ acc, H4 D = some (.lst acc) ∧ acc.length < sizeLine ∧ ∃ ρ' h' acc' accV', CSt cls X.K W g ct cel c src Q σ ew ρ H ρ1 H1 D (L2.wipe σ (own.map (·.2))) (i + 1) m (upd H4 D (.lst (acc ++ [y]))) ρ' h' acc' accV' := fun {ρ4 h4 H4} st4 rh4 s4 => by
            refine ⟨ρ4, h4, e1, at'.go st4 rh4, (cOut_sat s4).mono (fun y h5 s5 ρ5 H5 yv st5 rh5 rv5 => ?_) fun _ _ q => q⟩
            obtain ⟨bl, s5⟩ := satL_bcs s5
            obtain ⟨d5, n5, r5⟩ := go (h4 := h5) (st4.trans st5)
            have bl := Nat.le_of_ble_eq_true bl
            refine ⟨accV, d5, ?_, ρ5, h5, y :: acc, accV ++ [yv], ?_⟩
            · rw [← S.rv.length, List.length_reverse]
              have := S.le
              show acc.length < 2 ^ 24
              omega
            · rw [fN_eq] at s5
              have st15 := S.st.trans (st3.trans (st4.trans st5))
              have sq : ∀ a vs, SqT X.K H5 a vs → SqT X.K (upd H5 D (.lst (accV ++ [yv]))) a vs := fun a vs q => sqt_dyn d5 q
              refine ⟨stp_dyn st15 hD d5, ⟨rh_dyn rh5 d5 n5, re_dyn sq (((S.at_.go st3 rh3).go (st4.trans st5) rh5).re)⟩, hib', upd_same, n5, ?_, by simp; exact S.le, s5⟩
              rw [List.reverse_cons]
              exact (r5.sq sq).append (.cons (rv5.sq sq) .nil)
          cases ct with
          | none =>
            exact eltR (Stp.refl _ _) at'.rh run
          | some cc =>
            show tT cls X.K (fun _ _ _ _ => False) c cc σ' H3 _
            have run : SatL (cOut (cc c e1 h2) fun b h => asB (fun b => bcs (cOut (cel c e1 h) fun y h => bcs (fN (fun j => compK g (some cc) cel c ew src m j (y :: acc) h) (Nat.succ i)) .bad (Nat.ble i 1000000)) (fN (fun j => compK g (some cc) cel c ew src m j acc h) (Nat.succ i)) b) .bad b) (FinL X.K ρ H Q) (FinX cls X.K W ρ H σ) := run
            refine ⟨ρ2, h2, e1, at', (cOut_sat run).mono (fun b h4 s4 => ?_) fun _ _ q => q⟩
            obtain ⟨b, rfl, s4⟩ := satL_bl s4
            refine ⟨b, rfl, fun ρ4 H4 st4 rh4 => ?_⟩
            cases b with
            | true =>
              show (if true = true then _ else _)
              rw [if_pos rfl]
              exact eltR st4 rh4 s4
            | false =>
              show (if false = true then _ else _)
              rw [if_neg (by decide)]
              exact skip st4 rh4 s4
theorem tt_rd {ct : Option EC} {ifs : List Expr} {scope : Scope} {X : Cx} {W : WX} {c : CF} (hc : Ctx cls C X W c) (ht : OTs cls (C.blk scope) ifs ct) : ∀ (s : Shared) (H : Hp) (D : Addr) (cl : List (Str × Addr)) (fp : List Addr), PTs (X.blk s H scope (compEnvC scope cl D X.env) fp) ifs (ttOf cls X.K c ct) := fun s H D cl fp => by
    cases ct with
    | none =>
      cases ifs with
      | nil => exact pts_nil
      | cons => exact ht.elim
    | some cc =>
      cases ifs with
      | nil => exact ht.elim
      | cons cx r =>
        cases r with
        | nil => exact pts_one (ht _ _ _ (ctx_blk hc scope s H D cl fp))
        | cons => exact ht.elim
theorem ol_comp {tg iter elt : Expr} {ifs : List Expr} {scope : Scope} {own : List (Str × Nat)} {w : WC} {g : TC} {ss : List Nat} {ct : Option EC} {cel : EC} (ok : BlkOk C.N C.sc scope own)
    (hw : OI cls C tg iter w) (hg : OG cls (C.blk scope) tg g ss) (hss : ∀ i ∈ ss, i ∈ own.map (·.2)) (ht : OTs cls (C.blk scope) ifs ct)
    (he : OE cls (C.blk scope) elt cel) (hs : ∀ env x, foldedSetIterable iter env x = pure x) : OL cls C (.ListComp elt [⟨tg, iter, ifs, 0⟩] scope pos) (lComp (own.map (·.2)) w g ct cel) := fun X W c hc =>
  PE.imp (pe_lc (wi := wRd cls X.K W c w) (te := tE cls X.K (fun _ _ _ _ => False) c cel) (g := gRd X.K g ss) (tt := ttOf cls X.K c ct) hc.calm (by rw [hc.N]; exact hc.nd) (hw X W c hc) (by rw [hc.N, hc.sc]; exact ok) (fun s H D cl fp => hg _ _ _ (ctx_blk hc scope s H D cl fp)) (tt_rd hc ht) (fun s H D cl fp => he _ _ _ (ctx_blk hc scope s H D cl fp)) (hs X.env)) fun σ H Q t => lc_rd hss t
end
end Tn

set_option maxHeartbeats 4000000
/-! statements -/
namespace Tn
open PySem PySem.Spec PyProof.Rows L2 RZ
def SatO (r : Out) (N : MEnv → MH → Prop) (R : PV → MH → Prop) (E : Nat → MH → Prop) (B T : MEnv → MH → Prop) : Prop :=
  match r with | .nx e h => N e h | .ret v h => R v h | .ex c h => E c h | .brk e h => B e h | .cnt e h => T e h | .bad => False
def FinN (K : Fg) (ρ : Rho) (H : Hp) (N : L2.St → Hp → Prop) : MEnv → MH → Prop := fun e h => ∀ ρ' H' σ', Stp ρ H ρ' H' → At K e h σ' ρ' H' → N σ' H'
def SatD (cls : Nat → Value) (K : Fg) (W : WX) (ρ : Rho) (H : Hp) (σ : L2.St) (D : Ends) (r : Out) : Prop := SatO r (FinN K ρ H D.nx) (FinV K ρ H D.rt) (FinX cls K W ρ H σ) (FinN K ρ H D.bk) (FinN K ρ H D.ct)
def tS (cls : Nat → Value) (K : Fg) (W : WX) (c : CF) (s : SC) : TS := fun D σ H => ∃ ρ h e, At K e h σ ρ H ∧ SatD cls K W ρ H σ D (s c e h)
section
variable {cls : Nat → Value} {K : Fg} {W : WX} {ρ ρ1 : Rho} {H H1 : Hp} {σ σ' : L2.St} {D : Ends}
theorem FinN.reb (s : Stp ρ H ρ1 H1) {N : L2.St → Hp → Prop} {e : MEnv} {h : MH} (f : FinN K ρ H N e h) : FinN K ρ1 H1 N e h := fun ρ' H' σ' a b => f ρ' H' σ' (s.trans a) b
theorem SatD.reb (s : Stp ρ H ρ1 H1) {r : Out} (q : SatD cls K W ρ H σ D r) : SatD cls K W ρ1 H1 σ D r := by
  cases r with
  | nx e h => exact FinN.reb s q
  | ret v h => exact FinV.reb s q
  | ex c h => exact FinX.reb s q
  | brk e h => exact FinN.reb s q
  | cnt e h => exact FinN.reb s q
  | bad => exact q
theorem SatD.st (ind : ∀ a d σ σ' H, W a d σ H → W a d σ' H) {r : Out} (q : SatD cls K W ρ H σ D r) : SatD cls K W ρ H σ' D r := by
  cases r with
  | ex c h => exact fun ρ' H' a b => ind _ _ _ _ _ (q ρ' H' a b)
  | _ => exact q
theorem bndO_sat {r : Rs} {f : PV → MH → Out} (q : SatD cls K W ρ H σ D (bndO r f)) : SatR r (fun v h => SatD cls K W ρ H σ D (f v h)) (FinX cls K W ρ H σ) := by cases r <;> exact q
theorem bndLO_sat {r : Rl} {f : List PV → MH → Out} (q : SatD cls K W ρ H σ D (bndLO r f)) : SatL r (fun v h => SatD cls K W ρ H σ D (f v h)) (FinX cls K W ρ H σ) := by cases r <;> exact q
theorem satD_bl {v : PV} {f : Bool → Out} (q : SatD cls K W ρ H σ D (asB f .bad v)) : ∃ b, v = .bl b ∧ SatD cls K W ρ H σ D (f b) := by
  cases v <;> first | exact ⟨_, rfl, q⟩ | exact q.elim
theorem satD_ocs {β : Type} {o : Option β} {f : β → Out} (q : SatD cls K W ρ H σ D (ocs f .bad o)) : ∃ b, o = some b ∧ SatD cls K W ρ H σ D (f b) := by
  cases o with
  | none => exact q.elim
  | some b => exact ⟨b, rfl, q⟩
theorem satD_bcs {b : Bool} {r : Out} (q : SatD cls K W ρ H σ D (bcs r .bad b)) : b = true ∧ SatD cls K W ρ H σ D r := by
  cases b with
  | true => exact ⟨rfl, q⟩
  | false => exact q.elim
end
def OS (cls : Nat → Value) (C : CC) (st : Stmt) (s : SC) : Prop := ∀ X W c, Ctx cls C X W c → PS X st (tS cls X.K W c s)
def OSs (cls : Nat → Value) (C : CC) (st : List Stmt) (s : SC) : Prop := ∀ X W c, Ctx cls C X W c → PSs X st (tS cls X.K W c s)
theorem PS.imp {X : Cx} {st : Stmt} {t u : TS} (p : PS X st t) (h : ∀ D σ H, u D σ H → t D σ H) : PS X st u := ⟨fun pins s σ H D I q => p.run pins s σ H D I (h D σ H q)⟩
theorem PSs.imp {X : Cx} {st : List Stmt} {t u : TS} (p : PSs X st t) (h : ∀ D σ H, u D σ H → t D σ H) : PSs X st u := ⟨fun pins s σ H D I q => p.run pins s σ H D I (h D σ H q)⟩
section
variable {cls : Nat → Value} {C : CC} {pos : Pos} {a b d e : Expr} {ca cb cd : EC} {es : List Expr} {ces : LC} {st : Stmt} {sts sts2 : List Stmt} {s s1 s2 : SC}
theorem oss_nil : OSs cls C [] sNil := fun X W c hc => PSs.imp pss_nil fun D σ H ⟨ρ, h, e, at_, q⟩ => q ρ H σ (Stp.refl _ _) at_
theorem oss_one (h : OS cls C st s) : OSs cls C [st] s := fun X W c hc => pss_one (h X W c hc)
theorem oss_cons (hq : C.sq = true) (h1 : OS cls C st s1) (h2 : OSs cls C sts s2) : OSs cls C (st :: sts) (sSeq s1 s2) := fun X W c hc =>
  PSs.imp (pss_cons (h1 X W c hc) (h2 X W c hc)) fun D σ H ⟨ρ, h, e, at_, q⟩ => by
    refine ⟨ρ, h, e, at_, ?_⟩
    have q : SatD cls X.K W ρ H σ D (Out.cs (fun e h => s2 c e h) .ret .ex .brk .cnt .bad (s1 c e h)) := q
    cases er : s1 c e h with
    | nx e1 h1 =>
      rw [er] at q
      have q : SatD cls X.K W ρ H σ D (s2 c e1 h1) := q
      exact fun ρ' H' σ' st1 at1 => ⟨ρ', h1, e1, at1, (q.reb st1).st (hc.ind hq)⟩
    | ret v h1 => rw [er] at q; exact q
    | ex x h1 => rw [er] at q; exact q
    | brk e1 h1 => rw [er] at q; exact q
    | cnt e1 h1 => rw [er] at q; exact q
    | bad => rw [er] at q; exact q
/-- a docstring ahead -/
theorem oss_doc {x : Str} {j p p'} (h : OSs cls C sts s) : OSs cls C (.Expr (.Constant (.str x) j p) p' :: sts) s := fun X W c hc =>
  PSs.imp (pss_cons ps_doc (h X W c hc)) fun D σ H q => q
theorem os_pass : OS cls C (.Pass pos) sPass := fun X W c hc => PS.imp ps_pass fun D σ H ⟨ρ, h, e, at_, q⟩ => q ρ H σ (Stp.refl _ _) at_
theorem os_brk : OS cls C (.Break pos) sBrk := fun X W c hc => PS.imp ps_break fun D σ H ⟨ρ, h, e, at_, q⟩ => q ρ H σ (Stp.refl _ _) at_
theorem os_cnt : OS cls C (.Continue pos) sCnt := fun X W c hc => PS.imp ps_continue fun D σ H ⟨ρ, h, e, at_, q⟩ => q ρ H σ (Stp.refl _ _) at_
def noLc : Expr → Bool
  | .ListComp .. | .SetComp .. | .DictComp .. => false
  | _ => true
theorem noLc_ok (h : noLc a = true) (t : Option Expr) (l : Nat) (env : Env) : swapsWith a t l env = pure false := by
  cases a <;> first | rfl | cases h
theorem os_expr (hn : noLc a = true) (ha : OE cls C a ca) : OS cls C (.Expr a pos) (sExpr ca) := fun X W c hc =>
  PS.imp (ps_expr (ha X W c hc) (noLc_ok hn _ _ _)) fun D σ H ⟨ρ, h, e, at_, q⟩ => ⟨ρ, h, e, at_, (bndO_sat q).mono (fun v h1 q1 ρ1 H1 x st1 rh1 rv1 => q1 ρ1 H1 σ st1 (at_.go st1 rh1)) fun _ _ q => q⟩
theorem os_ret (ha : OE cls C a ca) : OS cls C (.Return (some a) pos) (sRet ca) := fun X W c hc =>
  PS.imp (ps_ret (ha X W c hc)) fun D σ H ⟨ρ, h, e, at_, q⟩ => ⟨ρ, h, e, at_, (bndO_sat q).mono (fun v h1 q1 ρ1 H1 x st1 rh1 rv1 => q1 ρ1 H1 x st1 rh1 rv1) fun _ _ q => q⟩
theorem os_if (ht : OT cls C d cd) (h1 : OSs cls C sts s1) (h2 : OSs cls C sts2 s2) : OS cls C (.If d sts sts2 pos) (sIf cd s1 s2) := fun X W c hc =>
  PS.imp (ps_if (ht X W c hc) (h1 X W c hc) (h2 X W c hc)) fun D σ H ⟨ρ, h, e, at_, q⟩ => ⟨ρ, h, e, at_, (bndO_sat q).mono (fun v h1 q1 => by
    obtain ⟨t, rfl, q1⟩ := satD_bl q1
    refine ⟨t, rfl, fun ρ1 H1 st1 rh1 => ?_⟩
    cases t with
    | true => exact ⟨ρ1, h1, e, at_.go st1 rh1, q1.reb st1⟩
    | false => exact ⟨ρ1, h1, e, at_.go st1 rh1, q1.reb st1⟩) fun _ _ q => q⟩

/-! ### assignments -/
/-- none where the names at hand do not tell -/
def blkK (sc : Scope) : ScopeKind := if sc.kind.isAnnotationScope then .function else sc.kind
def swB (sc : Scope) (value : Expr) (tg : Expr) : Bool := match value with
  | .ListComp _ _ s _ | .SetComp _ _ s _ | .DictComp _ _ _ s _ => match tg with
    | .Name t pos => blkK sc == .function && sc.names.lookup t == some .local && pos.line == value.pos.line && !(s.names.any fun (n, k) => n == t && (k == .local || k == .cell))
    | _ => false
  | _ => false
theorem swB_eq (tg : Expr) (l : Nat) (env : Env) : swapsWith a (some tg) l env = pure (swB env.scope a tg) := by
  cases a <;> cases tg <;> rfl
def swO (sc : Scope) (tg value : Expr) : Option (List Str) := match tg, value with
  | .Tuple ts _ _, .Tuple vs _ _ | .List ts _, .Tuple vs _ _ =>
    if !(ts.length == 2 || ts.length == 3) || vs.length != ts.length || blkK sc != .function then none
    else if vs.any fun | .Starred .. => true | _ => false then none
    else
      let line := (ts.head?.map (·.pos.line)).getD 0
      let names := ts.filterMap fun
        | .Name id pos => if sc.names.lookup id == some .local && pos.line == line then some id else none
        | _ => none
      if names.length != ts.length || names.eraseDups.length != names.length then none
      else if vs.all (foldedForSure 8) then none
      else some names
  | _, _ => none
def swOk (tg value : Expr) : Bool := match tg, value with
  | .Tuple _ _ _, .Tuple vs _ _ | .List _ _, .Tuple vs _ _ => vs.all (foldedForSure 8) || !vs.all (constantsAlone 8)
  | _, _ => true
theorem swO_none (tg value : Expr) (env : Env) (h : swO env.scope tg value = none) : swappedStores [tg] value env = pure none := by
  unfold swappedStores
  unfold swO at h
  cases tg <;> cases value <;> first | rfl | skip
  all_goals
    simp only at h ⊢
    show (if _ then _ else _) = _
    split at h
    · rename_i q; exact if_pos q
    rename_i q; refine (if_neg q).trans ?_
    split at h
    · rename_i q; exact if_pos q
    rename_i q; refine (if_neg q).trans ?_
    split at h
    · rename_i q; exact if_pos q
    rename_i q; refine (if_neg q).trans ?_
    split at h
    · rename_i q; exact if_pos q
    · cases h
theorem swO_some {ns : List Str} (tg value : Expr) (env : Env) (h : swO env.scope tg value = some ns) (hk : swOk tg value = true) : swappedStores [tg] value env = pure (some ns) := by
  unfold swappedStores
  unfold swO at h
  cases tg <;> cases value <;> first | (cases h; done) | skip
  all_goals
    simp only at h ⊢
    show (if _ then _ else _) = _
    split at h
    · cases h
    rename_i q; refine (if_neg q).trans ?_
    split at h
    · cases h
    rename_i q; refine (if_neg q).trans ?_
    split at h
    · cases h
    rename_i q; refine (if_neg q).trans ?_
    split at h
    · cases h
    rename_i q2; refine (if_neg q2).trans ?_
    have hk := hk
    unfold swOk at hk
    simp only [Bool.or_eq_true] at hk
    rw [if_neg (by
      rcases hk with k | k
      · exact absurd k q2
      · intro z; rw [z] at k; cases k)]
    cases h
    rfl

theorem assign_map (hn : notStar a = true) (env : Env) : (assignEach [a] env).map (·.2) = [assign a env] := by cases a <;> first | rfl | cases hn
theorem os_asg {tg : Expr} {g : TC} {ss : List Nat} (hn : notStar tg = true) (hw : swB C.sc a tg = false) (ho : swO C.sc tg a = none) (ha : OE cls C a ca) (hg : OG cls C tg g ss) : OS cls C (.Assign [tg] a pos) (sAsg g ca) := fun X W c hc =>
  PS.imp (ps_asg (ha X W c hc) (hg X W c hc) ((swB_eq tg pos.line X.env).trans (by rw [hc.sc, hw])) (swO_none _ _ _ (by rw [hc.sc]; exact ho)) (assign_map hn _)) fun D σ H ⟨ρ, h, e, at_, q⟩ =>
    ⟨ρ, h, e, at_, (bndO_sat q).mono (fun v h1 q1 ρ1 H1 x st1 rh1 rv1 => by
      obtain ⟨e', ge, q1⟩ := satD_ocs q1
      exact ⟨ρ1, v, h1, e, e', at_.go st1 rh1, rv1, ge, fun σ' at' _ => q1 ρ1 H1 σ' st1 at'⟩) fun _ _ q => q⟩
theorem gname_rd {X : Cx} {W : WX} {c : CF} {i : Nat} {D : Ends} {σ : L2.St} {H : Hp} (q : tS cls X.K W c (sAsg (gN i) ca) D σ H) : tAsg (tE cls X.K W c ca) (gName i) D σ H := by
  obtain ⟨ρ, h, e, at_, q⟩ := q
  refine ⟨ρ, h, e, at_, (bndO_sat q).mono (fun v h1 q1 ρ1 H1 x st1 rh1 rv1 => ?_) fun _ _ q => q⟩
  obtain ⟨e', ge, q1⟩ := satD_ocs q1
  have ge : setK e i v some = some e' := ge
  rw [setK_eq] at ge
  cases ge
  exact q1 ρ1 H1 _ st1 ⟨rh1, (at_.go st1 rh1).re.set rv1⟩
/-- name = [..] on one line -/
theorem os_setLc {i : Nat} {y : Str} {py : Pos} {tg iter elt : Expr} {ifs : List Expr} {scope : Scope} {own : List (Str × Nat)} {w : WC} {g : TC} {ss : List Nat} {ct : Option EC} {cel : EC} {lpos : Pos} (ok : BlkOk C.N C.sc scope own)
    (hN : C.N[i]? = some y) (hy : C.sc.names.lookup y = some .local) (hsw : swB C.sc (.ListComp elt [⟨tg, iter, ifs, 0⟩] scope lpos) (.Name y py) = true)
    (hw : OI cls C tg iter w) (hg : OG cls (C.blk scope) tg g ss) (hss : ∀ i ∈ ss, i ∈ own.map (·.2)) (ht : OTs cls (C.blk scope) ifs ct)
    (he : OE cls (C.blk scope) elt cel) (hs : ∀ env x, foldedSetIterable iter env x = pure x) : OS cls C (.Assign [.Name y py] (.ListComp elt [⟨tg, iter, ifs, 0⟩] scope lpos) pos) (sAsg (gN i) (cAll_ (lComp (own.map (·.2)) w g ct cel))) := fun X W c hc =>
  PS.imp (ps_setLc (wi := wRd cls X.K W c w) (te := tE cls X.K (fun _ _ _ _ => False) c cel) (g := gRd X.K g ss) (tt := ttOf cls X.K c ct) hc.calm (by rw [hc.N]; exact hc.nd) (by rw [hc.N]; exact hN) (by rw [hc.sc]; exact hy) ((swB_eq _ _ X.env).trans (by rw [hc.sc, hsw])) (hw X W c hc) (by rw [hc.N, hc.sc]; exact ok) (fun s H D cl fp => hg _ _ _ (ctx_blk hc scope s H D cl fp)) (tt_rd hc ht) (fun s H D cl fp => he _ _ _ (ctx_blk hc scope s H D cl fp)) (hs X.env))
    fun D σ H q => lc_rd hss (alloc_rd (gname_rd q))
theorem par_rd {X : Cx} {W : WX} {c : CF} {u : TsC} {D : Ends} {σ : L2.St} {H : Hp} (q : tS cls X.K W c (sPar u ces) D σ H) : tA cls X.K W c ces σ H fun xs H1 => ∃ ρ1 vs h1 e e', At X.K e h1 σ ρ1 H1 ∧ RVs X.K ρ1 H1 vs xs ∧ u vs e = some e' ∧ ∀ σ', At X.K e' h1 σ' ρ1 H1 → D.nx σ' H1 := by
  obtain ⟨ρ, h, e, at_, q⟩ := q
  refine ⟨ρ, h, e, at_, (bndLO_sat q).mono (fun vs h1 q1 ρ1 H1 xs st1 rh1 rv1 => ?_) fun _ _ q => q⟩
  obtain ⟨e', ge, q1⟩ := satD_ocs q1
  exact ⟨ρ1, vs, h1, e, e', at_.go st1 rh1, rv1, ge, fun σ' at' => q1 ρ1 H1 σ' st1 at'⟩
/-- a, b = x, y of plain local names -/
theorem os_par2 {i j : Nat} {x y : Str} {px py pt pt2 : Pos} {kt k2 : Nat} (hN1 : C.N[i]? = some x) (hN2 : C.N[j]? = some y) (hij : i ≠ j) (hx : C.sc.names.lookup x = some .local) (hy : C.sc.names.lookup y = some .local)
    (ho : swO C.sc (.Tuple [.Name x px, .Name y py] kt pt) (.Tuple [a, b] k2 pt2) = some [x, y]) (hk : swOk (.Tuple [.Name x px, .Name y py] kt pt) (.Tuple [a, b] k2 pt2) = true) (ha : OA cls C [a, b] ces) :
    OS cls C (.Assign [.Tuple [.Name x px, .Name y py] kt pt] (.Tuple [a, b] k2 pt2) pos) (sPar (gsCons (gN i) (gsCons (gN j) gsNil)) ces) := fun X W c hc =>
  PS.imp (ps_par hc.calm (by rw [hc.N]; exact hc.nd) (by rw [hc.N]; exact hN1) (by rw [hc.N]; exact hN2) hij (by rw [hc.sc]; exact hx) (by rw [hc.sc]; exact hy) (ha X W c hc) (swO_some _ _ _ (by rw [hc.sc]; exact ho) hk) rfl) fun D σ H q => by
    obtain ⟨ρ, h, e, at_, q⟩ := par_rd q
    refine ⟨ρ, h, e, at_, q.mono (fun vs h1 q1 ρ1 H1 xs st1 rh1 rv1 => ?_) fun _ _ q => q⟩
    obtain ⟨ρ2, ws, h2, e, e', at2, rvs, ge, q2⟩ := q1 ρ1 H1 xs st1 rh1 rv1
    match ws, rvs, ge with
    | [v, w], .cons r1 (.cons r2 .nil), ge =>
      refine ⟨_, _, rfl, ?_⟩
      have ge : ocs (fun e => ocs (fun e => some e) none (setK e j w some)) none (setK e i v some) = some e' := ge
      rw [setK_eq, ocs_some, setK_eq, ocs_some] at ge
      cases ge
      exact q2 _ ⟨at2.rh, (at2.re.set r1).set r2⟩
    | [], _, ge => cases ge
    | [v], _, ge => 
      have ge : ocs (fun e => none) none (setK e i v some) = some e' := ge
      rw [setK_eq] at ge
      cases ge
    | v :: w :: z :: r, _, ge => 
      have ge : ocs (fun e => ocs (fun e => none) none (setK e j w some)) none (setK e i v some) = some e' := ge
      rw [setK_eq, ocs_some, setK_eq, ocs_some] at ge
      cases ge
theorem os_par3 {i j l : Nat} {x y z : Str} {px py pz pt pt2 : Pos} {kt k2 : Nat} (hN1 : C.N[i]? = some x) (hN2 : C.N[j]? = some y) (hN3 : C.N[l]? = some z) (hij : i ≠ j) (hil : i ≠ l) (hjl : j ≠ l) (hx : C.sc.names.lookup x = some .local) (hy : C.sc.names.lookup y = some .local) (hz : C.sc.names.lookup z = some .local)
    (ho : swO C.sc (.Tuple [.Name x px, .Name y py, .Name z pz] kt pt) (.Tuple [a, b, d] k2 pt2) = some [x, y, z]) (hk : swOk (.Tuple [.Name x px, .Name y py, .Name z pz] kt pt) (.Tuple [a, b, d] k2 pt2) = true) (ha : OA cls C [a, b, d] ces) :
    OS cls C (.Assign [.Tuple [.Name x px, .Name y py, .Name z pz] kt pt] (.Tuple [a, b, d] k2 pt2) pos) (sPar (gsCons (gN i) (gsCons (gN j) (gsCons (gN l) gsNil))) ces) := fun X W c hc =>
  PS.imp (ps_par3 hc.calm (by rw [hc.N]; exact hc.nd) (by rw [hc.N]; exact hN1) (by rw [hc.N]; exact hN2) (by rw [hc.N]; exact hN3) hij hil hjl (by rw [hc.sc]; exact hx) (by rw [hc.sc]; exact hy) (by rw [hc.sc]; exact hz) (ha X W c hc) (swO_some _ _ _ (by rw [hc.sc]; exact ho) hk) rfl) fun D σ H q => by
    obtain ⟨ρ, h, e, at_, q⟩ := par_rd q
    refine ⟨ρ, h, e, at_, q.mono (fun vs h1 q1 ρ1 H1 xs st1 rh1 rv1 => ?_) fun _ _ q => q⟩
    obtain ⟨ρ2, ws, h2, e, e', at2, rvs, ge, q2⟩ := q1 ρ1 H1 xs st1 rh1 rv1
    have ge : (gsCons (gN i) (gsCons (gN j) (gsCons (gN l) gsNil))) ws e = some e' := ge
    have hl := lng_cons (g := gN i) (lng_cons (g := gN j) (lng_cons (g := gN l) lng_nil)) ws e e' ge
    match ws, rvs, ge, hl with
    | [v, w, u], .cons r1 (.cons r2 (.cons r3 .nil)), ge, _ =>
      refine ⟨_, _, _, rfl, ?_⟩
      have ge : ocs (fun e => ocs (fun e => ocs (fun e => some e) none (setK e l u some)) none (setK e j w some)) none (setK e i v some) = some e' := ge
      rw [setK_eq, ocs_some, setK_eq, ocs_some, setK_eq, ocs_some] at ge
      cases ge
      exact q2 _ ⟨at2.rh, ((at2.re.set r1).set r2).set r3⟩
noncomputable def opAddI : PV → PV → MH → Rs := opI2 fun i j h => okI (Int.add i j) h
theorem ok_addI : OpK opAddI (fun _ => rI0 fun i j => .int (i + j)) := ok_I2 fun K ρ h H i j Q E rh s => ⟨i, j, rfl, rfl, sat_okI rh s⟩
/-- x op= e -/
theorem os_aug {i : Nat} {x : Str} {op : Operator} {f : PV → PV → MH → Rs} {r : Fg → R2} {p : Pos} (hN : C.N[i]? = some x) (hx : Loc C.sc x) (hs : C.stor x = true) (hp : ∀ X, PIp X op (r X.K)) (hf : OpK f r) (ha : OE cls C a ca) :
    OS cls C (.AugAssign (.Name x p) op a pos) (sAug i f ca) := fun X W c hc =>
  PS.imp (ps_aug (by rw [hc.N]; exact hc.nd) (by rw [hc.N]; exact hN) (by rw [hc.sc]; exact hx) (ha X W c hc) (hp X) (hc.stor x hs)) fun D σ H ⟨ρ, h, e, at_, q⟩ => by
    have q : SatD cls X.K W ρ H σ D (ocs (fun x => bndO (okV x h) fun x h => bndO (ca c e h) fun y h => bndO (f x y h) fun z h => setK e i z fun e => .nx e h) .bad (nth e i)) := q
    rw [nth_eq] at q
    obtain ⟨v, ev, q⟩ := satD_ocs q
    obtain ⟨nv, q⟩ := okV_sat (bndO_sat q)
    obtain ⟨xv, hx1, rvx⟩ := at_.re.get i v ev nv
    refine ⟨xv, hx1, ρ, h, e, at_, (bndO_sat q).mono (fun y h1 q1 ρ1 H1 yv st1 rh1 rv1 => ?_) fun _ _ q => q⟩
    refine hf X.K ρ1 h1 H1 v y xv yv _ _ rh1 (rvx.step st1) rv1 ((bndO_sat q1).mono (fun z h2 q2 ρ2 H2 zv st2 rh2 rv2 => ?_) fun _ _ q => q)
    rw [setK_eq] at q2
    have at2 := (at_.go st1 rh1).go st2 rh2
    exact q2 ρ2 H2 _ (st1.trans st2) ⟨rh2, at2.re.set rv2⟩

/-! ### loops -/
theorem os_while (hq : C.sq = true) (ht : OT cls C d cd) (hb : OSs cls C sts s) : OS cls C (.While d sts [] pos) (sWhile cd s) := fun X W c hc =>
  PS.imp (ps_while hc.pass (ht X W c hc) (hb X W c hc)) fun D σ H ⟨ρ, h, e, at_, q⟩ => by
    refine ⟨fun m σ H => tS cls X.K W c (fun c e h => whileK cd s c m e h) D σ H, ⟨fuelN, ρ, h, e, at_, q⟩, fun m σ H ⟨ρ, h, e, at_, q⟩ => ?_⟩
    cases m with
    | zero => exact q.elim
    | succ m =>
      have q : SatD cls X.K W ρ H σ D (bndO (cd c e h) fun v h => asB (fun t => bcs (Out.cs (whileK cd s c m) .ret .ex .nx (whileK cd s c m) .bad (s c e h)) (.nx e h) t) .bad v) := q
      refine ⟨ρ, h, e, at_, (bndO_sat q).mono (fun v h1 q1 => ?_) fun _ _ q => q⟩
      obtain ⟨b, rfl, q1⟩ := satD_bl q1
      refine ⟨b, rfl, fun ρ1 H1 st1 rh1 => ?_⟩
      cases b with
      | false => exact q1 ρ1 H1 σ st1 (at_.go st1 rh1)
      | true =>
        refine ⟨tS cls X.K W c (fun c e h => whileK cd s c m e h) D, fun σ' H' q => ⟨m, Nat.lt_succ_self m, q⟩, ρ1, h1, e, at_.go st1 rh1, ?_⟩
        have q1 : SatD cls X.K W ρ H σ D (Out.cs (whileK cd s c m) .ret .ex .nx (whileK cd s c m) .bad (s c e h1)) := q1
        cases er : s c e h1 with
        | nx e2 h2 => rw [er] at q1; exact fun ρ' H' σ' st' at' => ⟨ρ', h2, e2, at', (SatD.reb (st1.trans st') q1).st (hc.ind hq)⟩
        | cnt e2 h2 => rw [er] at q1; exact fun ρ' H' σ' st' at' => ⟨ρ', h2, e2, at', (SatD.reb (st1.trans st') q1).st (hc.ind hq)⟩
        | brk e2 h2 => rw [er] at q1; exact FinN.reb st1 q1
        | ret v2 h2 => rw [er] at q1; exact FinV.reb st1 q1
        | ex x2 h2 => rw [er] at q1; exact FinX.reb st1 q1
        | bad => rw [er] at q1; exact q1
theorem os_for {tg iter : Expr} {w : WC} {g : TC} {ss : List Nat} (hq : C.sq = true) (hw : OI cls C tg iter w) (hg : OG cls C tg g ss) (hb : OSs cls C sts s) (hs : ∀ env x, foldedSetIterable iter env x = pure x) :
    OS cls C (.For tg iter sts [] pos) (sFor w g s) := fun X W c hc =>
  PS.imp (ps_for (wi := wRd cls X.K W c w) (g := gRd X.K g ss) hc.pass hc.calm (hw X W c hc) (hg X W c hc) (hb X W c hc) (hs X.env)) fun D σ H ⟨ρ, h, e, at_, q⟩ => by
    refine ⟨ρ, h, e, at_, ?_⟩
    have q : SatD cls X.K W ρ H σ D (Rsrc.cs (fun sr h => forK g s c sr fuelN 0 e h) .ex .bad (w c e h)) := q
    cases er : w c e h with
    | bad => rw [er] at q; exact q.elim
    | ex x h1 => rw [er] at q; exact q
    | ok src h1 =>
      rw [er] at q
      have q : SatD cls X.K W ρ H σ D (forK g s c src fuelN 0 e h1) := q
      intro ρ0 H0 J st0 rh0 hib hsrc
      refine ⟨fun i m σ H => ∃ ρ h e, Stp ρ0 H0 ρ H ∧ At X.K e h σ ρ H ∧ ib src i ∧ SatD cls X.K W ρ H σ D (forK g s c src m i e h), ⟨fuelN, ρ0, h1, e, Stp.refl _ _, at_.go st0 rh0, hib, q.reb st0⟩, ?_⟩
      rintro i m σ1 H1 ⟨ρ1, h1, e1, st1, at1, ib1, q1⟩
      cases m with
      | zero => exact q1.elim
      | succ m =>
        have q1 : SatD cls X.K W ρ1 H1 σ1 D (It3.cs (fun v => ocs (fun e1 => fN (fun j => Out.cs (forK g s c src m j) .ret .ex .nx (forK g s c src m j) .bad (s c e1 h1)) (Nat.succ i)) .bad (g v e1)) (.nx e1 h1) .bad (srcAt src i h1)) := q1
        have so := hsrc ρ1 h1 H1 i st1 at1.rh ib1
        cases ea : srcAt src i h1 with
        | bad => rw [ea] at q1; exact q1.elim
        | stop => rw [ea] at q1 so; exact .inl ⟨so, q1 ρ1 H1 σ1 (Stp.refl _ _) at1⟩
        | item v =>
          rw [ea] at q1 so
          obtain ⟨⟨hgo, hyld⟩, hib'⟩ := so
          obtain ⟨e2, ge, q1⟩ := satD_ocs q1
          rw [fN_eq] at q1
          refine .inr ⟨hgo, fun σ' H' => ∃ ρ h e, Stp ρ0 H0 ρ H' ∧ At X.K e h σ' ρ H' ∧ ib src (i + 1) ∧ SatD cls X.K W ρ H' σ' D (forK g s c src m (i + 1) e h), fun σ' H' q => ⟨m, Nat.lt_succ_self m, q⟩, fun x H2 hy => ?_⟩
          obtain ⟨st2, rh2, rv2⟩ := hyld x H2 hy
          have at2 : At X.K e1 h1 σ1 ρ1 H2 := at1.go st2 rh2
          refine ⟨ρ1, v, h1, e1, e2, at2, rv2, ge, fun σ' at' bt => ⟨ρ1, h1, e2, at', ?_⟩⟩
          have go : ∀ {e3 : MEnv} {h3 : MH}, SatD cls X.K W ρ1 H1 σ1 D (forK g s c src m (i + 1) e3 h3) → FinN X.K ρ1 H2 (fun σ' H' => ∃ ρ h e, Stp ρ0 H0 ρ H' ∧ At X.K e h σ' ρ H' ∧ ib src (i + 1) ∧ SatD cls X.K W ρ H' σ' D (forK g s c src m (i + 1) e h)) e3 h3 :=
            fun {e3 h3} q3 ρ' H' σ3 st' at3 => ⟨ρ', h3, e3, st1.trans (st2.trans st'), at3, hib', (SatD.reb (st2.trans st') q3).st (hc.ind hq)⟩
          cases er : s c e2 h1 with
          | nx e3 h3 => rw [er] at q1; exact go q1
          | cnt e3 h3 => rw [er] at q1; exact go q1
          | brk e3 h3 => rw [er] at q1; exact FinN.reb st2 q1
          | ret v3 h3 => rw [er] at q1; exact FinV.reb st2 q1
          | ex x3 h3 => 
            rw [er] at q1
            exact (SatD.st (hc.ind hq) (r := .ex x3 h3) (D := D) (σ' := σ') (SatD.reb st2 q1))
          | bad => rw [er] at q1; exact q1
end
end Tn

set_option maxHeartbeats 4000000
/-! stores in lists and dicts; raise; try -/
namespace Tn
open PySem PySem.Spec PyProof.Rows L2 RZ
def rSetU : TSet := fun o i v H Q => rSetL o i v H Q ∨ rSetD o i v H Q
theorem set_U {X : Cx} (hu : X.A.units + 1 < cLine) : PSet X rSetU := fun pins s σ H o i v ov iv u Q I ro ri rv h =>
  h.elim (fun q => set_list pins s σ H o i v ov iv u Q I ro ri rv q) fun q => set_dict hu pins s σ H o i v ov iv u Q I ro ri rv q
section
variable {cls : Nat → Value} {C : CC} {pos : Pos} {a b d e : Expr} {ca cb cd : EC} {es : List Expr} {ces : LC}
theorem satD_int {K : Fg} {W : WX} {ρ : Rho} {H : Hp} {σ : L2.St} {D : Ends} {v : PV} {f : Int → Out} (q : SatD cls K W ρ H σ D (asI f .bad v)) : ∃ i, v = .int i ∧ SatD cls K W ρ H σ D (f i) := by
  cases v <;> first | exact ⟨_, rfl, q⟩ | exact q.elim
theorem satD_ref {K : Fg} {W : WX} {ρ : Rho} {H : Hp} {σ : L2.St} {D : Ends} {v : PV} {f : Nat → Out} (q : SatD cls K W ρ H σ D (asR f .bad v)) : ∃ i, v = .ref i ∧ SatD cls K W ρ H σ D (f i) := by
  cases v <;> first | exact ⟨_, rfl, q⟩ | exact q.elim
theorem putL_eq {K : Fg} {W : WX} {ρ : Rho} {H : Hp} {σ : L2.St} {D : Ends} {h : MH} {n : Nat} {xs : List PV} {i : Int} {v : PV} {k : MH → Out} (q : SatD cls K W ρ H σ D (putL h n xs i v k)) : ∃ j, ixN xs.length i = some j ∧ SatD cls K W ρ H σ D (k (h.set n (.lst (xs.set j v)))) := by
  cases i with
  | ofNat j =>
    have q : SatD cls K W ρ H σ D (bcs (setK xs j v fun r => setK h n (.lst r) k) .bad (Nat.ble (Nat.succ j) (len xs))) := q
    obtain ⟨hb, q⟩ := satD_bcs q
    rw [setK_eq, setK_eq] at q
    rw [len_eq] at hb
    have hb := Nat.le_of_ble_eq_true hb
    refine ⟨j, ?_, q⟩
    unfold ixN
    rw [if_pos (by exact Int.natCast_nonneg j), if_pos (by simp only [Int.ofNat_eq_natCast]; omega)]
    rfl
  | negSucc j =>
    have q : SatD cls K W ρ H σ D (fN (fun l => bcs (setK xs (Nat.sub l (Nat.succ j)) v fun r => setK h n (.lst r) k) .bad (Nat.ble (Nat.succ j) l)) (len xs)) := q
    rw [fN_eq] at q
    obtain ⟨hb, q⟩ := satD_bcs q
    rw [setK_eq, setK_eq] at q
    rw [len_eq] at hb q
    have hb := Nat.le_of_ble_eq_true hb
    refine ⟨xs.length - (j + 1), ?_, q⟩
    unfold ixN
    rw [if_neg (by omega), if_pos (by omega)]
    congr 1
    omega
/-- the dict with the key set -/
noncomputable def mapP (i : Int) (v : PV) (kvs : List (PV × PV)) : List (PV × PV) := kvs.map fun p => if keyEqI i p.1 = true then (p.1, v) else p
theorem mapKI_eq {i : Int} {v : PV} : ∀ (kvs : List (PV × PV)) (k : List (PV × PV) → Out), mapKI kvs i v k = k (mapP i v kvs)
  | [], k => rfl
  | p :: t, k => by
    show bcs (mapKI t i v fun r => k ((p.1, v) :: r)) (mapKI t i v fun r => k (p :: r)) (keyEqI i p.1) = _
    rw [mapKI_eq t, mapKI_eq t]
    unfold mapP
    rw [List.map_cons]
    cases q : keyEqI i p.1 <;> simp
noncomputable def putP (i : Int) (v : PV) (kvs : List (PV × PV)) : List (PV × PV) := if hasKeyI i kvs = true then mapP i v kvs else kvs ++ [(.int i, v)]
theorem putKI_eq {i : Int} {v : PV} (kvs : List (PV × PV)) (k : List (PV × PV) → Out) : putKI kvs i v k = k (putP i v kvs) := by
  unfold putKI putP
  rw [mapKI_eq, appK_eq]
  cases hasKeyI i kvs <;> rfl
theorem putP_keys {i : Int} {v : PV} {kvs : List (PV × PV)} (h : ∀ p ∈ kvs, ∃ i, p.1 = .int i) : ∀ p ∈ putP i v kvs, ∃ i, p.1 = .int i := fun p hp => by
  unfold putP at hp
  split at hp
  · obtain ⟨q, hq, e⟩ := List.mem_map.mp hp
    split at e
    · subst e; exact h q hq
    · subst e; exact h q hq
  · rcases List.mem_append.mp hp with q | q
    · exact h p q
    · simp at q; subst q; exact ⟨i, rfl⟩
theorem mapP_rel {K : Fg} {ρ : Rho} {H : Hp} {i : Int} {v : PV} {x : V} (rv : RV K ρ H v x) : ∀ {kvs : List (PV × PV)} {ws : List (Key × V)}, (∀ p ∈ kvs, ∃ i, p.1 = .int i) → RVs K ρ H (kvs.map Prod.fst) (ws.map fun w => kV w.1) → RVs K ρ H (kvs.map Prod.snd) (ws.map Prod.snd) →
    RVs K ρ H ((mapP i v kvs).map Prod.fst) ((ws.map fun kv => if kv.1 = Sum.inl i then (kv.1, x) else kv).map fun w => kV w.1) ∧ RVs K ρ H ((mapP i v kvs).map Prod.snd) ((ws.map fun kv => if kv.1 = Sum.inl i then (kv.1, x) else kv).map Prod.snd)
  | [], [], _, _, _ => ⟨.nil, .nil⟩
  | [], _ :: _, _, r, _ => by cases r
  | _ :: _, [], _, r, _ => by cases r
  | (k, y) :: kvs, (w, z) :: ws, hk, r, s => by
    cases r with
    | cons r1 r2 =>
      cases s with
      | cons s1 s2 =>
        obtain ⟨j, e⟩ := hk (k, y) List.mem_cons_self
        have e : k = .int j := e
        subst e
        have e2 := rv_int r1
        have e3 : w = Sum.inl j := by
          cases w with
          | inl z => exact congrArg Sum.inl (V.int.inj e2)
          | inr z => cases e2
        subst e3
        have ih := mapP_rel (i := i) rv (fun p hp => hk p (List.mem_cons_of_mem _ hp)) r2 s2
        unfold mapP at ih ⊢
        rw [List.map_cons, List.map_cons (f := fun kv : Key × V => if kv.1 = Sum.inl i then (kv.1, x) else kv)]
        show RVs K ρ H (List.map Prod.fst ((if eqI j i = true then (PV.int j, v) else (PV.int j, y)) :: _)) _ ∧ RVs K ρ H (List.map Prod.snd ((if eqI j i = true then (PV.int j, v) else (PV.int j, y)) :: _)) _
        rw [eqI_eq]
        by_cases e : j = i
        · subst e
          rw [if_pos (by simp), if_pos rfl]
          exact ⟨.cons r1 ih.1, .cons rv ih.2⟩
        · rw [if_neg (by simp [e]), if_neg fun z => e (Sum.inl.inj z)]
          exact ⟨.cons r1 ih.1, .cons s1 ih.2⟩
theorem putP_rel {K : Fg} {ρ : Rho} {H : Hp} {i : Int} {v : PV} {x : V} (rv : RV K ρ H v x) {kvs : List (PV × PV)} {ws : List (Key × V)} (hk : ∀ p ∈ kvs, ∃ i, p.1 = .int i) (r : RVs K ρ H (kvs.map Prod.fst) (ws.map fun w => kV w.1)) (s : RVs K ρ H (kvs.map Prod.snd) (ws.map Prod.snd)) :
    RO K ρ H (.dct (putP i v kvs)) (.dK (putK ws (Sum.inl i) x)) := by
  have hh := kv_keys i hk r
  rw [← valV_any] at hh
  refine .dk (putP_keys hk) ?_ ?_
  · unfold putP putK
    rw [hh]
    split
    · exact (mapP_rel rv hk r s).1
    · rw [List.map_append, List.map_append]; exact r.append (.cons (.pure (.int i)) .nil)
  · unfold putP putK
    rw [hh]
    split
    · exact (mapP_rel rv hk r s).2
    · rw [List.map_append, List.map_append]; exact s.append (.cons rv .nil)
theorem putQ_rd {K : Fg} {W : WX} {ρ0 ρ : Rho} {H0 H : Hp} {σ : L2.St} {D : Ends} {h : MH} {o i v : PV} {xo xi xv : V} {k : MH → Out} (rh : Rh K ρ h H) (ro : RV K ρ H o xo) (ri : RV K ρ H i xi) (rv : RV K ρ H v xv) (q : SatD cls K W ρ0 H0 σ D (putQ o i v h k)) :
    ∃ h' H', SatD cls K W ρ0 H0 σ D (k h') ∧ Stp ρ H ρ H' ∧ Rh K ρ h' H' ∧ ∀ Q : Hp → Prop, Q H' → rSetU xo xi xv H Q := by
  obtain ⟨n, en, q0⟩ := satD_ref q
  subst en
  clear q
  obtain ⟨p, rfl, ep⟩ := rv_ref ro
  rw [nth_eq] at q0
  obtain ⟨ob, eo, q⟩ := satD_ocs q0
  clear q0
  cases ob with
  | lst xs =>
    obtain ⟨j, rfl, q⟩ := satD_int q
    cases rv_int ri
    obtain ⟨vs, hp, rvs⟩ := rh.lstV eo ep
    obtain ⟨m, hm, q⟩ := putL_eq q
    have st := stp_put (u' := .lst (vs.set m xv)) rh ep hp (by trivial)
    exact ⟨_, _, q, st, rh_put rh ep hp (by trivial) (.lst (rvs.set rv m)), fun Q hQ => .inl ⟨p, vs, j, m, rfl, rfl, hp, by rw [← rvs.length]; exact hm, hQ⟩⟩
  | dct kvs =>
    obtain ⟨j, rfl, q⟩ := satD_int q
    cases rv_int ri
    obtain ⟨ws, hp, ro⟩ := rh.dctV eo ep
    cases ro with
    | dk hk r s =>
      have q : SatD cls K W ρ0 H0 σ D (lim (Nat.succ (len kvs)) (putKI kvs j v fun r => setK h n (.dct r) k) .bad) := q
      unfold lim at q
      obtain ⟨hb, q⟩ := satD_bcs q
      have hb := Nat.le_of_ble_eq_true hb
      rw [len_eq] at hb
      rw [putKI_eq, setK_eq] at q
      have hl : ws.length = kvs.length := by have := r.length; simpa using this.symm
      have st := stp_put (u' := .dK (putK ws (Sum.inl j) xv)) rh ep hp (by trivial)
      refine ⟨_, _, q, st, rh_put rh ep hp (by trivial) (putP_rel rv hk r s), fun Q hQ => .inr ⟨p, _, rfl, DPut.k (k := Sum.inl j) hp (by show ws.length < 2 ^ 24; omega), hQ⟩⟩
theorem swB_sub (sc : Scope) (x y z : Expr) (p : Pos) : swB sc x (.Subscript y z p) = false := by cases x <;> rfl
/-- o[i] = v -/
theorem os_sub {p : Pos} (ho : swO C.sc (.Subscript a b p) d = none) (hd : OE cls C d cd) (ha : OE cls C a ca) (hb : OE cls C b cb)
    (hx : ∀ (env : Env) v, assign (.Subscript a b p) env v = (do
      let ov ← holding [v] (eval a env)
      let iv ← holding [v, ov] (eval b env)
      standAt p
      holding [v, ov, iv] (setItem ov iv v)
      release [v, ov, iv] [])) : OS cls C (.Assign [.Subscript a b p] d pos) (sSub ca cb cd) := fun X W c hc =>
  PS.imp (ps_asg (hd X W c hc) (pg_sub (ha X W c hc) (hb X W c hc) (set_U (by have := hc.room.units; omega)) (hx X.env)) (show swapsWithSole [.Subscript a b p] d pos.line X.env = pure false from (swB_eq (a := d) (.Subscript a b p) pos.line X.env).trans (by rw [swB_sub])) (swO_none _ _ _ (by rw [hc.sc]; exact ho)) rfl) fun D σ H ⟨ρ, h, e, at_, q⟩ =>
    ⟨ρ, h, e, at_, (bndO_sat q).mono (fun v h1 q1 ρ1 H1 x st1 rh1 rv1 => ⟨ρ1, h1, e, at_.go st1 rh1, (bndO_sat q1).mono (fun o h2 q2 ρ2 H2 xo st2 rh2 ro => ⟨ρ2, h2, e, (at_.go st1 rh1).go st2 rh2, (bndO_sat q2).mono (fun i h3 q3 ρ3 H3 xi st3 rh3 ri => by
      obtain ⟨h4, H4, q4, st4, rh4, fin⟩ := putQ_rd rh3 (ro.step st3) ri (rv1.step (st2.trans st3)) q3
      exact fin _ (q4 ρ3 H4 σ (((st1.trans st2).trans st3).trans st4) ((((at_.go st1 rh1).go st2 rh2).go st3 rh3).go st4 rh4))) fun _ _ q => q.reb (st1.trans st2)⟩) fun _ _ q => q.reb st1⟩) fun _ _ q => q⟩

/-! ### raise -/
section
variable {X : Cx} {Cl : Addr} {bmB : List Value} {B newId initId : String}
/-- X() -/
theorem pmk_own0 {x : Str} {p : Pos} (F : ExcBaseFacts B newId initId bmB) (q : PySem.W.excIn X.K Cl bmB newId = true) (gC : X.mg x = some (.ref Cl)) (kC : PySem.W.keepIn X.K (.ref Cl) = true) (r : Raises X (.ref Cl)) (hg : Gl X x)
    (hdb : (x == ("__debug__" : Str)) = false) : PMk X (.Call (.Name x p) [] [] pos) (fun _ H Q => Q (.ref Cl) none H) := by
  intro pins s σ H Q I h
  refine wpAny_Call_Name_kw (ld_glob I hg gC ?_ hdb)
  refine PySem.W.callWith_K0 I.kIn kC ?_
  show wpAny _ _ (call (.ref Cl) []) _ _ _
  obtain ⟨bm, N, nm, qn, bs, hdct, sn, sub, ab, col, dd, k0, k1, k2, k3, k5, mN, hC, hN, hni, T⟩ := exc_obj I.kIn q
  refine wpAny_call_exc_subT F T hC hN hni (fun h' e hm => ?_) (by show 0 ≤ sizeLine; decide)
  exact mk_of I hm r h (I.hok.gone hm.new)
end
theorem os_raise {x : Str} {k : Nat} {p pos2 : Pos} (hg : C.sc.names.lookup x = some .globalImplicit) (hm : C.gl x = some (.cls k)) (hd : (x == ("__debug__" : Str)) = false) : OS cls C (.Raise (some (.Call (.Name x p) [] [] pos)) none pos2) (sRaise k) := fun X W c hc => by
  obtain ⟨Cl, bmB, B, newId, initId, F, h1, h2, h3, h4, h5⟩ := hc.clss x k hm
  refine PS.imp (ps_raise hc.calm hc.tk (pmk_own0 F h1 h2 h3 h4 (hc.gl_of hg) hd)) fun D σ H ⟨ρ, h, e, at_, q⟩ => ?_
  rw [← h5]
  exact q ρ H (Stp.refl _ _) at_.rh

/-! ### try -/
theorem re_un {K : Fg} {ρ : Rho} {H : Hp} {e : MEnv} {σ σ' : L2.St} {i : Nat} (r : Re K ρ H e σ) (hl : σ'.length = σ.length) (h : ∀ k, k ≠ i → σ'[k]? = σ[k]?) : Re K ρ H (e.set i .un) (σ'.set i none) := by
  refine ⟨by rw [List.length_set, List.length_set, hl]; exact r.len, fun j v hj n => ?_⟩
  by_cases q : i = j
  · subst q
    by_cases hi : i < e.length
    · rw [List.getElem?_set_self hi] at hj; cases hj; exact absurd rfl n
    · rw [List.getElem?_eq_none (by rw [List.length_set]; omega)] at hj; cases hj
  · rw [List.getElem?_set_ne q] at hj
    obtain ⟨x, h1, h2⟩ := r.get j v hj n
    exact ⟨x, by rw [List.getElem?_set_ne q, h j (fun z => q z.symm)]; exact h1, h2⟩
def CC.one (C : CC) : CC := { C with sq := false }
theorem ctx_tr {X : Cx} {W W' : WX} {c : CF} (hc : Ctx cls C X W c) (pn : List (Addr × Obj)) (xe : Value → Shared → Prop) (tk : Takes (X.tr pn xe) W') (pa : PassesOwn (model X.prog X.w) X.A X.env xe) : Ctx cls C.one (X.tr pn xe) W' c where
  N := hc.N
  sc := hc.sc
  nd := hc.nd
  calm := hc.calm
  tk := tk
  pass := pa
  stor := hc.stor
  room := hc.room
  ind := fun h => by cases h
  fns := hc.fns
  csts := hc.csts
  blts := hc.blts
  clss := hc.clss
  hnd := hc.hnd
  fr := fun h => by cases h
theorem os_try {body : List Stmt} {x n y t : Str} {i j k : Nat} {np py p1 p2 p3 p4 p5 p6 p7 pos' : Pos} {s : SC} (hq : C.sq = true) (hg : C.sc.names.lookup x = some .globalImplicit) (hm : C.gl x = some (.cls 0)) (hd : (x == ("__debug__" : Str)) = false)
    (hN1 : C.N[i]? = some n) (hN2 : C.N[j]? = some y) (hij : i ≠ j) (hn : C.sc.names.lookup n = some .local) (hy : C.sc.names.lookup y = some .local) (hnd : (n == ("__debug__" : Str)) = false) (hncd : (n == ("__classdict__" : Str)) = false)
    (bn : Bn C "isinstance" (.builtin "isinstance")) (bv : Bn C "ValueError" (.type "ValueError")) (hb : OSs cls C.one body s) :
    OS cls C (.Try body [.ExceptHandler (some (.Name x np)) (some n) [.Assign [.Name y py] (.List [.Constant (.str t) k p1, .Call (.Name "isinstance" p2) [.Name n p3, .Name "ValueError" p4] [] p5] p6) p7] pos'] [] [] pos) (sTry s (hUnf i j t)) := fun X W c hc => by
  obtain ⟨Cl, ecl, hex, hE, hkv⟩ := hc.hnd
  obtain ⟨Cl', bmB, B, newId, initId, F, h1, h2, h3, h4, h5⟩ := hc.clss x 0 hm
  have ecc : Cl' = Cl := Value.ref.inj (h5.symm.trans ecl)
  subst ecc
  obtain ⟨fr1, fr2⟩ := hc.fr hq
  have hnl : X.env.scope.names.lookup n = some .local := by rw [hc.sc]; exact hn
  have hyl : X.env.scope.names.lookup y = some .local := by rw [hc.sc]; exact hy
  let ts : Addr → Value → Option Addr → TS := fun a cl d => fun D σ H => cl = cls 0 ∧ d = none ∧ σ[i]? = some (some (.ref a)) ∧ ∀ p, H p = none → D.nx (σ.set j (some (.ref p))) (upd H p (.lst [.str t, .bl true]))
  refine PS.imp (ps_try_as (ts := ts) (Wout := W) (tb := fun W => tS cls X.K W c s) fr1 fr2 (by rw [hc.N]; exact hc.nd) (by rw [hc.N]; exact hN1) hnl ⟨hc.gl_of hg, hd, .inl h2⟩ hc.tk (fun W' pn xe tk pa => hb _ _ _ (ctx_tr hc pn xe tk pa)) fun a oe cl d pn hz hf => ⟨fun pins s σ H D I q => ?_⟩) fun D σ H ⟨ρ, h, e, at_, q⟩ => ?_
  · obtain ⟨q1, q2, q3, q4⟩ := q
    subst q1 q2
    rw [ecl] at hz
    refine (pss_one (ps_set (X := X.suite a ((a, oe) :: pn)) (i := j) (by show X.N.Nodup; rw [hc.N]; exact hc.nd) (by show X.N[j]? = _; rw [hc.N]; exact hN2) (.inl hyl) (pe_lst (pa_cons (pe_str (x := t)) (pa_cons (pe_callB (call_isE hE hz hf) (show Gl X _ from hc.gl_of bn.g) (show X.mg _ = none from hc.blts _ bn.m) bn.v
      (pa_cons (pe_var (i := i) (by show X.N[i]? = _; rw [hc.N]; exact hN1) (.inl hnl) hnd hncd) (pa_cons (pe_bltn (v := .ty "ValueError") (show Gl X _ from hc.gl_of bv.g) (show X.mg _ = none from hc.blts _ bv.m) bv.v rfl bv.n bv.d) pa_nil)) bn.n bn.d) pa_nil))) rfl (.inr hyl))).run pins s σ H D I ?_
    refine ⟨_, q3, .ty "ValueError", .type "ValueError", true, rfl, fun u hu => hu, hkv, ?_, fun p hp => q4 p hp⟩
    show 2 ≤ sizeLine
    decide
  · have q : SatD cls X.K W ρ H σ D (Out.cs .nx .ret (fun x h => bcs (hUnf i j t c e h) .bad (Nat.beq 0 x)) .brk .cnt .bad (s c e h)) := q
    refine ⟨ρ, h, e, at_, ?_⟩
    cases er : s c e h with
    | nx e1 h1 => rw [er] at q; exact q
    | ret v h1 => rw [er] at q; exact q
    | brk e1 h1 => rw [er] at q; exact q
    | cnt e1 h1 => rw [er] at q; exact q
    | bad => rw [er] at q; exact q.elim
    | ex x1 h1 =>
      rw [er] at q
      obtain ⟨hb1, q⟩ := satD_bcs q
      have e0 : x1 = 0 := (Nat.eq_of_beq_eq_true hb1).symm
      subst e0
      have q : SatD cls X.K W ρ H σ D (bcs (bndO (allocK (.lst [.str t, .bl true]) h1) fun v h => setK e j v fun e => setK e i .un fun e => .nx e h) .bad (Nat.ble (Nat.succ i) (len e))) := q
      obtain ⟨hb2, q⟩ := satD_bcs q
      have hb2 := Nat.le_of_ble_eq_true hb2
      rw [len_eq, at_.re.len] at hb2
      intro ρ1 H1 st1 rh1
      refine ⟨true, by rw [ecl]; exact hex, fun _ a ha => ⟨rfl, rfl, ?_, fun p hp => ?_⟩, nofun⟩
      · exact List.getElem?_set_self hb2
      · have q : SatD cls X.K W ρ H σ D (bndO (allocK (.lst [.str t, .bl true]) h1) fun v h => setK e j v fun e => setK e i .un fun e => .nx e h) := q
        rw [allocK_eq] at q
        have q : SatD cls X.K W ρ H σ D (setK e j (.ref h1.length) fun e => setK e i .un fun e => .nx e (h1 ++ [.lst [.str t, .bl true]])) := q
        rw [setK_eq, setK_eq] at q
        have rl := rh_lay rh1 (o := .lst [.str t, .bl true]) hp (.lst (.cons (.pure (.str t)) (.cons (.pure (.bl true)) .nil)))
        have sl := stp_lay rh1 (.lst [.str t, .bl true]) hp
        refine q _ _ _ (st1.trans sl) ⟨rl, re_un (((at_.re.step st1).step sl).set (i := j) (x := .ref p) (.ref ext_same)) (by simp) fun m hm => ?_⟩
        by_cases e1 : j = m
        · subst e1
          by_cases hl : j < σ.length
          · rw [List.getElem?_set_self (by simpa using hl), List.getElem?_set_self hl]
          · rw [List.getElem?_eq_none (by simp; omega), List.getElem?_eq_none (by simp; omega)]
        · rw [List.getElem?_set_ne e1, List.getElem?_set_ne e1, List.getElem?_set_ne (Ne.symm hm)]
end
end Tn

set_option maxHeartbeats 4000000
/-! defs: from the bodies' codes to the calls -/
namespace Tn
open PySem PySem.Spec PyProof.Rows L2
structure DefX where
  d : He.DefD
  N : List Str
  P : List Str
  body : SC
noncomputable def DefX.code (d : DefX) : DefC := ⟨d.P.length, d.N.length, d.body⟩
def ccOf (gl : Str → Option Gm) (sig : Nat → Arguments × List Str) (cv : List PV) (n : Nat) (d : DefX) : CC := { N := d.N, sc := d.d.scope, stor := fun _ => true, gl := gl, lv := n, sq := true, sig := sig, cv := cv }
theorem padK_eq {α : Type} : ∀ (n : Nat) (k : List PV → α), padK n k = k (List.replicate n .un)
  | 0, k => rfl
  | n + 1, k => by
    show padK n (fun r => k (.un :: r)) = _
    rw [padK_eq n]; rfl
/-- what stands behind the module's names -/
structure Facts (cls : Nat → Value) (gl : Str → Option Gm) (sig : Nat → Arguments × List Str) (cv : List PV) (T : List DefX) (K : Fg) (mg : Str → Option Value) : Prop where
  fn : ∀ x f np, gl x = some (.fn f np) → ∃ d addr fd, T[f]? = some d ∧ d.P.length = np ∧ mg x = some (.ref addr) ∧ FunD K d.d.name d.d.qual d.d.params d.d.body d.d.scope [] [] addr fd ∧ L2.Binds K fd d.P [] ∧ sig f = (d.d.params, d.P)
  csts : ∀ x k v, gl x = some (.cst k) → cv[k]? = some v → ∃ u xv, mg x = some u ∧ RelV xv u ∧ ∀ H, RP K H v xv
  blts : ∀ x, gl x = some .blt → mg x = none
  clss : ∀ x k, gl x = some (.cls k) → ∃ (Cl : Addr) (bmB : List Value) (B newId initId : String), ExcBaseFacts B newId initId bmB ∧ PySem.W.excIn K Cl bmB newId = true ∧ mg x = some (.ref Cl) ∧ PySem.W.keepIn K (.ref Cl) = true ∧
    PySem.W.subIn K (.ref Cl) (.type "BaseException") = some true ∧ PySem.W.typeIn K (.ref Cl) = some (.type "type") ∧ cls k = .ref Cl
  hnd : ∃ Cl : Addr, cls 0 = .ref Cl ∧ PySem.W.exmOne K (.ref Cl) (.ref Cl) = some true ∧ ExcC K Cl ∧ PySem.W.kitOne K (.ref Cl) (.type "ValueError") = some true
def FnsAt (cls : Nat → Value) (gl : Str → Option Gm) (sig : Nat → Arguments × List Str) (P : Program) (w : World) (K : Fg) (mg : Str → Option Value) (base : Heap) (c : CF) (n : Nat) : Prop :=
  ∀ x f np, gl x = some (.fn f np) → ∃ addr fd ps, mg x = some (.ref addr) ∧ PySem.W.keepIn K (.ref addr) = true ∧ L2.Binds K fd ps [] ∧ FnOk P w K mg base (L2.CX P w) n addr fd ps (spF cls K c f np) ∧ ps = (sig f).2 ∧
    ∃ (nm qual : Str) (body : List Stmt) (sc : Scope) (kV doc pm : Value) (an : Option Addr) (cdv ct : Value), fd = PySem.W.fnOf nm qual (sig f).1 body sc .none kV doc pm an cdv ct
section
variable {cls : Nat → Value} {gl : Str → Option Gm} {sig : Nat → Arguments × List Str} {cv : List PV} {T : List DefX} {P : Program} {w : World} {K : Fg} {mg : Str → Option Value} {base : Heap}
theorem ctx_of (F : Facts cls gl sig cv T K mg) {n : Nat} {c : CF} (hf : FnsAt cls gl sig P w K mg base c n) {d : DefX} (S : FnScope d.N d.P d.d.scope) {qual : Str} {f : Addr} {cd : Value} {A : Around} {outer : List Env} {s : Shared} {H : Hp} {E : XK}
    (hr : Room n (A.deeper (envOfC qual d.d.scope s.heap.objs.size f cd))) : Ctx cls (ccOf gl sig cv n d) (cxOf (L2.CX P w) P w K mg base d.N qual d.d.scope f cd A outer s H E) (fun cl dd _ H => E cl dd H) c where
  N := rfl
  sc := rfl
  nd := S.nd
  calm := rfl
  tk := takes_of rfl rfl rfl rfl
  pass := passes_of rfl
  stor := fun x _ => .inl rfl
  room := hr
  ind := fun _ _ _ _ _ _ h => h
  fns := hf
  csts := F.csts
  blts := F.blts
  clss := fun x k h => by
    obtain ⟨Cl, bmB, B, newId, initId, h1, h2, h3, h4, h5, h6, h7⟩ := F.clss x k h
    exact ⟨Cl, bmB, B, newId, initId, h1, h2, h3, h4, raises_own h5 h6, h7⟩
  hnd := F.hnd
  fr := fun _ => ⟨rfl, rfl⟩
theorem re_start {ρ : Rho} {H : Hp} {N : List Str} : ∀ {args : List PV} {vs : List V} {m : Nat}, RVs K ρ H args vs → Re K ρ H (args ++ List.replicate m .un) (vs.map some ++ List.replicate m none) := fun {args vs m} r => by
  refine ⟨by simp [r.length], fun i v h n => ?_⟩
  by_cases hi : i < args.length
  · rw [List.getElem?_append_left hi] at h
    obtain ⟨x, h1, h2⟩ := r.get h
    refine ⟨x, ?_, h2⟩
    rw [List.getElem?_append_left (by simpa [← r.length] using hi), List.getElem?_map, h1]; rfl
  · rw [List.getElem?_append_right (by omega)] at h
    have := (List.getElem?_eq_some_iff.mp h)
    obtain ⟨h1, h2⟩ := this
    rw [List.getElem_replicate] at h2
    exact absurd h2.symm n
theorem fn_step (hT : ∀ n d, d ∈ T → FnScope d.N d.P d.d.scope ∧ OSs cls (ccOf gl sig cv n d) d.d.body d.body) (F : Facts cls gl sig cv T K mg) {n : Nat} (ih : FnsAt cls gl sig P w K mg base (callN (T.map DefX.code) n) n) {f np : Nat} {d : DefX} {addr : Addr} {fd : FuncData}
    (h1 : T[f]? = some d) (h2 : d.P.length = np) (h4 : FunD K d.d.name d.d.qual d.d.params d.d.body d.d.scope [] [] addr fd) : FnOk P w K mg base (L2.CX P w) (n + 1) addr fd d.P (spF cls K (callN (T.map DefX.code) (n + 1)) f np) := by
  obtain ⟨S, hb⟩ := hT n d (List.mem_of_getElem? h1)
  have len : ∀ vs H Q E, spF cls K (callN (T.map DefX.code) (n + 1)) f np vs H Q E → vs.length = d.P.length := fun vs H Q E ⟨ρ, h, args, _, r, e, s⟩ => by rw [← r.length, e, h2]
  refine h4.ok S len (fun cdv A outer s H vs Q E hr q => ⟨_, hb _ _ _ (ctx_of F ih S hr), ?_⟩)
  obtain ⟨ρ, h, args, rh, rv, ea, s⟩ := q
  have s : SatR (ocs (fun d => runDef d (callN (T.map DefX.code) n) args h) .bad (nth (T.map DefX.code) f)) (FinV K ρ H Q) (fun x h' => ∀ ρ' H', Stp ρ H ρ' H' → Rh K ρ' h' H' → E (cls x) none H') := s
  rw [nth_eq, List.getElem?_map, h1] at s
  have s : SatR (bcs (padK (Nat.sub d.N.length d.P.length) fun p => appK args p fun e => Out.cs (fun _ h => .ok .non h) .ok .ex (fun _ _ => .bad) (fun _ _ => .bad) .bad (d.body (callN (T.map DefX.code) n) e h)) .bad (Nat.beq (Tn.len args) d.P.length)) (FinV K ρ H Q) (fun x h' => ∀ ρ' H', Stp ρ H ρ' H' → Rh K ρ' h' H' → E (cls x) none H') := s
  have hl : Nat.beq (Tn.len args) d.P.length = true := by rw [len_eq, ea, h2]; exact Nat.beq_refl np
  rw [hl, bcs_true, padK_eq, appK_eq] at s
  refine ⟨ρ, h, args ++ List.replicate (d.N.length - d.P.length) .un, ⟨rh, ?_⟩, ?_⟩
  · unfold L2.start
    rw [← rv.length, ea, ← h2]
    exact re_start (N := d.N) rv
  · have s : SatR (Out.cs (fun _ h => .ok .non h) .ok .ex (fun _ _ => .bad) (fun _ _ => .bad) .bad (d.body (callN (T.map DefX.code) n) (args ++ List.replicate (d.N.length - d.P.length) .un) h)) (FinV K ρ H Q) (fun x h' => ∀ ρ' H', Stp ρ H ρ' H' → Rh K ρ' h' H' → E (cls x) none H') := s
    cases er : d.body (callN (T.map DefX.code) n) (args ++ List.replicate (d.N.length - d.P.length) .un) h with
    | nx e1 h1 => 
      rw [er] at s
      have s : FinV K ρ H Q .non h1 := s
      exact fun ρ' H' σ' st at' => s ρ' H' _ st at'.rh (.pure .non)
    | ret v h1 => rw [er] at s; exact s
    | ex x h1 => rw [er] at s; exact s
    | brk e1 h1 => rw [er] at s; exact s.elim
    | cnt e1 h1 => rw [er] at s; exact s.elim
    | bad => rw [er] at s; exact s.elim
theorem fns_ok (F : Facts cls gl sig cv T K mg) (hT : ∀ n d, d ∈ T → FnScope d.N d.P d.d.scope ∧ OSs cls (ccOf gl sig cv n d) d.d.body d.body) : ∀ n, FnsAt cls gl sig P w K mg base (callN (T.map DefX.code) n) n
  | 0 => fun x f np hx => by
    obtain ⟨d, addr, fd, h1, h2, h3, h4, h5, h6⟩ := F.fn x f np hx
    have bad : ∀ vs H Q E, spF cls K (callN (T.map DefX.code) 0) f np vs H Q E → False := fun vs H Q E ⟨ρ, h, args, _, _, _, s⟩ => s
    obtain ⟨oc, od, dV, kV, doc, pm, an, cdv, ct, osl, e1, e2, e3, e4, e5⟩ := h4.ex
    refine ⟨addr, fd, d.P, h3, h4.kp, h5, ⟨fun vs H Q E q => (bad _ _ _ _ q).elim, fun A outer s H args us vs Q E _ _ _ _ q => (bad _ _ _ _ q).elim⟩, by rw [h6], d.d.name, d.d.qual, d.d.body, d.d.scope, kV, doc, pm, an, cdv, ct, ?_⟩
    rw [e1, h6]
    rcases e4 with ⟨_, e⟩ | ⟨e, _⟩
    · rw [e]
    · exact absurd rfl e
  | n + 1 => fun x f np hx => by
    obtain ⟨d, addr, fd, h1, h2, h3, h4, h5, h6⟩ := F.fn x f np hx
    obtain ⟨oc, od, dV, kV, doc, pm, an, cdv, ct, osl, e1, e2, e3, e4, e5⟩ := h4.ex
    refine ⟨addr, fd, d.P, h3, h4.kp, h5, fn_step hT F (fns_ok F hT n) h1 h2 h4, by rw [h6], d.d.name, d.d.qual, d.d.body, d.d.scope, kV, doc, pm, an, cdv, ct, ?_⟩
    rw [e1, h6]
    rcases e4 with ⟨_, e⟩ | ⟨e, _⟩
    · rw [e]
    · exact absurd rfl e
/-- nothing leaves -/
theorem FnOk.toCX0 {k : Nat} {f : Addr} {fd : FuncData} {ps : List Str} {sp : Sp} (F : FnOk P w K mg base (L2.CX P w) k f fd ps sp) : FnOk P w K mg base CX0 k f fd ps (fun vs H Q _ => sp vs H Q fun _ _ _ => False) :=
  ⟨fun vs H Q E q => F.len vs H Q _ q, fun A outer s H args us vs Q E hr he hb hv q => codeAny_mono (F.run A outer s H args us vs Q _ hr he hb hv q) fun r s' hq => by
    cases r with
    | ok fl => cases fl <;> exact hq
    | error e =>
      obtain ⟨_, _, _, _, _, _, _, _, _, _, _, _, q⟩ := (show L2.CX P w outer H s (fun _ _ _ => False) e s' from hq)
      exact q.elim⟩
end
end Tn

set_option maxHeartbeats 4000000
/-! the head's Hook: defs, facts and one more test -/
namespace Tn
open PySem PySem.Spec PyProof.Rows L2
def obsEG (n : Nat) (fa : List He.Fa) (fn : List He.DefD) (ex : Fg → Bool) (g : Addr → Option Obj) : He.AlD × Bool := (He.obsDG n fa fn g, ex (He.frG g (He.asD g n)))
def hookE (n : Nat) (fa : List He.Fa) (fn : List He.DefD) (ex : Fg → Bool) : PySem.W.Hook where
  α := He.AlD × Bool
  obs := fun s => obsEG n fa fn ex s.heap.get?
  val := fun _ => (He.valD fn, true)
  says := fun _ h => ∃ K : PySem.W.Frag, K.In h ∧ He.SaysD fa fn K ∧ ex K = true
  of := fun _ s e => ⟨He.frG s.heap.get? (He.asD s.heap.get? n), He.frG_in, congrArg Prod.fst e, congrArg Prod.snd e⟩
  keeps := fun _ _ _ ⟨K, hK, c⟩ k => ⟨K, PySem.W.Frag.In.keeps hK k, c⟩
theorem obsEG_eq {n : Nat} {fa : List He.Fa} {fn : List He.DefD} {ex : Fg → Bool} {g : Addr → Option Obj} {s : Shared} (h : ∀ a, g a = s.heap.get? a) : obsEG n fa fn ex g = (hookE n fa fn ex).obs s := by
  have e : g = s.heap.get? := funext h
  rw [e] <;> rfl
/-! ### constants -/
mutual
def cstB (K : Fg) : PV → Value → Bool
  | .non, .none => true
  | .bl b, .bool c => b == c
  | .int i, .int j _ => decide (i = j)
  | .str x, .str y _ => decide (x = y)
  | .tup xs, .ref a => (match K.lookup a with
    | some ⟨.type c, _, .seq its _, _⟩ => decide (c = "tuple") && (decide (its.size ≤ sizeLine) && cstsL K xs its.toList)
    | _ => false)
  | _, _ => false
def cstsL (K : Fg) : List PV → List Value → Bool
  | [], [] => true
  | v :: vs, u :: us => cstB K v u && cstsL K vs us
  | _, _ => false
end
mutual
theorem cstB_ok {K : Fg} : ∀ {v : PV} {u : Value}, cstB K v u = true → ∃ x, RelV x u ∧ ∀ H, RP K H v x
  | .non, .none, _ => ⟨.non, rfl, fun _ => .non⟩
  | .bl b, .bool c, h => by
    have e : b = c := eq_of_beq h
    subst e
    exact ⟨.bl b, rfl, fun _ => .bl b⟩
  | .int i, .int j t, h => by
    have e : i = j := of_decide_eq_true h
    subst e
    exact ⟨.int i, ⟨t, rfl⟩, fun _ => .int i⟩
  | .str x, .str y t, h => by
    have e : x = y := of_decide_eq_true h
    subst e
    exact ⟨.str x, ⟨t, rfl⟩, fun _ => .str x⟩
  | .tup xs, .ref a, h => by
    unfold cstB at h
    cases q : K.lookup a with
    | none => rw [q] at h; cases h
    | some o =>
      obtain ⟨oc, od, dt, osl⟩ := o
      rw [q] at h
      cases oc with
      | type c =>
        cases dt with
        | seq its n =>
          obtain ⟨h1, h2⟩ := He.ba (show (decide (c = "tuple") && (decide (its.size ≤ sizeLine) && cstsL K xs its.toList)) = true from h)
          obtain ⟨h3, h4⟩ := He.ba h2
          obtain ⟨vs, r1, r2⟩ := cstsL_ok h4
          exact ⟨.ref a, rfl, fun H => .tup (.inr ⟨_, its, n, q, congrArg Value.type (of_decide_eq_true h1), rfl, of_decide_eq_true h3, r1⟩) (r2 H)⟩
        | _ => cases h
      | _ => cases dt <;> cases h
theorem cstsL_ok {K : Fg} : ∀ {vs : List PV} {us : List Value}, cstsL K vs us = true → ∃ xs, Vals xs us ∧ ∀ H, RPs K H vs xs
  | [], [], _ => ⟨[], .nil, fun _ => .nil⟩
  | v :: vs, u :: us, h => by
    obtain ⟨h1, h2⟩ := He.ba (show (cstB K v u && cstsL K vs us) = true by simpa [cstsL] using h)
    obtain ⟨x, a1, a2⟩ := cstB_ok h1
    obtain ⟨xs, b1, b2⟩ := cstsL_ok h2
    exact ⟨x :: xs, .cons a1 b1, fun H => .cons (a2 H) (b2 H)⟩
end
def cstsB (K : Fg) (ks : List (Str × PV)) : Bool := ks.all fun p => match PySem.W.nsIn K mainGlobals p.1 with
  | some (some u) => cstB K p.2 u
  | _ => false
theorem cstsB_ok {K : Fg} {ks : List (Str × PV)} {h : Heap} {mg : Str → Option Value} (X : K.In h) (G : h.Ns mainGlobals mg) (c : cstsB K ks = true) {x : Str} {v : PV} (hm : (x, v) ∈ ks) : ∃ u xv, mg x = some u ∧ RelV xv u ∧ ∀ H, RP K H v xv := by
  have q := List.all_eq_true.mp c (x, v) hm
  have q : (match PySem.W.nsIn K mainGlobals x with
    | some (some u) => cstB K v u
    | _ => false) = true := q
  cases e : PySem.W.nsIn K mainGlobals x with
  | none => rw [e] at q; cases q
  | some o =>
    cases o with
    | none => rw [e] at q; cases q
    | some u =>
      rw [e] at q
      obtain ⟨xv, r1, r2⟩ := cstB_ok q
      exact ⟨u, xv, PySem.W.mg_of X G e, r1, r2⟩
/-- what isinstance asks of the class -/
def excB (K : Fg) (x : Str) : Bool := decide (PySem.W.findIn K (.ref (He.ga K x)) "__getattribute__" = some (some (.builtin "BaseException.__getattribute__"))) && (decide (PySem.W.findIn K (.ref (He.ga K x)) "__getattr__" = some none) && (PySem.W.hasDictIn K (He.ga K x) &&
  (decide (PySem.W.findIn K (.ref (He.ga K x)) "__class__" = some (some (.builtin "object.__class__"))) && (decide (PySem.W.mroIn K (He.ga K x) (.type "object") = some true) && decide (PySem.W.kitOne K (.ref (He.ga K x)) (.type "ValueError") = some true)))))
theorem excB_ok {K : Fg} {x : Str} (hs : PySem.W.subIn K (.ref (He.ga K x)) (.type "BaseException") = some true) (hn : PySem.W.specialIn K (.builtin "object.__class__") "__get__" = some (some (.builtin "getset_descriptor.__get__"))) (ht : PySem.W.takesIn K (.builtin "object.__class__") = some true)
    (c : excB K x = true) : ExcC K (He.ga K x) ∧ PySem.W.kitOne K (.ref (He.ga K x)) (.type "ValueError") = some true := by
  obtain ⟨c1, c⟩ := He.ba c
  obtain ⟨c2, c⟩ := He.ba c
  obtain ⟨c3, c⟩ := He.ba c
  obtain ⟨c4, c⟩ := He.ba c
  obtain ⟨c5, c6⟩ := He.ba c
  exact ⟨⟨of_decide_eq_true c1, of_decide_eq_true c2, hs, c3, of_decide_eq_true c4, hn, ht, of_decide_eq_true c5⟩, of_decide_eq_true c6⟩
theorem spIn {K : Fg} : PySem.W.specialIn K (.builtin "object.__class__") "__get__" = some (some (.builtin "getset_descriptor.__get__")) := by first | rfl | kernel_rfl
theorem tkIn {K : Fg} : PySem.W.takesIn K (.builtin "object.__class__") = some true := by first | rfl | kernel_rfl
end Tn

set_option maxHeartbeats 4000000
/-! rules in short; chains, keywords, ranges -/
namespace Tn
open PySem PySem.Spec PyProof.Rows L2 RZ
section
variable {cls : Nat → Value} {C : CC} {pos : Pos} {a b d e : Expr} {ca cb cd : EC} {es : List Expr} {ces : LC}
def visB (sc : Scope) (x : Str) : Bool := match sc.names.lookup x with
  | some .local | some .cell | some .free => true
  | _ => false
theorem visB_ok {sc : Scope} {x : Str} (h : visB sc x = true) : Vis sc x := by
  unfold visB at h
  split at h
  · rename_i q; exact .inl q
  · rename_i q; exact .inr (.inl q)
  · rename_i q; exact .inr (.inr q)
  · cases h
def locB (sc : Scope) (x : Str) : Bool := match sc.names.lookup x with
  | some .local | some .cell => true
  | _ => false
theorem locB_ok {sc : Scope} {x : Str} (h : locB sc x = true) : Loc sc x := by
  unfold locB at h
  split at h
  · rename_i q; exact .inl q
  · rename_i q; exact .inr q
  · cases h
def varB (C : CC) (i : Nat) (x : Str) : Bool := decide (C.N[i]? = some x) && (visB C.sc x && (!(x == ("__debug__" : Str)) && !(x == ("__classdict__" : Str))))
theorem gv {i : Nat} {x : Str} (h : varB C i x = true) : OE cls C (.Name x pos) (cVar i) := by
  obtain ⟨h1, h⟩ := He.ba h
  obtain ⟨h2, h⟩ := He.ba h
  obtain ⟨h3, h4⟩ := He.ba h
  exact oe_var (of_decide_eq_true h1) (visB_ok h2) (by simpa using h3) (by simpa using h4)
def gloB (C : CC) (x : Str) : Bool := decide (C.sc.names.lookup x = some .globalImplicit) && !(x == ("__debug__" : Str))
theorem gg {x : Str} {k : Nat} {v : PV} (h : (gloB C x && decide (C.gl x = some (.cst k))) = true) (hv : C.cv[k]? = some v) : OE cls C (.Name x pos) (cC v) := by
  obtain ⟨h1, h2⟩ := He.ba h
  obtain ⟨h3, h4⟩ := He.ba h1
  exact oe_glob (of_decide_eq_true h3) (of_decide_eq_true h2) hv (by simpa using h4)
def bnB (C : CC) (x : Str) : Bool := gloB C x && (decide (C.gl x = some .blt) && decide (x ≠ ("__name__" : Str)))
theorem bn {x : Str} {u : Value} (v : bootBuiltins x = some u) (h : bnB C x = true) : Bn C x u := by
  obtain ⟨h1, h2⟩ := He.ba h
  obtain ⟨h3, h4⟩ := He.ba h1
  obtain ⟨h5, h6⟩ := He.ba h2
  exact ⟨of_decide_eq_true h3, of_decide_eq_true h5, v, of_decide_eq_true h6, by simpa using h4⟩
theorem bv_len : bootBuiltins "len" = some (.builtin "len") := by kernel_rfl
theorem bv_abs : bootBuiltins "abs" = some (.builtin "abs") := by kernel_rfl
theorem bv_all : bootBuiltins "all" = some (.builtin "all") := by kernel_rfl
theorem bv_any : bootBuiltins "any" = some (.builtin "any") := by kernel_rfl
theorem bv_max : bootBuiltins "max" = some (.builtin "max") := by kernel_rfl
theorem bv_min : bootBuiltins "min" = some (.builtin "min") := by kernel_rfl
theorem bv_sum : bootBuiltins "sum" = some (.builtin "sum") := by kernel_rfl
theorem bv_sorted : bootBuiltins "sorted" = some (.builtin "sorted") := by kernel_rfl
theorem bv_isinstance : bootBuiltins "isinstance" = some (.builtin "isinstance") := by kernel_rfl
theorem bv_int : bootBuiltins "int" = some (.type "int") := by kernel_rfl
theorem bv_bool : bootBuiltins "bool" = some (.type "bool") := by kernel_rfl
theorem bv_str : bootBuiltins "str" = some (.type "str") := by kernel_rfl
theorem bv_list : bootBuiltins "list" = some (.type "list") := by kernel_rfl
theorem bv_tuple : bootBuiltins "tuple" = some (.type "tuple") := by kernel_rfl
theorem bv_dict : bootBuiltins "dict" = some (.type "dict") := by kernel_rfl
theorem bv_set : bootBuiltins "set" = some (.type "set") := by kernel_rfl
theorem bv_range : bootBuiltins "range" = some (.type "range") := by kernel_rfl
theorem bv_zip : bootBuiltins "zip" = some (.type "zip") := by kernel_rfl
theorem bv_enumerate : bootBuiltins "enumerate" = some (.type "enumerate") := by kernel_rfl
theorem bv_reversed : bootBuiltins "reversed" = some (.type "reversed") := by kernel_rfl
theorem bv_ValueError : bootBuiltins "ValueError" = some (.type "ValueError") := by kernel_rfl
theorem un65 : ∀ X W c, Ctx cls C X W c → X.A.units + 64 + 1 < cLine := fun X W c hc => by have := hc.room.un; omega
theorem un64 : ∀ X W c, Ctx cls C X W c → X.A.units + 65 < cLine := fun X W c hc => by have := hc.room.un; omega

/-! ### comparisons -/
/-- a comparison's operator and its code -/
def CmpK (op : CmpOp) (f : PV → PV → MH → Rs) : Prop := ∃ r : Fg → R2, (∀ X : Cx, X.A.units + 64 + 1 < cLine → OpR X (compareOp op) (r X.K)) ∧ OpK f r
theorem ck_lt : CmpK .Lt opLt := ⟨_, fun X _ => op_lt, ok_lt⟩
theorem ck_le : CmpK .LtE opLe := ⟨_, fun X _ => op_le, ok_le⟩
theorem ck_gt : CmpK .Gt opGt := ⟨_, fun X _ => op_gt, ok_gt⟩
theorem ck_ge : CmpK .GtE opGe := ⟨_, fun X _ => op_ge, ok_ge⟩
theorem ck_eq : CmpK .Eq (opEq false) := ⟨_, fun X h => op_eqU (by omega), ok_eq false⟩
theorem ck_ne : CmpK .NotEq (opEq true) := ⟨_, fun X h => op_neU (by omega), ok_eq true⟩
theorem ck_is : CmpK .Is (opIsN false) := ⟨_, fun X _ => op_isU, ok_is false⟩
theorem ck_isn : CmpK .IsNot (opIsN true) := ⟨_, fun X _ => op_isNU, ok_is true⟩
theorem ck_in : CmpK .In (opInU false) := ⟨_, fun X h => op_inU h, ok_in false⟩
theorem ck_ni : CmpK .NotIn (opInU true) := ⟨_, fun X h => op_niU h, ok_in true⟩
theorem gc {op : CmpOp} {f : PV → PV → MH → Rs} (k : CmpK op f) (ha : OE cls C a ca) (hb : OE cls C b cb) (hm : behindInMarks op b = false) : OE cls C (.Compare a [op] [b] pos) (cOp f ca cb) := by
  obtain ⟨r, h1, h2⟩ := k
  exact oe_cmp h1 h2 ha hb hm un65
theorem tc {op : CmpOp} {f : PV → PV → MH → Rs} (k : CmpK op f) (ha : OE cls C a ca) (hb : OE cls C b cb) (hm : behindInMarks op b = false) : OT cls C (.Compare a [op] [b] pos) (cOp f ca cb) := by
  obtain ⟨r, h1, h2⟩ := k
  exact ot_cmp h1 h2 ha hb hm un65
theorem chain_rd {f g : PV → PV → MH → Rs} {r r' : Fg → R2} (hf : OpK f r) (hg : OpK g r') {X : Cx} {W : WX} {c : CF} {σ : L2.St} {H : Hp} {Q : VK} (t : tE cls X.K W c (cChain f g ca cb cd) σ H Q) : tChain (r X.K) (r' X.K) (tE cls X.K W c ca) (tE cls X.K W c cb) (tE cls X.K W c cd) σ H Q := by
  obtain ⟨ρ, h, e, at_, s⟩ := t
  refine ⟨ρ, h, e, at_, (bnd_sat s).mono (fun v h1 s1 ρ1 H1 x st1 rh1 rv1 => ?_) fun _ _ q => q⟩
  refine ⟨ρ1, h1, e, at_.go st1 rh1, (bnd_sat s1).mono (fun w h2 s2 ρ2 H2 y st2 rh2 rv2 => ?_) fun _ _ q => q.reb st1⟩
  have s2 : SatR (bnd (f v w h2) fun t h => asB (fun t => bcs (bnd (cd c e h) fun z h => g w z h) (.ok (.bl false) h) t) .bad t) (FinV X.K ρ H Q) (FinX cls X.K W ρ H σ) := s2
  refine hf X.K ρ2 h2 H2 v w x y _ _ rh2 (rv1.step st2) rv2 ((bnd_sat s2).mono (fun t h3 s3 ρ3 H3 z st3 rh3 rv3 => ?_) fun _ _ q => q)
  obtain ⟨k, rfl, s3⟩ := sat_bl s3
  refine ⟨k, rv_bl rv3, ?_⟩
  have stt := (st1.trans st2).trans st3
  cases k with
  | false =>
    rw [if_neg (by decide)]
    have s3 : SatR (.ok (.bl false) h3) (FinV X.K ρ H Q) (FinX cls X.K W ρ H σ) := s3
    exact s3 ρ3 H3 _ stt rh3 (.pure (.bl false))
  | true =>
    rw [if_pos rfl]
    have s3 : SatR (bnd (cd c e h3) fun z h => g w z h) (FinV X.K ρ H Q) (FinX cls X.K W ρ H σ) := s3
    refine ⟨ρ3, h3, e, ((at_.go st1 rh1).go st2 rh2).go st3 rh3, (bnd_sat s3).mono (fun z h4 s4 ρ4 H4 zv st4 rh4 rv4 => ?_) fun _ _ q => q.reb stt⟩
    exact hg X.K ρ4 h4 H4 w z y zv Q _ rh4 (rv2.step (st3.trans st4)) rv4 (s4.mono (fun _ _ q => FinV.reb (stt.trans st4) q) fun _ _ q => q)
theorem gch {op op' : CmpOp} {f g : PV → PV → MH → Rs} (k : CmpK op f) (k' : CmpK op' g) (ha : OE cls C a ca) (hb : OE cls C b cb) (hd : OE cls C d cd) (hm : lastMarks [op, op'] [b, d] = false) : OE cls C (.Compare a [op, op'] [b, d] pos) (cChain f g ca cb cd) := by
  obtain ⟨r, h1, h2⟩ := k
  obtain ⟨r', h3, h4⟩ := k'
  exact fun X W c hc => PE.imp (pe_chain (h1 X (un65 X W c hc)) (h3 X (un65 X W c hc)) (ha X W c hc) (hb X W c hc) (hd X W c hc) hm) fun σ H Q t => chain_rd h2 h4 t
theorem tch {op op' : CmpOp} {f g : PV → PV → MH → Rs} (k : CmpK op f) (k' : CmpK op' g) (ha : OE cls C a ca) (hb : OE cls C b cb) (hd : OE cls C d cd) (hm : lastMarks [op, op'] [b, d] = false) : OT cls C (.Compare a [op, op'] [b, d] pos) (cChain f g ca cb cd) := by
  obtain ⟨r, h1, h2⟩ := k
  obtain ⟨r', h3, h4⟩ := k'
  exact fun X W c hc => PT.imp (pt_chain (h1 X (un65 X W c hc)) (h3 X (un65 X W c hc)) (ha X W c hc) (hb X W c hc) (hd X W c hc) hm) fun σ H Q t => chain_rd h2 h4 (tT_tE t)
end
end Tn

set_option maxHeartbeats 4000000
/-! calls with keywords -/
namespace Tn
open PySem PySem.Spec PyProof.Rows L2 RZ
section
variable {cls : Nat → Value} {C : CC} {pos : Pos} {a b d e : Expr} {ca cb cd : EC} {es : List Expr} {ces : LC}
theorem PK.imp {X : Cx} {kws : List Keyword} {t u : TA} (p : PK X kws t) (h : ∀ σ H Q, u σ H Q → t σ H Q) : PK X kws u := ⟨fun pos pins s σ H Q I q => p.run pos pins s σ H Q I (h σ H Q q)⟩
def OK (cls : Nat → Value) (C : CC) (ks : List Keyword) (a : LC) : Prop := ∀ X W c, Ctx cls C X W c → PK X ks (tA cls X.K W c a)
theorem ok_nil : OK cls C [] aNil := fun X W c hc => PK.imp pk_nil fun σ H Q ⟨ρ, h, e, at_, s⟩ => s ρ H [] (Stp.refl _ _) at_.rh .nil
theorem acons_rd {X : Cx} {W : WX} {c : CF} {σ : L2.St} {H : Hp} {Q : List V → Hp → Prop} (t : tA cls X.K W c (aCons ca ces) σ H Q) : tCons (tE cls X.K W c ca) (tA cls X.K W c ces) σ H Q := by
  obtain ⟨ρ, h, e, at_, s⟩ := t
  have s : SatL (bndRL (ca c e h) fun v h => bndLL (ces c e h) fun vs h => .ok (v :: vs) h) (FinA X.K ρ H Q) (FinX cls X.K W ρ H σ) := s
  refine ⟨ρ, h, e, at_, (bndRL_sat s).mono (fun v h1 s1 ρ1 H1 x st1 rh1 rv1 => ⟨ρ1, h1, e, at_.go st1 rh1, (bndLL_sat s1).mono (fun vs h2 s2 ρ2 H2 xs st2 rh2 rv2 => ?_) fun _ _ q => q.reb st1⟩) fun _ _ q => q⟩
  exact s2 ρ2 H2 (x :: xs) (st1.trans st2) rh2 (.cons (rv1.step st2) rv2)
theorem ok_cons {nm : Option Str} {kpos : Pos} {kws : List Keyword} (ha : OE cls C a ca) (hs : OK cls C kws ces) : OK cls C (⟨nm, a, kpos⟩ :: kws) (aCons ca ces) := fun X W c hc =>
  PK.imp (pk_cons (ha X W c hc) (hs X W c hc)) fun _ _ _ t => acons_rd t
/-- the values in another order -/
def permV {α : Type} (perm : List Nat) (xs : List α) : List α := perm.filterMap fun i => xs[i]?
noncomputable def permK (vs : List PV) (perm : List Nat) (k : List PV → Rl) : Rl := List.rec (motive := fun _ => (List PV → Rl) → Rl) (fun k => k []) (fun i _ ih k => ocs (fun v => ih fun r => k (v :: r)) .bad (nth vs i)) perm k
noncomputable def lPerm (perm : List Nat) (a : LC) : LC := fun c e h => bndLL (a c e h) fun vs h => permK vs perm fun r => .ok r h
theorem permK_sat {vs : List PV} {P : List PV → MH → Prop} {E : Nat → MH → Prop} : ∀ {perm : List Nat} {k : List PV → Rl}, SatL (permK vs perm k) P E → SatL (k (permV perm vs)) P E
  | [], k, s => s
  | i :: perm, k, s => by
    have s : SatL (ocs (fun v => permK vs perm fun r => k (v :: r)) .bad (nth vs i)) P E := s
    rw [nth_eq] at s
    unfold permV
    rw [List.filterMap_cons]
    cases q : vs[i]? with
    | none => rw [q] at s; exact s.elim
    | some v => rw [q] at s; exact permK_sat (perm := perm) (k := fun r => k (v :: r)) s
theorem permV_rel {K : Fg} {ρ : Rho} {H : Hp} {vs : List PV} {xs : List V} (r : RVs K ρ H vs xs) : ∀ perm : List Nat, RVs K ρ H (permV perm vs) (permV perm xs)
  | [] => .nil
  | i :: perm => by
    unfold permV
    rw [List.filterMap_cons, List.filterMap_cons]
    cases q : vs[i]? with
    | none =>
      have : xs[i]? = none := by
        rw [List.getElem?_eq_none_iff] at q ⊢
        rw [← r.length]; exact q
      rw [this]; exact permV_rel r perm
    | some v =>
      obtain ⟨x, h1, h2⟩ := r.get q
      rw [h1]; exact .cons h2 (permV_rel r perm)
theorem permV_vals {vs : List V} {us : List Value} (r : Vals vs us) : ∀ perm : List Nat, Vals (permV perm vs) (permV perm us)
  | [] => .nil
  | i :: perm => by
    unfold permV
    rw [List.filterMap_cons, List.filterMap_cons]
    have hl := r.length
    cases q : vs[i]? with
    | none =>
      have : us[i]? = none := by
        rw [List.getElem?_eq_none_iff] at q ⊢
        omega
      rw [this]; exact permV_vals r perm
    | some v =>
      have hi : i < us.length := by
        have := (List.getElem?_eq_some_iff.mp q).1
        omega
      obtain ⟨w, h1, h2⟩ : ∃ w, us[i]? = some w ∧ RelV v w := by
        clear hi hl
        induction r generalizing i with
        | nil => simp at q
        | cons a b ih =>
          cases i with
          | zero => simp at q; subst q; exact ⟨_, rfl, a⟩
          | succ i => 
            obtain ⟨w, h1, h2⟩ := ih (i := i) (by simpa using q)
            exact ⟨w, by simpa using h1, h2⟩
      rw [h1]; exact .cons h2 (permV_vals r perm)
theorem pe_callKW0 {X : Cx} {CX : CXT} {k n : Nat} {f : Addr} {fd : FuncData} {ps ks : List Str} {perm : List Nat} {sp : Sp} {E : L2.St → XK} {x : Str} {p pos : Pos} {kws : List Keyword} {tk : TA} (F : FnOk X.prog X.w X.K X.mg X.base CX k f fd ps sp) (hr : Room k X.A) (hg : Gl X x) (hm : X.mg x = some (.ref f))
    (hk : PySem.W.keepIn X.K (.ref f) = true) (hb : ∀ (s : Shared) (ws : List Value), ws.length = n → BindsTo s fd ⟨[], ks.zip ws⟩ (ps.zip (permV perm ws))) (hx : ∀ σ, PassesAt CX X σ (E σ)) (hkw : PK X kws tk)
    (hall : (backToKw pos (keywordEach kws X.env)).all (·.1.isSome) = true) (hks : (backToKw pos (keywordEach kws X.env)).filterMap (·.1) = ks)
    (hpl : ((backTo pos (starEach [] X.env)).any (·.1) || (backToKw pos (keywordEach kws X.env)).any (·.1.isNone)) = false) (hdb : (x == ("__debug__" : Str)) = false) :
    PE X (.Call (.Name x p) [] kws pos) (fun σ H Q => tk σ H fun zs H2 => zs.length = n ∧ sp (permV perm zs) H2 Q (E σ)) := by
  refine ⟨fun pins s σ H Q I h => ?_⟩
  refine wpAny_Call_Name_kw (ld_glob I hg hm ?_ hdb)
  refine PySem.W.callWith_KW0 (h₀ := X.base) I.ok.mod.kin hk hall (thn (hkw.run pos pins s σ H _ I h) fun ws s2 ⟨zs, H2, I2, rz, hl, q2⟩ => ⟨I2.kIn, ?_⟩) hpl
  rw [hks]
  have hl2 : ws.length = n := by rw [← rz.length]; exact hl
  refine wpAny_call (codeAny_mono (F.run X.A X.stack s2 H2 ⟨[], ks.zip ws⟩ (permV perm ws) (permV perm zs) Q (E σ) hr I2.env0 (hb s2 ws hl2) (permV_vals rz perm) q2) fun r s' hq => ?_)
  cases r with
  | error e => exact hx σ pins H2 s2 e s' I2 hq
  | ok fl =>
    cases fl with
    | ret u => exact I2.after hq
    | next => exact False.elim hq
    | brk => exact False.elim hq
    | cont => exact False.elim hq
def kwNames (kws : List Keyword) : List (Option Str) := kws.map (·.arg)
theorem kwEach_names (pos : Pos) (env : Env) : ∀ kws : List Keyword, (backToKw pos (keywordEach kws env)).map (·.1) = kws.map (·.arg)
  | [] => rfl
  | ⟨nm, e, p⟩ :: kws => by
    cases nm <;> exact congrArg _ (kwEach_names pos env kws)
theorem oe_callK {x : Str} {p : Pos} {f np : Nat} {kws : List Keyword} {ks : List Str} {perm : List Nat} (hg : gloB C x = true) (hm : C.gl x = some (.fn f np)) (hks : kws.map (·.arg) = ks.map some) (hn : Ln ces ks.length) (hp : ∀ (α : Type) (xs : List α), xs.length = ks.length → (permV perm xs).length = np)
    (hb : ∀ (nm qual : Str) (body : List Stmt) (sc : Scope) (kV doc pm : Value) (an : Option Addr) (cdv ct : Value) (ws : List Value), ws.length = ks.length → bindArgs (PySem.W.fnOf nm qual (C.sig f).1 body sc .none kV doc pm an cdv ct) ⟨[], ks.zip ws⟩ = pure ((C.sig f).2.zip (permV perm ws)))
    (ha : OK cls C kws ces) : OE cls C (.Call (.Name x p) [] kws pos) (cCall f (lPerm perm ces)) := fun X W c hc => by
  obtain ⟨addr, fd, ps, h1, h2, h3, h4, h5, nm, qual, body, sc, kV, doc, pm, an, cdv, ct, h6⟩ := hc.fns x f np hm
  obtain ⟨g1, g2⟩ := He.ba hg
  subst h5 h6
  have hn1 : ∀ env pos, (backToKw pos (keywordEach kws env)).map (·.1) = ks.map some := fun env pos => (kwEach_names pos env kws).trans hks
  refine PE.imp (pe_callKW0 (n := ks.length) (ks := ks) (perm := perm) h4 hc.room (hc.gl_of (of_decide_eq_true g1)) h1 h2 (fun s ws hl => .of_eq (hb nm qual body sc kV doc pm an cdv ct ws hl)) (fun σ => passAt hc.tk σ) (ha X W c hc) ?_ ?_ ?_ (by simpa using g2)) fun σ H Q t => ?_
  · have := hn1 X.env pos
    rw [List.all_eq_true]
    intro y hy
    have : y.1 ∈ ks.map some := by rw [← this]; exact List.mem_map.mpr ⟨y, hy, rfl⟩
    obtain ⟨z, _, e⟩ := List.mem_map.mp this
    rw [← e]; rfl
  · have := hn1 X.env pos
    have e : ∀ l : List (Option Str × Sem Value), l.filterMap (·.1) = (l.map (·.1)).filterMap id := fun l => by rw [List.filterMap_map]; rfl
    rw [e, this, List.filterMap_map]
    show ks.filterMap (fun x => some x) = ks
    exact List.filterMap_some
  · have := hn1 X.env pos
    show (false || _) = false
    rw [Bool.false_or, List.any_eq_false]
    intro y hy
    have : y.1 ∈ ks.map some := by rw [← this]; exact List.mem_map.mpr ⟨y, hy, rfl⟩
    obtain ⟨z, _, e⟩ := List.mem_map.mp this
    rw [← e]; simp
  · obtain ⟨ρ, h, e, at_, s⟩ := t
    have s2 := bndL_sat s
    have s2 : SatL (bndLL (ces c e h) fun vs h => permK vs perm fun r => .ok r h) (fun vs h => SatR (callI c f vs h) (FinV X.K ρ H Q) (FinX cls X.K W ρ H σ)) (FinX cls X.K W ρ H σ) := s2
    have s3 := bndLL_sat s2
    refine ⟨ρ, h, e, at_, ?_⟩
    cases er : ces c e h with
    | bad => rw [er] at s3; exact s3
    | ex x h1 => rw [er] at s3; exact s3
    | ok vs h1 =>
      rw [er] at s3
      have s3 := permK_sat (show SatL (permK vs perm fun r => .ok r h1) (fun vs h => SatR (callI c f vs h) (FinV X.K ρ H Q) (FinX cls X.K W ρ H σ)) (FinX cls X.K W ρ H σ) from s3)
      intro ρ1 H1 xs st1 rh1 rv1
      have hl := hn c e h vs h1 er
      refine ⟨by rw [← rv1.length]; exact hl, ?_⟩
      exact handOver_rel rh1 (permV_rel rv1 perm) (hp _ vs hl) (SatR.mono s3 (fun _ _ q => FinV.reb st1 q) fun _ _ q => q) fun x h' q ρ' H' st rh' => q ρ' H' (st1.trans st) rh'
end
end Tn

set_option maxHeartbeats 4000000
/-! the end: from the codes of the defs and one run of them to the law -/
namespace Tn
open PySem PySem.Spec PyProof.Rows L2 RZ
def tabOf (T : List DefX) (cn bl : List Str) : List (Str × Gm) := T.zipIdx.map (fun p => (p.1.d.name, Gm.fn p.2 p.1.P.length)) ++ (cn.zipIdx.map (fun p => (p.1, Gm.cst p.2)) ++ (bl.map (fun x => (x, Gm.blt)) ++ [(("Unfit" : Str), Gm.cls 0)]))
def glOf (T : List DefX) (cn bl : List Str) : Str → Option Gm := fun x => (tabOf T cn bl).lookup x
def sigOf (T : List DefX) : Nat → Arguments × List Str := fun f => match T[f]? with
  | some d => (d.d.params, d.P)
  | none => ({ posonlyargs := [], args := [], vararg := none, kwonlyargs := [], kw_defaults := [], kwarg := none, defaults := [] }, [])
structure DefOk (gl : Str → Option Gm) (sig : Nat → Arguments × List Str) (cv : List PV) (d : DefX) : Prop where
  sc : FnScope d.N d.P d.d.scope
  nd : d.d.dfl = []
  nk : d.d.kwd = []
  at_ : d.d.at_ = (d.d.name, none)
  bd : ∀ (kV doc pm : Value) (an : Option Addr) (cdv ct : Value) (us : List Value), us.length = d.P.length → bindArgs (PySem.W.fnOf d.d.name d.d.qual d.d.params d.d.body d.d.scope .none kV doc pm an cdv ct) ⟨us, []⟩ = pure (d.P.zip us)
  code : ∀ (cls : Nat → Value) (n : Nat), OSs cls (ccOf gl sig cv n d) d.d.body d.body
theorem lookup_mem' {x : Str} {g : Gm} : ∀ {l : List (Str × Gm)}, l.lookup x = some g → (x, g) ∈ l
  | [], h => by cases h
  | (y, k) :: r, h => by
    rw [List.lookup_cons] at h
    cases q : x == y with
    | true =>
      rw [q] at h
      have e : x = y := by simpa using q
      subst e
      cases h
      exact List.mem_cons_self
    | false => rw [q] at h; exact List.mem_cons_of_mem _ (lookup_mem' h)
theorem facts_of {fa : List He.Fa} {T : List DefX} {cn bl : List Str} {cv : List PV} {K : Fg} {h : Heap} {mg : Str → Option Value} (X : K.In h) (G : h.Ns mainGlobals mg) (c : He.SaysD fa (T.map (·.d)) K) (cx : (cstsB K (cn.zip cv) && excB K "Unfit") = true)
    (h1 : ∀ d ∈ T, He.Fa.glo d.d.name ∈ fa) (h2 : ∀ x ∈ bl, He.Fa.free x ∈ fa) (h3 : He.Fa.exc "Unfit" ∈ fa ∧ He.Fa.glo "Unfit" ∈ fa ∧ He.Fa.exm "Unfit" "Unfit" true ∈ fa) (hT : ∀ d ∈ T, DefOk (glOf T cn bl) (sigOf T) cv d) :
    Facts (fun _ => .ref (He.ga K "Unfit")) (glOf T cn bl) (sigOf T) cv T K mg := by
  obtain ⟨cx1, cx2⟩ := He.ba cx
  have fok : ∀ {f : He.Fa}, f ∈ fa → f.ok K = true := fun {f} hf => by
    obtain ⟨i, hi⟩ := List.getElem?_of_mem hf
    exact c.fact i hi
  obtain ⟨x1, x2, x3, x4⟩ := He.exc_ok (fok h3.1)
  have gU := He.glo_ok X G (fok h3.2.1)
  refine ⟨fun x f np hx => ?_, fun x k v hx hv => ?_, fun x hx => ?_, fun x k hx => ?_, ?_⟩
  · have m := lookup_mem' hx
    unfold tabOf at m
    rw [List.mem_append, List.mem_append, List.mem_append] at m
    rcases m with m | m | m | m
    · obtain ⟨p, hp, e⟩ := List.mem_map.mp m
      obtain ⟨e1, e2⟩ := Prod.mk.inj e
      injection e2 with e2 e3
      have ht : T[f]? = some p.1 := by
        rw [← e2]; exact List.mem_zipIdx_iff_getElem?.mp hp
      have hm := List.mem_of_getElem? ht
      have D := hT p.1 hm
      obtain ⟨fd, F⟩ := c.def_ f (d := p.1.d) (by rw [List.getElem?_map, ht]; rfl)
      have e4 : p.1.d.dvs K = [] := by unfold He.DefD.dvs; rw [D.nd]; rfl
      have e5 : p.1.d.kws K = [] := by unfold He.DefD.kws; rw [D.nk]; rfl
      have e6 : He.fAd K p.1.d.at_ = He.ga K x := by rw [D.at_, ← e1]; rfl
      rw [e4, e5, e6] at F
      refine ⟨p.1, _, fd, ht, e3, ?_, F, F.bindsN D.bd, ?_⟩
      · have := He.glo_ok X G (fok (h1 _ hm))
        rw [e1] at this
        exact this
      · unfold sigOf; rw [ht]
    · obtain ⟨p, hp, e⟩ := List.mem_map.mp m
      cases (Prod.mk.inj e).2
    · obtain ⟨p, hp, e⟩ := List.mem_map.mp m
      cases (Prod.mk.inj e).2
    · simp at m
  · have m := lookup_mem' hx
    unfold tabOf at m
    rw [List.mem_append, List.mem_append, List.mem_append] at m
    rcases m with m | m | m | m
    · obtain ⟨p, hp, e⟩ := List.mem_map.mp m
      cases (Prod.mk.inj e).2
    · obtain ⟨p, hp, e⟩ := List.mem_map.mp m
      obtain ⟨e1, e2⟩ := Prod.mk.inj e
      injection e2 with e2
      have hi := List.mem_zipIdx_iff_getElem?.mp hp
      refine cstsB_ok X G cx1 (x := x) (v := v) ?_
      refine List.mem_of_getElem? (i := k) ?_
      rw [List.getElem?_zip_eq_some]
      exact ⟨by rw [← e2, hi, e1], hv⟩
    · obtain ⟨p, hp, e⟩ := List.mem_map.mp m
      cases (Prod.mk.inj e).2
    · simp at m
  · have m := lookup_mem' hx
    unfold tabOf at m
    rw [List.mem_append, List.mem_append, List.mem_append] at m
    rcases m with m | m | m | m
    · obtain ⟨p, hp, e⟩ := List.mem_map.mp m
      cases (Prod.mk.inj e).2
    · obtain ⟨p, hp, e⟩ := List.mem_map.mp m
      cases (Prod.mk.inj e).2
    · obtain ⟨p, hp, e⟩ := List.mem_map.mp m
      obtain ⟨e1, e2⟩ := Prod.mk.inj e
      rw [← e1]
      exact He.free_ok X G (fok (h2 _ hp))
    · simp at m
  · have m := lookup_mem' hx
    unfold tabOf at m
    rw [List.mem_append, List.mem_append, List.mem_append] at m
    rcases m with m | m | m | m
    · obtain ⟨p, hp, e⟩ := List.mem_map.mp m
      cases (Prod.mk.inj e).2
    · obtain ⟨p, hp, e⟩ := List.mem_map.mp m
      cases (Prod.mk.inj e).2
    · obtain ⟨p, hp, e⟩ := List.mem_map.mp m
      cases (Prod.mk.inj e).2
    · simp at m
      obtain ⟨e1, e2⟩ := m
      subst e1
      exact ⟨_, _, _, _, _, F.excBase_ValueError, x1, gU, x2, x3, x4, rfl⟩
  · obtain ⟨q1, q2⟩ := excB_ok x3 spIn tkIn cx2
    exact ⟨_, rfl, He.exm_ok (fok h3.2.2), q1, q2⟩
/-- the answer is True -/
noncomputable def isT (r : Rs) : Bool := Rs.cs (fun v _ => PV.cs false (fun b => b) (fun _ => false) (fun _ => false) (fun _ => false) (fun _ => false) (fun _ => false) false false v) (fun _ _ => false) false r
theorem isT_ok {r : Rs} (h : isT r = true) : ∃ h', r = .ok (.bl true) h' := by
  cases r with
  | ok v h' =>
    cases v <;> first | (cases h; done) | skip
    rename_i b
    cases b with
    | true => exact ⟨h', rfl⟩
    | false => cases h
  | ex => cases h
  | bad => cases h
theorem fnil {P : DefX → Prop} : ∀ d ∈ ([] : List DefX), P d := fun _ h => nomatch h
theorem fcons {P : DefX → Prop} {a : DefX} {l : List DefX} (h1 : P a) (h2 : ∀ d ∈ l, P d) : ∀ d ∈ a :: l, P d := fun d hd => (List.mem_cons.mp hd).elim (fun e => e ▸ h1) (h2 d)
theorem fapp {P : DefX → Prop} {a l : List DefX} (h1 : ∀ d ∈ a, P d) (h2 : ∀ d ∈ l, P d) : ∀ d ∈ a ++ l, P d := fun d hd => (List.mem_append.mp hd).elim (h1 d) (h2 d)
def faOf (fn : List He.DefD) (bl : List Str) : List He.Fa := fn.map (fun d => He.Fa.glo d.name) ++ ([He.Fa.exc "Unfit", He.Fa.glo "Unfit", He.Fa.exm "Unfit" "Unfit" true] ++ bl.map He.Fa.free)
theorem law_of {l : PySem.W.OpenLaw} {m n f : Nat} {q : Program} {loose : List Str} {XP : (Str → Option Value) → Heap → Prop} {d : DefRec} {fn : List He.DefD} {T : List DefX} {cn bl : List Str} {cv : List PV} {dl : DefX} (hfn : T.map (·.d) = fn)
    (hn : l.most = some m) (hn2 : m ≤ sizeLine) (hdf : d.params.defaults = []) (hr : Room (n + 1) callerA) (hname : d.name = ("law" : Str))
    (hT : ∀ d ∈ T, DefOk (glOf T cn bl) (sigOf T) cv d)
    (hf : glOf T cn bl "law" = some (.fn f 1)) (hl : T[f]? = some dl) (hp : dl.P = [("script" : Str)]) (run : isT (callN (T.map DefX.code) (n + 1) f [.opq] []) = true) :
    PySem.W.WalkO q loose XP (hookE 5 (faOf fn bl) fn (fun K => cstsB K (cn.zip cv) && excB K "Unfit")).says l.row.toRowW d [] (fun f vs => PySem.call f vs) := by
  subst hfn
  have h1 : ∀ d ∈ T, He.Fa.glo d.d.name ∈ faOf (T.map (·.d)) bl := fun d hd => List.mem_append_left _ (List.mem_map.mpr ⟨d.d, List.mem_map.mpr ⟨d, hd, rfl⟩, rfl⟩)
  have h2 : ∀ x ∈ bl, He.Fa.free x ∈ faOf (T.map (·.d)) bl := fun x hx => List.mem_append_right _ (List.mem_append_right _ (List.mem_map.mpr ⟨x, hx, rfl⟩))
  have h3 : He.Fa.exc "Unfit" ∈ faOf (T.map (·.d)) bl ∧ He.Fa.glo "Unfit" ∈ faOf (T.map (·.d)) bl ∧ He.Fa.exm "Unfit" "Unfit" true ∈ faOf (T.map (·.d)) bl :=
    ⟨List.mem_append_right _ (List.mem_append_left _ (by simp)), List.mem_append_right _ (List.mem_append_left _ (by simp)), List.mem_append_right _ (List.mem_append_left _ (by simp))⟩
  refine L2.walk_ofE (l := l) (n := m) (k := n + 1) (x := "script") (CX := L2.CX0) hn hn2 hdf hr ?F (fun _ _ _ _ z => z)
  intro w mg addr h Y G hmg0
  obtain ⟨K, KX, c, cx⟩ := Y
  rw [hname] at hmg0
  have FF := facts_of KX G c cx h1 h2 h3 hT
  obtain ⟨d', addr', fd, e1, e2, e3, F, b, e4⟩ := FF.fn "law" f 1 hf
  rw [hl] at e1
  cases e1
  have ea : addr' = addr := Value.ref.inj (Option.some.inj (e3.symm.trans hmg0))
  subst ea
  have D := hT dl (List.mem_of_getElem? hl)
  refine ⟨K, fd, fun vs H Q _ => spF (fun _ => .ref (He.ga K "Unfit")) K (callN (T.map DefX.code) (n + 1)) f 1 vs H Q (fun _ _ _ => False), KX, fun s u => ?_, fun H a ns hl1 hO hS => ?_, fun base hb hns => ?_⟩
  · have := F.bindsA (ps := dl.P) D.bd s [u] (by rw [hp]; rfl)
    rw [hp] at this
    exact this
  · obtain ⟨h', er⟩ := isT_ok run
    refine ⟨fun _ => none, [], [.opq], { at_ := fun n o e => by simp at e, inj := fun n m a e => by simp at e, dom := fun n a e => by simp at e }, .cons .opq .nil, rfl, ?_⟩
    rw [er]
    exact fun ρ' H' x st rh rv => rv_bl rv
  · have FF2 := facts_of hb hns c cx h1 h2 h3 hT
    have hT2 : ∀ (n : Nat) (d : DefX), d ∈ T → FnScope d.N d.P d.d.scope ∧ OSs (fun _ => .ref (He.ga K "Unfit")) (ccOf (glOf T cn bl) (sigOf T) cv n d) d.d.body d.body := fun n d hd => ⟨(hT d hd).sc, (hT d hd).code _ n⟩
    have := fn_step (P := l.prog) (w := w) (base := base) hT2 FF2 (fns_ok FF2 hT2 n) hl e2 F
    rw [hp] at this
    exact FnOk.toCX0 this
end Tn

set_option maxHeartbeats 4000000
/-! ranges, reversal, pairs of subscripts; what is never reached -/
namespace HT
open PySem PySem.Spec PyProof.Rows
section
variable {prog : Program} {w : World} {A : Around} {E : Value → Shared → Prop} {s : Shared}
theorem fm_congr {α β : Type} {f g : α → Option β} : ∀ {l : List α}, (∀ x ∈ l, f x = g x) → l.filterMap f = l.filterMap g
  | [], _ => rfl
  | x :: l, h => by
    rw [List.filterMap_cons, List.filterMap_cons, h x List.mem_cons_self, fm_congr fun y hy => h y (List.mem_cons_of_mem _ hy)]
theorem pick_rev (xs : Array Value) : ((List.range xs.size).filterMap fun (m : Nat) => xs[(((xs.size : Int) - 1) + (m : Int) * (-1)).toNat]?).toArray = xs.toList.reverse.toArray := by
  have h := pick_gen xs.toList.reverse.toArray 0 xs.size
  rw [show (xs.toList.reverse.toArray.toList.drop 0).take xs.size = xs.toList.reverse by
    rw [List.drop_zero, List.toList_toArray]; exact List.take_of_length_le (by simp)] at h
  rw [← h]
  congr 1
  refine fm_congr fun m hm => ?_
  have hm := List.mem_range.mp hm
  have e1 : (((xs.size : Int) - 1) + (m : Int) * (-1)).toNat = xs.size - 1 - m := by omega
  have e2 : (((0 : Nat) : Int) + (m : Int) * 1).toNat = m := by omega
  have e3 : xs.toList.reverse.toArray[m]? = xs.toList.reverse[m]? := by simp
  rw [e1, e2, e3, List.getElem?_reverse (by simpa using hm), Array.length_toList, Array.getElem?_toList]
theorem getItem_tuple_rev {t sl : Addr} {items : Array Value} {vs : Value} {Q : Value → Shared → Prop} (ht : IsTup s.heap t items) (hs : s.heap.IsSliceOf sl .none .none vs) (ps : IsPart vs (some (-1)))
    (h : Q (.ref s.heap.objs.size) { s with heap := s.heap.push { cls := .type "tuple", data := .seq items.toList.reverse.toArray } })
    (hsz : items.size ≤ sizeLine) : wpAny (model prog w) A (getItem (.ref t) (.ref sl)) Q E s := by
  have htake : sizeOk (.seq items.toList.reverse.toArray) := by
    show items.toList.reverse.toArray.size ≤ sizeLine
    rw [List.size_toArray, List.length_reverse, Array.length_toList]
    exact hsz
  obtain ⟨os, hos, hcs, hds⟩ := id hs
  have hTs : s.TypeIs (.ref sl) "slice" := ⟨os, hos, hcs⟩
  unfold getItem
  try with_reducible refine wpAny_holding ?_
  first | refine wpAny_bind (wpAny_pure ?_) | skip
  refine wpAny_bind (wpAny_sequenceKey ht.typeIs (by decide) ?_)
  refine wpAny_bind (wpAny_callSpecial?_slot (name := Str.ofString "__getitem__") ht.typeIs PyProof.Rows.slot_tuple_getitem
    (wpAny_call_entry PyProof.Rows.slot_tuple_getitem ht.typeIs entry_tuple_getitem ?_ (args_tuple_getitem _ _)))
  show wpAny _ _ (Builtin.Tuple.tupleItemsOf (.ref t) >>= _) _ _ s
  refine wpAny_bind (tupleItemsOf_ ht ?_)
  refine wpAny_bind (wpAny_typeOf hTs ?_)
  rw [if_pos (by decide)]
  have app : ∀ {Q : Int × Int × Nat → Shared → Prop} {A : Around} {E : Value → Shared → Prop}, Q ((items.size : Int) - 1, -1, items.size) s → wpAny (model prog w) A (Builtin.Slice.sliceApplied (.ref sl) (pure (items.size : Int))) Q E s := by
    intro Q A E hq
    unfold Builtin.Slice.sliceApplied Builtin.Slice.sliceFields
    refine wpAny_bind (wpAny_bind (wpAny_field hos hds (x := .none) rfl (wpAny_bind (wpAny_field hos hds (x := .none) rfl (wpAny_bind (wpAny_field hos hds (x := vs) rfl (wpAny_pure ?_)))))))
    refine wpAny_bind (slicePart_ ps ?_)
    show wpAny _ _ (if ((-1 : Int) == 0) = true then _ else _) _ _ s
    rw [if_neg (by decide)]
    refine wpAny_bind (slicePart_none (wpAny_bind (slicePart_none (wpAny_bind (wpAny_pure ?_)))))
    have e : Builtin.Slice.slicePlaces ((items.size : Int) - 1) (-1) (-1) = items.size := by
      unfold Builtin.Slice.slicePlaces
      rw [if_neg (by decide)]
      split
      · have : (- (-1 : Int)) = 1 := rfl
        rw [this, Int.ediv_one]; omega
      · omega
    show wpAny _ _ (pure ((items.size : Int) - 1, (-1 : Int), Builtin.Slice.slicePlaces ((items.size : Int) - 1) (-1) (-1))) _ _ s
    rw [e]
    exact wpAny_pure hq
  refine wpAny_bind (app ?_)
  show wpAny _ _ (if ((((items.size : Int) - 1) == 0 && (-1 : Int) == 1 && items.size == items.size)) = true then _ else _) _ _ s
  rw [if_neg (by
    have : ((-1 : Int) == 1) = false := by decide
    rw [this, Bool.and_false, Bool.false_and]; exact Bool.false_ne_true), pick_rev]
  first
    | exact wpAny_bind (m := Builtin.Tuple.tupleExact _) (wpAny_newObj_type (wpAny_pure ⟨_, rfl, wpAny_pure h⟩) htake)
    | exact wpAny_bind (m := Builtin.Tuple.tupleExact _) (wpAny_newObj_type (wpAny_bind (wpAny_pure (wpAny_pure ⟨_, rfl, wpAny_pure h⟩))) htake)
    | exact wpAny_bind (wpAny_bind (m := Builtin.Tuple.tupleExact _) (wpAny_newObj_type (wpAny_pure (wpAny_pure ⟨_, rfl, wpAny_pure h⟩)) htake))
    | exact wpAny_bind (wpAny_bind (m := Builtin.Tuple.tupleExact _) (wpAny_newObj_type (wpAny_pure ⟨_, rfl, wpAny_pure h⟩) htake))
end
end HT
namespace Tn
open PySem PySem.Spec PyProof.Rows L2 RZ
section
variable {cls : Nat → Value} {C : CC} {pos : Pos} {a b d e : Expr} {ca cb cd : EC} {es : List Expr} {ces : LC}
theorem RPs.allP {K : Fg} {H : Hp} : ∀ {xs : List PV} {vs : List V}, RPs K H xs vs → xs.all isPure = true
  | _, _, .nil => rfl
  | _, _, .cons a b => by rw [List.all_cons, a.isP, RPs.allP b]; rfl
/-- xs[::-1], x a tuple -/
def tRevT (K : Fg) (te : TE) : TE := fun σ H Q => te σ H fun x H1 => ∃ a xs, x = .ref a ∧ SqT K H1 a xs ∧ ∀ p, H1 p = none → Q (.ref p) (upd H1 p (.tup xs.reverse))
theorem pe_revU {X : Cx} {e : Expr} {te : TE} {k : Nat} {p1 p2 p3 pos : Pos} (he : PE X e te) : PE X (.Subscript e (.Slice none none (some (.UnaryOp .USub (.Constant (.int 1) k p1) p2)) p3) pos)
    (fun σ H Q => te σ H fun x H1 => (∃ a xs, x = .ref a ∧ SqL X.K H1 a xs ∧ ∀ p, H1 p = none → Q (.ref p) (upd H1 p (.lst xs.reverse))) ∨ ∃ a xs, x = .ref a ∧ SqT X.K H1 a xs ∧ ∀ p, H1 p = none → Q (.ref p) (upd H1 p (.tup xs.reverse))) := by
  refine ⟨fun pins s σ H Q I h => ?_⟩
  refine Subscript_ (thn (he.run pins s σ H _ I h) fun v s1 ⟨x, H1, I1, r1, q1⟩ => ?_)
  have hst : PO X (some (.UnaryOp .USub (.Constant (.int 1) k p1) p2)) (tPart (tUn (rU fun i => .int (-i)) (tC (.int 1)))) := po_some (pe_un un_neg pe_int)
  refine wpAny_Slice (thn (po_none.run pins s1 σ H1 (fun o H2 => o = none ∧ H2 = H1) I1 ⟨rfl, rfl⟩) fun vl s2 ⟨l, H2, I2, pl, el, e2⟩ => ?_)
  subst el e2
  refine thn (po_none.run pins s2 σ H2 (fun o H3 => o = none ∧ H3 = H2) I2 ⟨rfl, rfl⟩) fun vu s3 ⟨u, H3, I3, pu, eu, e3⟩ => ?_
  subst eu e3
  refine thn (hst.run pins s3 σ H3 (fun o H4 => o = some (-1) ∧ H4 = H3) I3 ⟨1, rfl, -1, rfl, rfl, rfl⟩) fun vs s4 ⟨o, H4, I4, ps, eo, e4⟩ => ?_
  subst eo e4
  have I5 : Inv X pins σ H4 { s4 with heap := s4.heap.push { cls := .type "slice", data := .fields #[vl, vu, vs] } } := I4.kept (t' := s4.toks) fun b ob q => Heap.get?_push_of_some _ q
  rcases q1 with ⟨a, xs, ex, hx, q⟩ | ⟨a, xs, ex, hx, q⟩
  · subst ex
    cases r1
    obtain ⟨its, r, ht, hz⟩ := I5.list hx
    have hlen := r.length
    show wpAny (model X.prog X.w) X.A (subscriptTail e (.Slice none none (some (.UnaryOp .USub (.Constant (.int 1) k p1) p2)) p3) (.ref a) (.ref s4.heap.objs.size)) (EP X pins σ Q) X.xe { s4 with heap := s4.heap.push { cls := .type "slice", data := .fields #[vl, vu, vs] } }
    refine tail_any (ops := [.ref a, .ref s4.heap.objs.size]) ht.isList.typeIs (PySem.slot_list_getitem.lookup) ?_ (by with_unfolding_all rfl)
    refine wpAny_getItem_list_slice ht.isList (Heap.IsSliceOf.new _ vl vu vs) pl pu ps (by decide) ?_ (by rw [List.size_toArray]; omega)
    rw [PySem.W.krv_pick]
    refine ⟨.ref _, _, I5.laid (t' := s4.toks) (o := .lst xs.reverse) (fun b ob q => Heap.get?_push_of_some _ q) (Nat.le_refl _) ?_, rfl, q _ (I5.hok.fresh (Nat.le_refl _))⟩
    exact ⟨by rw [List.length_reverse]; exact hz, _, 0, r.reverse, Heap.get?_push_size _ rfl⟩
  · subst ex
    cases r1
    obtain ⟨its, r, ht, hz⟩ := I5.tuple hx
    have hlen := r.length
    cases pl
    cases pu
    show wpAny (model X.prog X.w) X.A (subscriptTail e (.Slice none none (some (.UnaryOp .USub (.Constant (.int 1) k p1) p2)) p3) (.ref a) (.ref s4.heap.objs.size)) (EP X pins σ Q) X.xe { s4 with heap := s4.heap.push { cls := .type "slice", data := .fields #[.none, .none, vs] } }
    refine tail_any (ops := [.ref a, .ref s4.heap.objs.size]) ht.typeIs (PyProof.Rows.slot_tuple_getitem.lookup) ?_ (by with_unfolding_all rfl)
    refine HT.getItem_tuple_rev ht (Heap.IsSliceOf.new _ .none .none vs) ps ?_ (by rw [List.size_toArray]; omega)
    refine ⟨.ref _, _, I5.laid (t' := s4.toks) (o := .tup xs.reverse) (fun b ob q => Heap.get?_push_of_some _ q) (Nat.le_refl _) ?_, rfl, q _ (I5.hok.fresh (Nat.le_refl _))⟩
    exact ⟨by rw [List.length_reverse]; exact hz, its.reverse, r.reverse, by rw [List.toList_toArray]; exact IsTup.new _ _⟩
theorem oe_rev {k : Nat} {p1 p2 p3 : Pos} (ha : OE cls C a ca) : OE cls C (.Subscript a (.Slice none none (some (.UnaryOp .USub (.Constant (.int 1) k p1) p2)) p3) pos) (cRev ca) := fun X W c hc =>
  PE.imp (pe_revU (ha X W c hc)) fun σ H Q ⟨ρ, h, e, at_, s⟩ => ⟨ρ, h, e, at_, (bnd_sat s).mono (fun v h1 s1 ρ1 H1 x st1 rh1 rv1 => by
    cases v with
    | tup xs =>
      obtain ⟨p, vs, ex, hq, r⟩ := rv_tup rv1
      refine .inr ⟨p, vs, ex, hq, fun q hq0 => ?_⟩
      have s1 : SatR (.ok (.tup (revA xs [])) h1) (FinV X.K ρ H Q) (FinX cls X.K W ρ H σ) := s1
      rw [revA_eq, List.append_nil] at s1
      have st2 := stp_new (ρ := ρ1) (.tup vs.reverse) hq0
      have rr : RVs X.K ρ1 (upd H1 q (.tup vs.reverse)) xs.reverse vs.reverse := (r.toV.step st2).reverse
      exact s1 ρ1 _ _ (st1.trans st2) (rh_new rh1 _ hq0) (.pure (.tup (.inl (.inl upd_same)) (rr.toP (by
        rw [List.all_reverse, List.all_eq_true]
        exact List.all_eq_true.mp r.allP))))
    | ref n =>
      obtain ⟨xs, e1, s1⟩ := sat_lst s1
      obtain ⟨p, ex, ea⟩ := rv_ref rv1
      obtain ⟨vs, q1, q2⟩ := rh1.lstV e1 ea
      refine .inl ⟨p, vs, ex, .inl (.inl q1), fun q hq0 => ?_⟩
      rw [revA_eq, List.append_nil] at s1
      exact sat_newL rh1 q2.reverse (s1.mono (fun _ _ q => FinV.reb st1 q) fun _ _ q => q) hq0
    | _ => exact s1.elim) fun _ _ q => q⟩

/-! ### what is never reached -/
noncomputable def cBad : EC := fun _ _ _ => .bad
noncomputable def sBad : SC := fun _ _ _ => .bad
theorem oe_bad : OE cls C e cBad := fun X W c hc => ⟨fun pins s σ H Q I ⟨ρ, h, e, at_, q⟩ => q.elim⟩
theorem ot_bad : OT cls C e cBad := fun X W c hc => ⟨fun pins s σ H Q I ⟨ρ, h, e, at_, q⟩ => q.elim⟩
theorem os_bad {st : Stmt} : OS cls C st sBad := fun X W c hc => ⟨fun pins s σ H Q I ⟨ρ, h, e, at_, q⟩ => q.elim⟩

/-! ### operators -/
theorem gadd (ha : OE cls C a ca) (hb : OE cls C b cb) : OE cls C (.BinOp a .Add b pos) (cOp opAdd ca cb) := oe_op (fun X _ => op_addU) ok_add ha hb
theorem gsub (ha : OE cls C a ca) (hb : OE cls C b cb) : OE cls C (.BinOp a .Sub b pos) (cOp opSub ca cb) := oe_op (r := fun _ => rI0 fun i j => .int (i - j)) (fun X _ => op_sub) ok_sub ha hb
theorem gmul (ha : OE cls C a ca) (hb : OE cls C b cb) : OE cls C (.BinOp a .Mult b pos) (cOp opMul ca cb) := oe_op (fun X _ => op_mulU) ok_mul ha hb
theorem gdiv (ha : OE cls C a ca) (hb : OE cls C b cb) : OE cls C (.BinOp a .FloorDiv b pos) (cOp opDiv ca cb) := oe_op (r := fun _ => rI CDivN fun i j => .int (i.fdiv j)) (fun X _ => op_fdivN) ok_div ha hb
theorem gmod (ha : OE cls C a ca) (hb : OE cls C b cb) : OE cls C (.BinOp a .Mod b pos) (cOp opMod ca cb) := oe_op (r := fun _ => rI (fun _ j => j ≠ 0) fun i j => .int (i.fmod j)) (fun X _ => op_modN) ok_mod ha hb
theorem isi_int : Isi ["int"] false true true false false false := by constructor <;> first | rfl | kernel_rfl
theorem isi_bool : Isi ["bool"] false true false false false false := by constructor <;> first | rfl | kernel_rfl
theorem isi_str : Isi ["str"] false false false true false false := by constructor <;> first | rfl | kernel_rfl
theorem isi_tuple : Isi ["tuple"] false false false false true false := by constructor <;> first | rfl | kernel_rfl
theorem isi_list : Isi ["list"] false false false false false true := by constructor <;> first | rfl | kernel_rfl
theorem isi_lt : Isi ["list", "tuple"] false false false false true true := by constructor <;> first | rfl | kernel_rfl
theorem isi_bs : Isi ["bool", "str"] false true false true false false := by constructor <;> first | rfl | kernel_rfl
theorem oe_isi2 {T U : Str} {Ts Us : String} {p q q1 q2 : Pos} {k : Nat} {n b i s t l : Bool} (bi : Bn C "isinstance" (.builtin "isinstance")) (b1 : Bn C T (.type Ts)) (b2 : Bn C U (.type Us)) (hn : notStar a = true) (I : Isi [Ts, Us] n b i s t l) (ha : OE cls C a ca) :
    OE cls C (.Call (.Name "isinstance" p) [a, .Tuple [.Name T q1, .Name U q2] k q] [] pos) (cIsI n b i s t l ca) :=
  oe_isiT (ts := [(T, Ts, q1), (U, Us, q2)]) bi (fun z hz => by
    rcases List.mem_cons.mp hz with e | e
    · subst e; exact b1
    · simp at e; subst e; exact b2) (by simp) hn I ha

/-! ### ranges as values -/
noncomputable def rgGo (lo st : Int) (n : Nat) : List PV → List PV := Nat.rec (motive := fun _ => List PV → List PV) (fun acc => acc) (fun m ih acc => fI (fun z => ih (.int z :: acc)) (Int.add lo (Int.mul (.ofNat m) st))) n
noncomputable def rgSrc (s : Src) (h : MH) : Rl := Src.cs (fun lo st n => .ok (rgGo lo st n []) h) (fun _ => .bad) (fun _ => .bad) (fun _ => .bad) (fun _ => .bad) (fun _ _ => .bad) (fun _ _ => .bad) (fun _ => .bad) s
noncomputable def lRg (w : WC) : LC := fun c e h => Rsrc.cs (fun s h => rgSrc s h) .ex .bad (w c e h)
noncomputable def cTupRg (w : WC) : EC := fun c e h => bndL (lRg w c e h) fun xs h => okV (mkTup xs) h
theorem rgGo_eq (lo st : Int) : ∀ (n : Nat) (acc : List PV), rgGo lo st n acc = (List.range n).map (fun i => PV.int (lo + (i : Nat) * st)) ++ acc
  | 0, acc => rfl
  | n + 1, acc => by
    show fI (fun z => rgGo lo st n (.int z :: acc)) (Int.add lo (Int.mul (.ofNat n) st)) = _
    rw [fI_eq, rgGo_eq lo st n, List.range_succ, List.map_append, List.append_assoc]
    rfl
theorem rg_rel {K : Fg} {ρ : Rho} {H : Hp} (lo st : Int) (f : Nat → V) (hf : ∀ i, f i = .int (lo + (i : Nat) * st)) : ∀ l : List Nat, RVs K ρ H (l.map fun i => PV.int (lo + (i : Nat) * st)) (l.map f)
  | [] => .nil
  | i :: l => by
    rw [List.map_cons, List.map_cons, hf i]
    exact .cons (.pure (.int _)) (rg_rel lo st f hf l)
def ORg (cls : Nat → Value) (C : CC) (e : Expr) (w : WC) : Prop := ∀ X W c, Ctx cls C X W c → PRg X e (fun σ H Q => ∃ ρ h e, At X.K e h σ ρ H ∧ SatW (w c e h) (fun s h' => ∀ a b ρ' H', s = .rng a 1 (b - a).toNat → RgOk a b → Stp ρ H ρ' H' → Rh X.K ρ' h' H' → Q a b H') (FinX cls X.K W ρ H σ))
theorem PRg.imp {X : Cx} {e : Expr} {t u : L2.St → Hp → (Int → Int → Hp → Prop) → Prop} (p : PRg X e t) (h : ∀ σ H Q, u σ H Q → t σ H Q) : PRg X e u := fun pins s σ H Q I q => p pins s σ H Q I (h σ H Q q)
theorem small_rg {i : Int} (h : smallR i = true) : -1000000 ≤ i ∧ i ≤ 1000000 := by
  have := Nat.le_of_ble_eq_true h
  omega
theorem prg1 {p : Pos} (bn : Bn C "range" (.type "range")) (hn : notStar a = true) (ha : OE cls C a ca) : ORg cls C (.Call (.Name "range" p) [a] [] pos) (wRng1 ca) := fun X W c hc =>
  PRg.imp (prg_1 (hc.gl_of bn.g) (hc.blts _ bn.m) (ha X W c hc) (star_cons hn _)) fun σ H Q ⟨ρ, h, e, at_, s⟩ => ⟨ρ, h, e, at_, (bndS_sat s).mono (fun v h1 s1 ρ1 H1 x st1 rh1 rv1 => by
    obtain ⟨j, e, s1⟩ := satW_int s1
    subst e
    obtain ⟨sm, s1⟩ := satW_bcs s1
    have hb := small_rg sm
    refine ⟨j, rv_int rv1, s1 0 j ρ1 H1 ?_ ⟨by omega, by omega, by omega, by omega, by omega⟩ st1 rh1⟩
    rw [Int.sub_zero]) fun _ _ q => q⟩
theorem prg2 {p : Pos} (bn : Bn C "range" (.type "range")) (hn : notStar a = true) (hn2 : notStar b = true) (ha : OE cls C a ca) (hb : OE cls C b cb) : ORg cls C (.Call (.Name "range" p) [a, b] [] pos) (wRng2 ca cb) := fun X W c hc =>
  PRg.imp (prg_2 (hc.gl_of bn.g) (hc.blts _ bn.m) (ha X W c hc) (hb X W c hc) (star_cons hn _) (star_cons hn2 _) (star_any pos X.env [b] (by simp [hn2]))) fun σ H Q ⟨ρ, h, e, at_, s⟩ => ⟨ρ, h, e, at_, (bndS_sat s).mono (fun v h1 s1 ρ1 H1 x st1 rh1 rv1 => ⟨ρ1, h1, e, at_.go st1 rh1, (bndS_sat s1).mono (fun w h2 s2 ρ2 H2 y st2 rh2 rv2 => by
    obtain ⟨i, e, s2⟩ := satW_int s2
    obtain ⟨j, e', s2⟩ := satW_int s2
    subst e e'
    obtain ⟨sm1, s2⟩ := satW_bcs s2
    obtain ⟨sm2, s2⟩ := satW_bcs s2
    have hb1 := small_rg sm1
    have hb2 := small_rg sm2
    exact ⟨i, j, rv_int rv1, rv_int rv2, s2 i j ρ2 H2 rfl ⟨by omega, by omega, by omega, by omega, by omega⟩ (st1.trans st2) rh2⟩) fun _ _ q => q.reb st1⟩) fun _ _ q => q⟩
theorem rgV_map (x y : Int) : rgV x y = (List.range (y - x).toNat).map fun i => V.int (x + (i : Nat)) := rfl
theorem rg_ok {K : Fg} {ρ : Rho} {H : Hp} (x y : Int) : RVs K ρ H (rgGo x 1 (y - x).toNat []) (rgV x y) := by
  rw [rgGo_eq, List.append_nil]
  exact rg_rel x 1 _ (fun i => by rw [Int.mul_one]) _
theorem ol_range {p : Pos} {w : WC} (bn : Bn C "list" (.type "list")) (hn : notStar e = true) (he : ORg cls C e w) : OL cls C (.Call (.Name "list" p) [e] [] pos) (lRg w) := fun X W c hc =>
  PE.imp (pe_listRg hc.calm (hc.gl_of bn.g) (hc.blts _ bn.m) (he X W c hc) (star_cons hn _)) fun σ H Q ⟨ρ, h, e, at_, s⟩ => ⟨ρ, h, e, at_, by
    have s : SatL (Rsrc.cs (fun s h => rgSrc s h) .ex .bad (w c e h)) (FinL X.K ρ H Q) (FinX cls X.K W ρ H σ) := s
    cases er : w c e h with
    | bad => rw [er] at s; exact s.elim
    | ex x h1 => rw [er] at s; exact s
    | ok src h1 =>
      rw [er] at s
      intro x y ρ1 H1 e1 ok st1 rh1
      subst e1
      refine ⟨ok, fun q hq => ?_⟩
      have st2 := stp_new (ρ := ρ1) (.lst (rgV x y)) hq
      exact s ρ1 _ q (rgV x y) (st1.trans st2) (rh_new rh1 _ hq) (st1.none_of hq) (rh1.unk hq) upd_same (rg_ok x y)⟩
theorem oe_tupRange {p : Pos} {w : WC} (bn : Bn C "tuple" (.type "tuple")) (hn : notStar e = true) (he : ORg cls C e w) : OE cls C (.Call (.Name "tuple" p) [e] [] pos) (cTupRg w) := fun X W c hc =>
  PE.imp (pe_tupRg hc.calm (hc.gl_of bn.g) (hc.blts _ bn.m) (he X W c hc) (star_cons hn _)) fun σ H Q ⟨ρ, h, e, at_, s⟩ => ⟨ρ, h, e, at_, by
    have s : SatR (bndL (Rsrc.cs (fun s h => rgSrc s h) .ex .bad (w c e h)) fun xs h => okV (mkTup xs) h) (FinV X.K ρ H Q) (FinX cls X.K W ρ H σ) := s
    cases er : w c e h with
    | bad => rw [er] at s; exact s.elim
    | ex x h1 => rw [er] at s; exact s
    | ok src h1 =>
      rw [er] at s
      intro x y ρ1 H1 e1 ok st1 rh1
      subst e1
      refine ⟨ok, fun q hq => ?_⟩
      have s : SatR (okV (mkTup (rgGo x 1 (y - x).toNat [])) h1) (FinV X.K ρ H Q) (FinX cls X.K W ρ H σ) := s
      exact sat_newT rh1 (rg_ok x y) (s.mono (fun _ _ q => FinV.reb st1 q) fun _ _ q => q) hq⟩
/-- range(a, b, -1) -/
noncomputable def wRngD (a b : EC) : WC := fun c e h => bndS (a c e h) fun x h => bndS (b c e h) fun y h => asI (fun i => asI (fun j => bcs (bcs (.ok (.rng i (-1) (Int.toNat (Int.sub i j))) h) .bad (smallR i)) .bad (smallR j)) .bad y) .bad x
theorem src_rngC {K : Fg} {ρ : Rho} {H : Hp} {lo st : Int} {n : Nat} : SrcOk K ρ H (.rng lo st n) (Itc lo st n) := fun ρ h H i stp rh _ => by
  show OkA K ρ h H i _ _ (bcs (fI (fun z => It3.item (.int z)) (Int.add lo (Int.mul (.ofNat i) st))) .stop (Nat.ble (Nat.succ i) n))
  cases e : Nat.ble (Nat.succ i) n with
  | true =>
    rw [bcs_true, fI_eq]
    have hl := Nat.le_of_ble_eq_true e
    refine ⟨⟨hl, fun x H' hy => ?_⟩, trivial⟩
    obtain ⟨rfl, rfl⟩ := hy
    exact ⟨Stp.refl _ _, rh, .pure (.int _)⟩
  | false =>
    rw [bcs_false]
    show n ≤ i
    have : ¬ i + 1 ≤ n := fun q => by rw [Nat.ble_eq_true_of_le q] at e; cases e
    omega
theorem oi_rngD {tg : Expr} {p p1 p2 : Pos} {k : Nat} (bn : Bn C "range" (.type "range")) (hn : notStar a = true) (hn2 : notStar b = true) (ha : OE cls C a ca) (hb : OE cls C b cb) : OI cls C tg (.Call (.Name "range" p) [a, b, .UnaryOp .USub (.Constant (.int 1) k p1) p2] [] pos) (wRngD ca cb) := fun X W c hc =>
  PI.imp (pi_range3 (hc.gl_of bn.g) (hc.blts _ bn.m) (pa_cons (ha X W c hc) (pa_cons (hb X W c hc) (pa_cons (pe_un un_neg pe_int) pa_nil) (star_cons hn2 _)) (star_cons hn _)) (star_cons hn _) (star_any pos X.env _ (by rw [List.all_cons, hn2]; rfl))) fun σ H R ⟨ρ, h, e, at_, s⟩ =>
    ⟨ρ, h, e, at_, (bndS_sat s).mono (fun v h1 s1 ρ1 H1 x st1 rh1 rv1 => ⟨ρ1, h1, e, at_.go st1 rh1, (bndS_sat s1).mono (fun w h2 s2 ρ2 H2 y st2 rh2 rv2 => by
      obtain ⟨i, e, s2⟩ := satW_int s2
      obtain ⟨j, e', s2⟩ := satW_int s2
      subst e e'
      obtain ⟨sm1, s2⟩ := satW_bcs s2
      obtain ⟨sm2, s2⟩ := satW_bcs s2
      have b1 := small_rg sm1
      have b2 := small_rg sm2
      exact ⟨1, rfl, i, j, -1, (i - j).toNat, by rw [rv_int rv1, rv_int rv2], RgC.neg (by omega) (by omega) (by omega) (by omega), s2 ρ2 H2 _ (st1.trans st2) rh2 trivial src_rngC⟩) fun _ _ q => q.reb st1⟩) fun _ _ q => q⟩
end
end Tn

set_option maxHeartbeats 400000
namespace Tn
open PySem PySem.Spec PyProof.Rows L2 RZ
section
variable {cls : Nat → Value} {C : CC} {pos : Pos} {a b d e : Expr} {ca cb cd : EC} {es : List Expr} {ces : LC}
/-- tuple(range(a, b, -1)) -/
noncomputable def cTupRgD (a b : EC) : EC := cTupRg (wRngD a b)
theorem pe_tupRgD {X : Cx} {ta : TA} {c : Expr} {p p1 pos2 : Pos} (hcalm : X.calm = true) (hg : Gl X "tuple") (hm : X.mg "tuple" = none) (hg2 : Gl X "range") (hm2 : X.mg "range" = none) (ha3 : PA X [a, b, c] ta) (hn : notStar a = true) (hn2 : notStar b = true) (hn3 : notStar c = true) :
    PE X (.Call (.Name "tuple" p) [.Call (.Name "range" p1) [a, b, c] [] pos2] [] pos) (fun σ H Q => ta σ H fun vs H2 => ∃ i j, vs = [.int i, .int j, .int (-1)] ∧ (-1000000 ≤ i ∧ i ≤ 1000000) ∧ (-1000000 ≤ j ∧ j ≤ 1000000) ∧
      ∀ q, H2 q = none → Q (.ref q) (upd H2 q (.tup ((List.range (i - j).toNat).map fun m => V.int (i + (m : Nat) * (-1)))))) := by
  refine ⟨fun pins s σ H Q I h => ?_⟩
  have na : starEach [Expr.Call (.Name "range" p1) [a, b, c] [] pos2] X.env = (false, eval (.Call (.Name "range" p1) [a, b, c] [] pos2) X.env) :: starEach [] X.env := by rfl
  have inner : wpAny (model X.prog X.w) X.A (eval (.Call (.Name "range" p1) [a, b, c] [] pos2) X.env) (fun x s' => ∃ r i j t u v H2, x = .ref r ∧ IsRange s'.heap r i j (-1) t u v ∧ Inv X pins σ H2 s' ∧ (-1000000 ≤ i ∧ i ≤ 1000000) ∧ (-1000000 ≤ j ∧ j ≤ 1000000) ∧
      ∀ q, H2 q = none → Q (.ref q) (upd H2 q (.tup ((List.range (i - j).toNat).map fun m => V.int (i + (m : Nat) * (-1)))))) X.xe s := by
    refine Call_ (ld_blt I hg2 hm2 boot_range (PyProof.Rows.callWith_type1 (thn (ha3.run pos2 pins s σ H _ I h) fun us s1 ⟨vs, H1, I1, r1, q1⟩ => ?_) (star_cons hn _) (star_any pos2 X.env _ (by rw [List.all_cons, List.all_cons, hn2, hn3]; rfl))))
    obtain ⟨i, j, e, b1, b2, q⟩ := q1
    subst e
    cases r1 with
    | cons r rr =>
      cases rr with
      | cons r' rr =>
        cases rr with
        | cons r'' rr =>
          cases rr
          obtain ⟨t, rfl⟩ := r
          obtain ⟨t', rfl⟩ := r'
          obtain ⟨t'', rfl⟩ := r''
          refine call_range_3 (by decide) ?_ (.inl (PyProof.noPylong_small (by decide)))
          exact ⟨_, i, j, _, _, _, H1, rfl, IsRange.new _ _ _ _ _ _ _, I1.kept (t' := s1.toks) fun b u e => Heap.get?_push_of_some _ e, b1, b2, q⟩
  refine Call_ (ld_blt I hg hm boot_tuple (PyProof.Rows.callWith_type1 (args_cons (thn inner fun x s1 ⟨r, i, j, t, u, v, H1, ex, hr, I1, b1, b2, q⟩ => args_nil ?_) na) na))
  subst ex
  refine call_tuple_range (n := (i - j).toNat) (I1.ok.hd hcalm) hr (PySem.W.small_down (by omega) (by omega) (by omega) (by omega)) (PySem.W.rangeSize_downNat i j) (by omega) fun h' tk acc hk hi => ?_
  have I2 : Inv X pins σ H1 { s1 with heap := h', toks := tk } := I1.kept hk
  have el : acc.toList.length = (i - j).toNat := by rw [Array.length_toList]; exact hi.1
  have hv : Vals ((List.range (i - j).toNat).map fun m => V.int (i + (m : Nat) * (-1))) acc.toList := by
    rw [← el]
    refine vals_of_get acc.toList _ fun m u hm => ?_
    obtain ⟨t, rfl⟩ := hi.2 m u (by rw [← hm, Array.getElem?_toList])
    exact ⟨t, rfl⟩
  refine ⟨.ref h'.objs.size, upd H1 h'.objs.size (.tup ((List.range (i - j).toNat).map fun m => V.int (i + (m : Nat) * (-1)))), I2.laid (t' := tk) (fun c o e => Heap.get?_push_of_some _ e) (Nat.le_refl _) (show ObjOk X.prog X.w _ _ _ (.tup ((List.range (i - j).toNat).map fun m => V.int (i + (m : Nat) * (-1)))) from ⟨?_, acc.toList, hv, ?_⟩), rfl, q _ (I2.hok.fresh (Nat.le_refl _))⟩
  · rw [List.length_map, List.length_range, sizeLine_eq]; omega
  · rw [Array.toArray_toList]; exact IsTup.new _ _
theorem oe_tupRangeD {p p1 p2 p3 pos2 : Pos} {k : Nat} (bt : Bn C "tuple" (.type "tuple")) (br : Bn C "range" (.type "range")) (hn : notStar a = true) (hn2 : notStar b = true) (ha : OE cls C a ca) (hb : OE cls C b cb) :
    OE cls C (.Call (.Name "tuple" p) [.Call (.Name "range" p1) [a, b, .UnaryOp .USub (.Constant (.int 1) k p2) p3] [] pos2] [] pos) (cTupRgD ca cb) := fun X W c hc =>
  PE.imp (pe_tupRgD hc.calm (hc.gl_of bt.g) (hc.blts _ bt.m) (hc.gl_of br.g) (hc.blts _ br.m) (pa_cons (ha X W c hc) (pa_cons (hb X W c hc) (pa_cons (pe_un un_neg pe_int) pa_nil) (star_cons hn2 _)) (star_cons hn _)) hn hn2 rfl) fun σ H Q ⟨ρ, h, e, at_, s⟩ => ⟨ρ, h, e, at_, by
    have s : SatR (bndL (Rsrc.cs (fun s h => rgSrc s h) .ex .bad (bndS (ca c e h) fun x h => bndS (cb c e h) fun y h => asI (fun i => asI (fun j => bcs (bcs (.ok (.rng i (-1) (Int.toNat (Int.sub i j))) h) .bad (smallR i)) .bad (smallR j)) .bad y) .bad x)) fun xs h => okV (mkTup xs) h) (FinV X.K ρ H Q) (FinX cls X.K W ρ H σ) := s
    cases ea : ca c e h with
    | bad => rw [ea] at s; exact s.elim
    | ex x h1 => rw [ea] at s; exact s
    | ok v h1 =>
      rw [ea] at s
      intro ρ1 H1 x st1 rh1 rv1
      refine ⟨ρ1, h1, e, at_.go st1 rh1, ?_⟩
      have s : SatR (bndL (Rsrc.cs (fun s h => rgSrc s h) .ex .bad (bndS (cb c e h1) fun y h => asI (fun i => asI (fun j => bcs (bcs (.ok (.rng i (-1) (Int.toNat (Int.sub i j))) h) .bad (smallR i)) .bad (smallR j)) .bad y) .bad v)) fun xs h => okV (mkTup xs) h) (FinV X.K ρ H Q) (FinX cls X.K W ρ H σ) := s
      cases eb : cb c e h1 with
      | bad => rw [eb] at s; exact s.elim
      | ex x h2 => rw [eb] at s; exact FinX.reb st1 s
      | ok w h2 =>
        rw [eb] at s
        intro ρ2 H2 y st2 rh2 rv2
        have s : SatR (bndL (Rsrc.cs (fun s h => rgSrc s h) .ex .bad (asI (fun i => asI (fun j => bcs (bcs (.ok (.rng i (-1) (Int.toNat (Int.sub i j))) h2) .bad (smallR i)) .bad (smallR j)) .bad w) .bad v)) fun xs h => okV (mkTup xs) h) (FinV X.K ρ H Q) (FinX cls X.K W ρ H σ) := s
        have hv : ∃ i, v = .int i := by
          clear rv1 ea
          cases v <;> first | exact ⟨_, rfl⟩ | exact s.elim
        obtain ⟨i, hv⟩ := hv
        subst hv
        have hw : ∃ j, w = .int j := by
          clear rv2 eb
          cases w <;> first | exact ⟨_, rfl⟩ | exact s.elim
        obtain ⟨j, hw⟩ := hw
        subst hw
        have s : SatR (bndL (Rsrc.cs (fun s h => rgSrc s h) .ex .bad (bcs (bcs (.ok (.rng i (-1) (Int.toNat (Int.sub i j))) h2) .bad (smallR i)) .bad (smallR j))) fun xs h => okV (mkTup xs) h) (FinV X.K ρ H Q) (FinX cls X.K W ρ H σ) := s
        cases e1 : smallR j with
        | false => rw [e1] at s; exact s.elim
        | true =>
          cases e2 : smallR i with
          | false => rw [e1, e2] at s; exact s.elim
          | true =>
            rw [e1, e2] at s
            have s : SatR (okV (mkTup (rgGo i (-1) (i - j).toNat [])) h2) (FinV X.K ρ H Q) (FinX cls X.K W ρ H σ) := s
            refine ⟨1, rfl, i, j, by rw [rv_int rv1, rv_int rv2], small_rg e2, small_rg e1, fun q hq => ?_⟩
            refine sat_newT rh2 ?_ (s.mono (fun _ _ q => FinV.reb (st1.trans st2) q) fun _ _ q => q) hq
            rw [rgGo_eq, List.append_nil]
            exact rg_rel i (-1) _ (fun m => rfl) _⟩
end
end Tn

set_option maxHeartbeats 400000
namespace Tn
open PySem PySem.Spec PyProof.Rows L2 RZ
section
variable {cls : Nat → Value} {C : CC} {pos : Pos} {a b d e : Expr} {ca cb cd : EC} {es : List Expr} {ces : LC}
theorem sole_eq (tg x : Expr) (l : Nat) (env : Env) : swapsWithSole [tg] x l env = swapsWith x (some tg) l env := rfl
theorem satD_asT {K : Fg} {W : WX} {ρ : Rho} {H : Hp} {σ : L2.St} {D : Ends} {v : PV} {f : List PV → Out} (q : SatD cls K W ρ H σ D (asT f .bad v)) : ∃ xs, (v = .tup xs ∨ v = .mtup xs) ∧ SatD cls K W ρ H σ D (f xs) := by
  cases v <;> first | exact ⟨_, .inl rfl, q⟩ | exact ⟨_, .inr rfl, q⟩ | exact q.elim
theorem satD_lcs2 {K : Fg} {W : WX} {ρ : Rho} {H : Hp} {σ : L2.St} {D : Ends} {f : PV → PV → Out} {xs : List PV} (q : SatD cls K W ρ H σ D (lcs .bad (fun x r => lcs .bad (fun y r => lcs (f x y) (fun _ _ => .bad) r) r) xs)) : ∃ x y, xs = [x, y] ∧ SatD cls K W ρ H σ D (f x y) := by
  match xs, q with
  | [], q => exact q.elim
  | [x], q => exact q.elim
  | [x, y], q => exact ⟨x, y, rfl, q⟩
  | x :: y :: z :: r, q => exact q.elim
/-- a[i], b[j] = a tuple -/
theorem os_sub2 {o1 i1 o2 i2 : Expr} {co1 ci1 co2 ci2 : EC} {p1 p2 p : Pos} {kt : Nat} (ho : swO C.sc (.Tuple [.Subscript o1 i1 p1, .Subscript o2 i2 p2] kt p) d = none) (hw : swB C.sc d (.Tuple [.Subscript o1 i1 p1, .Subscript o2 i2 p2] kt p) = false) (hd : OE cls C d cd) (h1 : OE cls C o1 co1) (h2 : OE cls C i1 ci1) (h3 : OE cls C o2 co2) (h4 : OE cls C i2 ci2)
    (hx1 : ∀ (env : Env) v, assign (.Subscript o1 i1 p1) env v = (do
      let ov ← holding [v] (eval o1 env)
      let iv ← holding [v, ov] (eval i1 env)
      standAt p1
      holding [v, ov, iv] (setItem ov iv v)
      release [v, ov, iv] []))
    (hx2 : ∀ (env : Env) v, assign (.Subscript o2 i2 p2) env v = (do
      let ov ← holding [v] (eval o2 env)
      let iv ← holding [v, ov] (eval i2 env)
      standAt p2
      holding [v, ov, iv] (setItem ov iv v)
      release [v, ov, iv] [])) :
    OS cls C (.Assign [.Tuple [.Subscript o1 i1 p1, .Subscript o2 i2 p2] kt p] d pos) (sSub2 co1 ci1 co2 ci2 cd) := fun X W c hc => by
  have hu : X.A.units + 1 < cLine := by have := hc.room.units; omega
  have hsw : swapsWithSole [.Tuple [.Subscript o1 i1 p1, .Subscript o2 i2 p2] kt p] d pos.line X.env = pure false := by
    rw [sole_eq, swB_eq, hc.sc, hw]
  have G := pg_tup (pos := p) (k := kt) (n := 2) hc.calm (pgs_cons (pg_sub (h1 X W c hc) (h2 X W c hc) (set_U hu) (hx1 X.env)) (pgs_cons (pg_sub (h3 X W c hc) (h4 X W c hc) (set_U hu) (hx2 X.env)) pgs_nil rfl) rfl) rfl rfl
  refine PS.imp (ps_asg (hd X W c hc) G hsw (swO_none _ _ _ (by rw [hc.sc]; exact ho)) rfl) fun D σ H q => ?_
  obtain ⟨ρ, h, e, at_, q⟩ := q
  refine ⟨ρ, h, e, at_, (bndO_sat q).mono (fun v h1 q1 ρ1 H1 x st1 rh1 rv1 => ?_) fun _ _ q => q⟩
  obtain ⟨xs, hv, q2⟩ := satD_asT q1
  obtain ⟨v1, v2, exs, q1⟩ := satD_lcs2 q2
  subst exs
  clear q2
  have hq : ∃ a y1 y2, x = .ref a ∧ SqT X.K H1 a [y1, y2] ∧ RV X.K ρ1 H1 v1 y1 ∧ RV X.K ρ1 H1 v2 y2 := by
    rcases hv with e | e
    · subst e
      obtain ⟨a, vs, ex, hq, r⟩ := rv_tup rv1
      cases r with
      | cons r1 r =>
        cases r with
        | cons r2 r => cases r; exact ⟨a, _, _, ex, hq, .pure r1, .pure r2⟩
    · subst e
      obtain ⟨a, vs, ex, hq, r⟩ := rv_mtup rv1
      cases r with
      | cons r1 r =>
        cases r with
        | cons r2 r => cases r; exact ⟨a, _, _, ex, hq, r1, r2⟩
  obtain ⟨a, y1, y2, ex, hq, r1, r2⟩ := hq
  refine ⟨a, [y1, y2], ex, hq, rfl, y1, [y2], rfl, ρ1, h1, e, at_.go st1 rh1, (bndO_sat q1).mono (fun o h2 q2 ρ2 H2 xo st2 rh2 ro => ⟨ρ2, h2, e, (at_.go st1 rh1).go st2 rh2, (bndO_sat q2).mono (fun i h3 q3 ρ3 H3 xi st3 rh3 ri => ?_) fun _ _ q => q.reb (st1.trans st2)⟩) fun _ _ q => q.reb st1⟩
  obtain ⟨h4, H4, q4, st4, rh4, fin⟩ := putQ_rd rh3 (ro.step st3) ri (r1.step (st2.trans st3)) q3
  refine fin _ ?_
  have stA := ((st1.trans st2).trans st3).trans st4
  have atA := (((at_.go st1 rh1).go st2 rh2).go st3 rh3).go st4 rh4
  refine ⟨y2, [], rfl, ρ3, h4, e, atA, (bndO_sat q4).mono (fun o h5 q5 ρ5 H5 xo5 st5 rh5 ro5 => ⟨ρ5, h5, e, atA.go st5 rh5, (bndO_sat q5).mono (fun i h6 q6 ρ6 H6 xi6 st6 rh6 ri6 => ?_) fun _ _ q => q.reb (stA.trans st5)⟩) fun _ _ q => q.reb stA⟩
  obtain ⟨h7, H7, q7, st7, rh7, fin7⟩ := putQ_rd rh6 (ro5.step st6) ri6 (r2.step ((((st2.trans st3).trans st4).trans st5).trans st6)) q6
  refine fin7 _ ⟨rfl, ?_⟩
  exact q7 ρ6 H7 σ (((stA.trans st5).trans st6).trans st7) (((atA.go st5 rh5).go st6 rh6).go st7 rh7)
end
end Tn

set_option maxHeartbeats 1000000
/-! sorted -/
namespace Tn
open PySem PySem.Spec PyProof.Rows L2 RZ
noncomputable section
/-! ### the order -/
def ltL (lt eq : PV → PV → Bool) (xs : List PV) : List PV → Bool := List.rec (motive := fun _ => List PV → Bool) (fun ys => lcs false (fun _ _ => true) ys) (fun x _ ih ys => lcs false (fun y t => bcs (ih t) (lt x y) (eq x y)) ys) xs
def ltV (d : Nat) : PV → PV → Bool := Nat.rec (motive := fun _ => PV → PV → Bool)
  (fun x y => PV.cs false (fun _ => false) (fun i => asI (fun j => ltI i j) false y) (fun _ => false) (fun _ => false) (fun _ => false) (fun _ => false) false false x)
  (fun d ih x y => PV.cs false (fun _ => false) (fun i => asI (fun j => ltI i j) false y) (fun _ => false) (fun xs => asT (fun ys => ltL ih (eqV d) xs ys) false y) (fun _ => false) (fun _ => false) false false x) d
def sL (s : PV → PV → Bool) (xs : List PV) : List PV → Bool := List.rec (motive := fun _ => List PV → Bool) (fun ys => lcs true (fun _ _ => false) ys) (fun x _ ih ys => lcs false (fun y t => bcs (ih t) false (s x y)) ys) xs
/-- ints, tuples of such: of one shape -/
def sS (d : Nat) : PV → PV → Bool := Nat.rec (motive := fun _ => PV → PV → Bool)
  (fun x y => PV.cs false (fun _ => false) (fun i => asI (fun j => true) false y) (fun _ => false) (fun _ => false) (fun _ => false) (fun _ => false) false false x)
  (fun _ ih x y => PV.cs false (fun _ => false) (fun i => asI (fun j => true) false y) (fun _ => false) (fun xs => PV.cs false (fun _ => false) (fun _ => false) (fun _ => false) (fun ys => sL ih xs ys) (fun _ => false) (fun _ => false) false false y) (fun _ => false) (fun _ => false) false false x) d
def insK {α : Type} (le : PV → PV → Bool) (x : PV) (l : List PV) (k : List PV → α) : α := List.rec (motive := fun _ => (List PV → α) → α) (fun k => k [x]) (fun y t ih k => bcs (k (x :: y :: t)) (ih fun r => k (y :: r)) (le x y)) l k
def sortK {α : Type} (le : PV → PV → Bool) (l : List PV) (k : List PV → α) : α := List.rec (motive := fun _ => (List PV → α) → α) (fun k => k []) (fun x _ ih k => ih fun r => insK le x r k) l k
def leV (x y : PV) : Bool := bcs false true (ltV 6 y x)
def sortable (x : PV) : Bool := PV.cs false (fun _ => false) (fun _ => true) (fun _ => false) (fun xs => lcs false (fun _ _ => true) xs) (fun _ => false) (fun _ => false) false false x
def sortChk (xs : List PV) (k : List PV → Rl) : Rl := lcs (k []) (fun x t => bcs (bcs (sortK leV xs k) .bad (allB (sS 6 x) xs)) .bad (sortable x)) xs
def lSort (a : EC) : LC := fun c e h => bndRL (a c e h) fun x h => asR (fun n => lstAt (fun xs => sortChk xs fun r => .ok r h) .bad h n) .bad x
def lSortL (a : LC) : LC := fun c e h => bndLL (a c e h) fun xs h => sortChk xs fun r => .ok r h
end
/-! ### insertion -/
def insS {α : Type} (le : α → α → Bool) (x : α) : List α → List α
  | [] => [x]
  | y :: t => if le x y = true then x :: y :: t else y :: insS le x t
def sortS {α : Type} (le : α → α → Bool) : List α → List α
  | [] => []
  | x :: t => insS le x (sortS le t)
theorem insK_eq {α : Type} (le : PV → PV → Bool) (x : PV) : ∀ (l : List PV) (k : List PV → α), insK le x l k = k (insS le x l)
  | [], k => rfl
  | y :: t, k => by
    show bcs (k (x :: y :: t)) (insK le x t fun r => k (y :: r)) (le x y) = _
    rw [insK_eq le x t]
    have e : insS le x (y :: t) = if le x y = true then x :: y :: t else y :: insS le x t := by rw [insS]
    rw [e]
    cases q : le x y <;> simp
theorem sortK_eq {α : Type} (le : PV → PV → Bool) : ∀ (l : List PV) (k : List PV → α), sortK le l k = k (sortS le l)
  | [], k => rfl
  | x :: t, k => by
    show sortK le t (fun r => insK le x r k) = _
    rw [sortK_eq le t, insK_eq]; rfl
section
variable {α : Type} {le le2 : α → α → Bool}
theorem mem_ins {x y : α} : ∀ {l : List α}, y ∈ insS le x l → y = x ∨ y ∈ l
  | [], h => by simp [insS] at h; exact .inl h
  | z :: t, h => by
    unfold insS at h
    split at h
    · rcases List.mem_cons.mp h with e | e
      · exact .inl e
      · exact .inr e
    · rcases List.mem_cons.mp h with e | e
      · exact .inr (e ▸ List.mem_cons_self)
      · rcases mem_ins e with q | q
        · exact .inl q
        · exact .inr (List.mem_cons_of_mem _ q)
theorem mem_sort {y : α} : ∀ {l : List α}, y ∈ sortS le l → y ∈ l
  | [], h => h
  | x :: t, h => by
    rcases mem_ins h with e | e
    · exact e ▸ List.mem_cons_self
    · exact List.mem_cons_of_mem _ (mem_sort e)
theorem ins_congr {x : α} : ∀ {l : List α}, (∀ y ∈ l, le x y = le2 x y) → insS le x l = insS le2 x l
  | [], _ => rfl
  | z :: t, h => by
    unfold insS
    rw [h z List.mem_cons_self, ins_congr fun y hy => h y (List.mem_cons_of_mem _ hy)]
theorem sort_congr' : ∀ {l : List α}, (∀ x ∈ l, ∀ y ∈ l, le x y = le2 x y) → sortS le l = sortS le2 l
  | [], _ => rfl
  | x :: t, h => by
    unfold sortS
    rw [sort_congr' fun x hx y hy => h x (List.mem_cons_of_mem _ hx) y (List.mem_cons_of_mem _ hy)]
    exact ins_congr fun y hy => h x List.mem_cons_self y (List.mem_cons_of_mem _ (mem_sort hy))
theorem ins_sorted (T : PySem.W.TotalLe le) {x : α} : ∀ {l : List α}, l.Pairwise (fun a b => le a b = true) → (insS le x l).Pairwise (fun a b => le a b = true)
  | [], _ => by simp [insS]
  | y :: t, h => by
    obtain ⟨h1, h2⟩ := List.pairwise_cons.mp h
    unfold insS
    split
    · rename_i q
      exact List.pairwise_cons.mpr ⟨fun z hz => by
        rcases List.mem_cons.mp hz with e | e
        · exact e ▸ q
        · exact T.trans _ _ _ q (h1 z e), h⟩
    · rename_i q
      refine List.pairwise_cons.mpr ⟨fun z hz => ?_, ins_sorted T h2⟩
      rcases mem_ins hz with e | e
      · subst e
        rcases T.total y z with r | r
        · exact r
        · exact absurd r q
      · exact h1 z e
theorem sort_sorted (T : PySem.W.TotalLe le) : ∀ l : List α, (sortS le l).Pairwise (fun a b => le a b = true)
  | [] => List.Pairwise.nil
  | x :: t => ins_sorted T (sort_sorted T t)
theorem ins_filter (T : PySem.W.TotalLe le) {x c : α} : ∀ l : List α, (insS le x l).filter (PySem.W.sameRank le c) = (x :: l).filter (PySem.W.sameRank le c)
  | [] => rfl
  | y :: t => by
    unfold insS
    split
    · rfl
    · rename_i q
      rw [List.filter_cons, ins_filter T t, List.filter_cons, List.filter_cons, List.filter_cons]
      cases e1 : PySem.W.sameRank le c x with
      | false => simp
      | true =>
        cases e2 : PySem.W.sameRank le c y with
        | false => simp
        | true =>
          exfalso
          apply q
          unfold PySem.W.sameRank at e1 e2
          rw [Bool.and_eq_true] at e1 e2
          exact T.trans _ _ _ e1.2 e2.1
theorem sort_filter (T : PySem.W.TotalLe le) (c : α) : ∀ l : List α, (sortS le l).filter (PySem.W.sameRank le c) = l.filter (PySem.W.sameRank le c)
  | [] => rfl
  | x :: t => by
    show (insS le x (sortS le t)).filter _ = _
    rw [ins_filter T, List.filter_cons, List.filter_cons, sort_filter T c t]
theorem sort_is (T : PySem.W.TotalLe le) (l : List α) : sortS le l = l.mergeSort le := PySem.W.sort_unique T (sort_sorted T l) fun c => sort_filter T c l
end

/-! ### the order is the data's -/
theorem toDs_map : ∀ xs : List PV, toDs xs = xs.map toD
  | [] => rfl
  | x :: xs => by rw [toDs, toDs_map xs]; rfl
theorem sS_shp : ∀ (d : Nat) (x y : PV), sS d x y = true → shp d x = true ∧ shp d y = true ∧ PySem.W.alike (toD x) (toD y) = true := by
  intro d
  induction d with
  | zero =>
    intro x y h
    cases x <;> first | (cases h; done) | skip
    cases y <;> first | (cases h; done) | skip
    exact ⟨rfl, rfl, by simp [toD, PySem.W.alike]⟩
  | succ d ih =>
    intro x y h
    cases x <;> first | (cases h; done) | skip
    · cases y <;> first | (cases h; done) | skip
      exact ⟨rfl, rfl, by simp [toD, PySem.W.alike]⟩
    · rename_i xs
      cases y <;> first | (cases h; done) | skip
      rename_i ys
      have h : sL (sS d) xs ys = true := h
      have go : ∀ xs ys : List PV, sL (sS d) xs ys = true → allB (shp d) xs = true ∧ allB (shp d) ys = true ∧ PySem.W.alikeAll (toDs xs) (toDs ys) = true := by
        intro xs
        induction xs with
        | nil =>
          intro ys h
          cases ys with
          | nil => exact ⟨rfl, rfl, by simp [toDs, PySem.W.alikeAll]⟩
          | cons => cases h
        | cons x t it =>
          intro ys h
          cases ys with
          | nil => cases h
          | cons y u =>
            have h : bcs (sL (sS d) t u) false (sS d x y) = true := h
            cases q : sS d x y with
            | false => rw [q] at h; cases h
            | true =>
              rw [q] at h
              obtain ⟨a1, a2, a3⟩ := ih x y q
              obtain ⟨b1, b2, b3⟩ := it u h
              refine ⟨?_, ?_, ?_⟩
              · show bcs (allB (shp d) t) false (shp d x) = true
                rw [a1]; exact b1
              · show bcs (allB (shp d) u) false (shp d y) = true
                rw [a2]; exact b2
              · rw [toDs, toDs, PySem.W.alikeAll, a3, b3]; rfl
      obtain ⟨a1, a2, a3⟩ := go xs ys h
      exact ⟨a1, a2, by simp only [toD, PySem.W.alike]; exact a3⟩
theorem sS_eu : ∀ (d : Nat) (a x y : PV), sS d a x = true → sS d a y = true → sS d x y = true := by
  intro d
  induction d with
  | zero =>
    intro a x y h1 h2
    cases a <;> first | (cases h1; done) | skip
    cases x <;> first | (cases h1; done) | skip
    cases y <;> first | (cases h2; done) | skip
    rfl
  | succ d ih =>
    intro a x y h1 h2
    cases a <;> first | (cases h1; done) | skip
    · cases x <;> first | (cases h1; done) | skip
      cases y <;> first | (cases h2; done) | skip
      rfl
    · rename_i as
      cases x <;> first | (cases h1; done) | skip
      rename_i xs
      cases y <;> first | (cases h2; done) | skip
      rename_i ys
      have go : ∀ as xs ys : List PV, sL (sS d) as xs = true → sL (sS d) as ys = true → sL (sS d) xs ys = true := by
        intro as
        induction as with
        | nil =>
          intro xs ys h1 h2
          cases xs <;> cases ys <;> first | (cases h1; done) | (cases h2; done) | rfl
        | cons a t it =>
          intro xs ys h1 h2
          cases xs with
          | nil => cases h1
          | cons x xs =>
            cases ys with
            | nil => cases h2
            | cons y ys =>
              have h1 : bcs (sL (sS d) t xs) false (sS d a x) = true := h1
              have h2 : bcs (sL (sS d) t ys) false (sS d a y) = true := h2
              cases q1 : sS d a x with
              | false => rw [q1] at h1; cases h1
              | true =>
                cases q2 : sS d a y with
                | false => rw [q2] at h2; cases h2
                | true =>
                  rw [q1] at h1
                  rw [q2] at h2
                  show bcs (sL (sS d) xs ys) false (sS d x y) = true
                  rw [ih a x y q1 q2]
                  exact it xs ys h1 h2
      exact go as xs ys h1 h2
theorem ltV_data : ∀ (d : Nat) (x y : PV), sS d x y = true → ltV d x y = PySem.W.dataLt (toD x) (toD y) := by
  intro d
  induction d with
  | zero =>
    intro x y h
    cases x <;> first | (cases h; done) | skip
    cases y <;> first | (cases h; done) | skip
    simp only [toD]
    rw [PySem.W.dataLt_int]
    exact ltI_eq _ _
  | succ d ih =>
    intro x y h
    cases x <;> first | (cases h; done) | skip
    · cases y <;> first | (cases h; done) | skip
      simp only [toD]
      rw [PySem.W.dataLt_int]
      exact ltI_eq _ _
    · rename_i xs
      cases y <;> first | (cases h; done) | skip
      rename_i ys
      have h : sL (sS d) xs ys = true := h
      simp only [toD]
      rw [PySem.W.dataLt_tuple]
      have go : ∀ xs ys : List PV, sL (sS d) xs ys = true → ltL (ltV d) (eqV d) xs ys = PyProof.Rows.lexLt itemOrd (PySem.W.keyToksAll (toDs xs)) (PySem.W.keyToksAll (toDs ys)) := by
        intro xs
        induction xs with
        | nil =>
          intro ys h
          cases ys with
          | nil => rw [PyProof.Rows.lex_irrefl]; rfl
          | cons => cases h
        | cons x t it =>
          intro ys h
          cases ys with
          | nil => cases h
          | cons y u =>
            have h : bcs (sL (sS d) t u) false (sS d x y) = true := h
            cases q : sS d x y with
            | false => rw [q] at h; cases h
            | true =>
              rw [q] at h
              obtain ⟨a1, a2, a3⟩ := sS_shp d x y q
              simp only [toDs]
              rw [PySem.W.dataLt_cons a3, ← it u h, ← ih x y q, ← eqV_of d x y a1 a2]
              show bcs (ltL (ltV d) (eqV d) t u) (ltV d x y) (eqV d x y) = _
              cases eqV d x y <;> simp
      exact go xs ys h

/-! ### the call -/
def rSortP (K : Fg) : List V → Hp → VK → Prop := fun xs H Q => ∃ (a : Addr) (vs : List V) (bs : List PV), xs = [.ref a] ∧ SqL K H a vs ∧ RPs K H bs vs ∧ PySem.W.AllAlike (bs.map toD) ∧ PySem.W.Sortable (bs.map toD) ∧ (∀ b ∈ bs, (toD b).depth ≤ 20) ∧
  ∀ (xs' : List V) (p : Addr), H p = none → RPs K H (bs.mergeSort (PySem.W.dataLe false toD)) xs' → Q (.ref p) (upd H p (.lst xs'))
section
variable {X : Cx} {pins : List (Addr × Obj)} {σ : L2.St} {H : Hp} {s : Shared}
theorem each_of (I : Inv X pins σ H s) : ∀ {bs : List PV} {vs : List V} {us : List Value}, RPs X.K H bs vs → Vals vs us → PySem.W.EachIs (fun v b => ∃ x, RelV x v ∧ RP X.K H b x) us bs
  | _, _, _, .nil, .nil => .nil
  | _, _, _, .cons a b, .cons r rs => .cons ⟨_, r, a⟩ (each_of I b rs)
theorem each_rd (I : Inv X pins σ H s) : ∀ {bs : List PV} {vs : List V} {us : List Value}, RPs X.K H bs vs → Vals vs us → PySem.W.EachIs (fun v b => ∃ as, Reads s.heap v (toD b) as) us bs
  | _, _, _, .nil, .nil => .nil
  | _, _, _, .cons a b, .cons r rs => .cons (Dp.reads I _ _ _ a.dp r) (each_rd I b rs)
theorem each_back {K : Fg} : ∀ {bs : List PV} {us : List Value}, PySem.W.EachIs (fun v b => ∃ x, RelV x v ∧ RP K H b x) us bs → ∃ xs, Vals xs us ∧ RPs K H bs xs
  | _, _, .nil => ⟨[], .nil, .nil⟩
  | _, _, .cons ⟨x, r, a⟩ t => by
    obtain ⟨xs, h1, h2⟩ := each_back t
    exact ⟨x :: xs, .cons r h1, .cons a h2⟩
theorem cr_sortP (hu : X.A.units + 64 < cLine) : CallR X (.builtin "sorted") (rSortP X.K) := by
  intro pins s σ H vs us Q I r h
  obtain ⟨a, xs, bs, rfl, hs, hb, hal, hk, hd, q⟩ := h
  obtain ⟨its, rv, hl, hz⟩ := I.list hs
  rw [Vals.ref1 r]
  have hlen : bs.length ≤ sizeLine := by rw [hb.length]; exact hz
  refine PySem.W.sorted_data hl.isList (each_of I hb rv) (each_rd I hb rv) hal hk hlen (fun b hm => by have := hd b hm; omega) fun out ho eo => ?_
  obtain ⟨xs', h1, h2⟩ := each_back eo
  obtain ⟨ep, he'⟩ := PyProof.Rows.sortedAll_at s.heap its out.toArray
  have hl2 : xs'.length ≤ sizeLine := by rw [h1.length, ho]; exact hlen
  exact ⟨.ref _, upd H (s.heap.objs.size + 1) (.lst xs'), I.laid (t' := s.toks) (fun _ _ => PyProof.Rows.sortedAll_old) (Nat.le_succ _) ⟨hl2, out, ep, h1, he'⟩, rfl, q _ _ (I.hok.fresh (Nat.le_succ _)) h2⟩
end
theorem sortable_inv {x : PV} (h : sortable x = true) : (∃ i, x = .int i) ∨ ∃ a as, x = .tup (a :: as) := by
  cases x <;> first | (cases h; done) | skip
  · exact .inl ⟨_, rfl⟩
  · rename_i xs
    cases xs with
    | nil => cases h
    | cons a as => exact .inr ⟨a, as, rfl⟩
theorem sS_int {d : Nat} {i : Int} {y : PV} (h : sS d (.int i) y = true) : ∃ j, y = .int j := by
  cases d <;> cases y <;> first | (cases h; done) | exact ⟨_, rfl⟩
theorem sS_tup {d : Nat} {a : PV} {as : List PV} {y : PV} (h : sS d (.tup (a :: as)) y = true) : ∃ b bs, y = .tup (b :: bs) := by
  cases d <;> cases y <;> first | (cases h; done) | skip
  rename_i ys
  cases ys with
  | nil => cases h
  | cons b bs => exact ⟨b, bs, rfl⟩
theorem satL_sortChk {xs : List PV} {k : List PV → Rl} {P : List PV → MH → Prop} {E : Nat → MH → Prop} (s : SatL (sortChk xs k) P E) :
    PySem.W.AllAlike (xs.map toD) ∧ PySem.W.Sortable (xs.map toD) ∧ (∀ b ∈ xs, (toD b).depth ≤ 20) ∧ xs.all isPure = true ∧ SatL (k (xs.mergeSort (PySem.W.dataLe false toD))) P E := by
  cases xs with
  | nil =>
    refine ⟨fun d hd => by simp at hd, .inl fun d hd => by simp at hd, fun b hb => by simp at hb, rfl, ?_⟩
    rw [List.mergeSort_nil]; exact s
  | cons x t =>
    have s : SatL (bcs (bcs (sortK leV (x :: t) k) .bad (allB (sS 6 x) (x :: t))) .bad (sortable x)) P E := s
    obtain ⟨c1, s⟩ := satL_bcs s
    obtain ⟨c2, s⟩ := satL_bcs s
    rw [allB_eq, List.all_eq_true] at c2
    rw [sortK_eq] at s
    have sh : ∀ y ∈ x :: t, ∀ z ∈ x :: t, sS 6 y z = true := fun y hy z hz => sS_eu 6 x y z (c2 y hy) (c2 z hz)
    have hle : ∀ y ∈ x :: t, ∀ z ∈ x :: t, leV y z = PySem.W.dataLe false toD y z := fun y hy z hz => by
      show bcs false true (ltV 6 z y) = !PySem.W.dataLt (toD z) (toD y)
      rw [ltV_data 6 z y (sh z hz y hy)]
      cases PySem.W.dataLt (toD z) (toD y) <;> rfl
    refine ⟨fun d hd d' hd' => ?_, ?_, fun b hb => ?_, ?_, ?_⟩
    · obtain ⟨y, hy, rfl⟩ := List.mem_map.mp hd
      obtain ⟨z, hz, rfl⟩ := List.mem_map.mp hd'
      exact (sS_shp 6 y z (sh y hy z hz)).2.2
    · rcases sortable_inv c1 with ⟨i, ex⟩ | ⟨a, as, ex⟩
      · refine .inr fun d hd => ?_
        obtain ⟨y, hy, rfl⟩ := List.mem_map.mp hd
        have q := c2 y hy
        rw [ex] at q
        obtain ⟨j, ej⟩ := sS_int q
        subst ej
        exact ⟨nofun, nofun⟩
      · refine .inl fun d hd => ?_
        obtain ⟨y, hy, rfl⟩ := List.mem_map.mp hd
        have q := c2 y hy
        rw [ex] at q
        obtain ⟨b, bs, eb⟩ := sS_tup q
        subst eb
        exact ⟨toD b, toDs bs, rfl⟩
    · have := (shp_lay (sS_shp 6 b b (sh b hb b hb)).1).2
      omega
    · rw [List.all_eq_true]
      exact fun b hb => shp_pure (sS_shp 6 b b (sh b hb b hb)).1
    · rw [sort_congr' hle, sort_is (le := PySem.W.dataLe false toD) (PySem.W.sortLe_total _ _ _)] at s
      exact s
section
variable {cls : Nat → Value} {C : CC} {pos : Pos} {a b d e : Expr} {ca cb cd : EC} {es : List Expr} {ces : LC}
theorem RPs.stepS {K : Fg} {H : Hp} {p : Addr} {u : HO} (hp : H p = none) {xs : List PV} {vs : List V} (r : RPs K H xs vs) : RPs K (upd H p u) xs vs := r.step (stp_new (ρ := fun _ => none) u hp)
theorem ol_sortL {p : Pos} {l : LC} (bn : Bn C "sorted" (.builtin "sorted")) (hn : notStar a = true) (ha : OL cls C a l) : OL cls C (.Call (.Name "sorted" p) [a] [] pos) (lSortL l) := fun X W c hc =>
  PE.imp (pe_callB (cr_sortP hc.room.units) (hc.gl_of bn.g) (hc.blts _ bn.m) bn.v (pa_cons (ha X W c hc) pa_nil (star_cons hn _)) bn.n bn.d (star_cons hn _) rfl) fun σ H Q ⟨ρ, h, e, at_, s⟩ =>
    ⟨ρ, h, e, at_, (bndLL_sat s).mono (fun vs h1 s1 ρ1 H1 q xs st1 rh1 hq nq hq1 rv1 => by
      obtain ⟨c1, c2, c3, c4, s2⟩ := satL_sortChk s1
      refine ⟨q, xs, vs, rfl, .inl (.inl hq1), rv1.toP c4, c1, c2, c3, fun xs' p' hp' r' => ?_⟩
      have st2 := stp_new (ρ := ρ1) (.lst xs') hp'
      exact s2 ρ1 _ p' xs' (st1.trans st2) (rh_new rh1 _ hp') (st1.none_of hp') (rh1.unk hp') upd_same (r'.step st2).toV) fun _ _ q => q⟩
theorem ol_sort {p : Pos} (bn : Bn C "sorted" (.builtin "sorted")) (hn : notStar a = true) (ha : OE cls C a ca) : OL cls C (.Call (.Name "sorted" p) [a] [] pos) (lSort ca) := fun X W c hc =>
  PE.imp (pe_callB (cr_sortP hc.room.units) (hc.gl_of bn.g) (hc.blts _ bn.m) bn.v (pa_cons (ha X W c hc) pa_nil (star_cons hn _)) bn.n bn.d (star_cons hn _) rfl) fun σ H Q ⟨ρ, h, e, at_, s⟩ =>
    ⟨ρ, h, e, at_, (bndRL_sat s).mono (fun v h1 s1 ρ1 H1 x st1 rh1 rv1 => by
      have hv : ∃ n xs, v = .ref n ∧ h1[n]? = some (.lst xs) ∧ SatL (sortChk xs fun r => .ok r h1) (FinL X.K ρ H Q) (FinX cls X.K W ρ H σ) := by
        cases v <;> first | (exact s1.elim; done) | skip
        rename_i n
        have s1 : SatL (lstAt (fun xs => sortChk xs fun r => .ok r h1) .bad h1 n) (FinL X.K ρ H Q) (FinX cls X.K W ρ H σ) := s1
        unfold lstAt at s1
        rw [nth_eq] at s1
        cases q : h1[n]? with
        | none => rw [q] at s1; exact s1.elim
        | some o =>
          rw [q] at s1
          cases o with
          | lst xs => exact ⟨n, xs, rfl, q, s1⟩
          | dct kvs => exact s1.elim
      obtain ⟨n, ws, e1, e2, s3⟩ := hv
      subst e1
      obtain ⟨q, ex, eq⟩ := rv_ref rv1
      subst ex
      obtain ⟨xs, hq1, rws⟩ := rh1.lstV e2 eq
      obtain ⟨c1, c2, c3, c4, s2⟩ := satL_sortChk s3
      refine ⟨q, xs, ws, rfl, .inl (.inl hq1), rws.toP c4, c1, c2, c3, fun xs' p' hp' r' => ?_⟩
      have st2 := stp_new (ρ := ρ1) (.lst xs') hp'
      exact s2 ρ1 _ p' xs' (st1.trans st2) (rh_new rh1 _ hp') (st1.none_of hp') (rh1.unk hp') upd_same (r'.step st2).toV) fun _ _ q => q⟩
end
end Tn

set_option maxHeartbeats 0
namespace Tn
open PySem PySem.Spec PyProof.Rows L2
abbrev RR := PySem.Challenge.rw_turnedstrings_k53_branching_by_hand_and
def top (i : Nat) : Stmt := PySem.Challenge.pw_turnedstrings_k53_branching_by_hand_and.main.body.getD i (.Pass ⟨0, 0, 0, 0⟩)
def d0 : He.DefD := ⟨("tupled", none), "tupled", "tupled", defArgs (top 5), defBody (top 5), defScope (top 5), [], []⟩
def d1 : He.DefD := ⟨("is_number", none), "is_number", "is_number", defArgs (top 6), defBody (top 6), defScope (top 6), [], []⟩
def d2 : He.DefD := ⟨("is_count", none), "is_count", "is_count", defArgs (top 7), defBody (top 7), defScope (top 7), [], []⟩
def d3 : He.DefD := ⟨("is_below", none), "is_below", "is_below", defArgs (top 8), defBody (top 8), defScope (top 8), [], []⟩
def d4 : He.DefD := ⟨("is_tuple_of", none), "is_tuple_of", "is_tuple_of", defArgs (top 9), defBody (top 9), defScope (top 9), [], []⟩
def d5 : He.DefD := ⟨("sure_count", none), "sure_count", "sure_count", defArgs (top 10), defBody (top 10), defScope (top 10), [], []⟩
def d6 : He.DefD := ⟨("sure_from_one", none), "sure_from_one", "sure_from_one", defArgs (top 11), defBody (top 11), defScope (top 11), [], []⟩
def d7 : He.DefD := ⟨("sure_below", none), "sure_below", "sure_below", defArgs (top 12), defBody (top 12), defScope (top 12), [], []⟩
def d8 : He.DefD := ⟨("sure_tuple", none), "sure_tuple", "sure_tuple", defArgs (top 13), defBody (top 13), defScope (top 13), [], []⟩
def d9 : He.DefD := ⟨("is_half_in", none), "is_half_in", "is_half_in", defArgs (top 15), defBody (top 15), defScope (top 15), [], []⟩
def d10 : He.DefD := ⟨("sure_half", none), "sure_half", "sure_half", defArgs (top 16), defBody (top 16), defScope (top 16), [], []⟩
def d11 : He.DefD := ⟨("caps_in", none), "caps_in", "caps_in", defArgs (top 17), defBody (top 17), defScope (top 17), [], []⟩
def d12 : He.DefD := ⟨("opens_in", none), "opens_in", "opens_in", defArgs (top 18), defBody (top 18), defScope (top 18), [], []⟩
def d13 : He.DefD := ⟨("walk_in", none), "walk_in", "walk_in", defArgs (top 19), defBody (top 19), defScope (top 19), [], []⟩
def d14 : He.DefD := ⟨("half_by_walk", none), "half_by_walk", "half_by_walk", defArgs (top 20), defBody (top 20), defScope (top 20), [], []⟩
def d15 : He.DefD := ⟨("walks_in", none), "walks_in", "walks_in", defArgs (top 21), defBody (top 21), defScope (top 21), [], []⟩
def d16 : He.DefD := ⟨("halves_in", none), "halves_in", "halves_in", defArgs (top 22), defBody (top 22), defScope (top 22), [], []⟩
def d17 : He.DefD := ⟨("choices", none), "choices", "choices", defArgs (top 23), defBody (top 23), defScope (top 23), [], []⟩
def d18 : He.DefD := ⟨("many_halves", none), "many_halves", "many_halves", defArgs (top 24), defBody (top 24), defScope (top 24), [], []⟩
def d19 : He.DefD := ⟨("line_in", none), "line_in", "line_in", defArgs (top 25), defBody (top 25), defScope (top 25), [], []⟩
def d20 : He.DefD := ⟨("paired_in", none), "paired_in", "paired_in", defArgs (top 26), defBody (top 26), defScope (top 26), [], []⟩
def d21 : He.DefD := ⟨("mark", none), "mark", "mark", defArgs (top 27), defBody (top 27), defScope (top 27), [], []⟩
def d22 : He.DefD := ⟨("strings_in", none), "strings_in", "strings_in", defArgs (top 29), defBody (top 29), defScope (top 29), [], []⟩
def d23 : He.DefD := ⟨("straight_in", none), "straight_in", "straight_in", defArgs (top 30), defBody (top 30), defScope (top 30), [], []⟩
def d24 : He.DefD := ⟨("turn_in", none), "turn_in", "turn_in", defArgs (top 31), defBody (top 31), defScope (top 31), [], []⟩
def d25 : He.DefD := ⟨("top_in", none), "top_in", "top_in", defArgs (top 32), defBody (top 32), defScope (top 32), [], []⟩
def d26 : He.DefD := ⟨("flip_in", none), "flip_in", "flip_in", defArgs (top 33), defBody (top 33), defScope (top 33), [], []⟩
def d27 : He.DefD := ⟨("bottom_in", none), "bottom_in", "bottom_in", defArgs (top 34), defBody (top 34), defScope (top 34), [], []⟩
def d28 : He.DefD := ⟨("stack_half", none), "stack_half", "stack_half", defArgs (top 35), defBody (top 35), defScope (top 35), [], []⟩
def d29 : He.DefD := ⟨("is_field", none), "is_field", "is_field", defArgs (top 40), defBody (top 40), defScope (top 40), [], []⟩
def d30 : He.DefD := ⟨("divisor_in", none), "divisor_in", "divisor_in", defArgs (top 41), defBody (top 41), defScope (top 41), [], []⟩
def d31 : He.DefD := ⟨("is_number_in", none), "is_number_in", "is_number_in", defArgs (top 42), defBody (top 42), defScope (top 42), [], []⟩
def d32 : He.DefD := ⟨("turned_whole", none), "turned_whole", "turned_whole", defArgs (top 43), defBody (top 43), defScope (top 43), [], []⟩
def d33 : He.DefD := ⟨("least_in", none), "least_in", "least_in", defArgs (top 44), defBody (top 44), defScope (top 44), [], []⟩
def d34 : He.DefD := ⟨("plus_in", none), "plus_in", "plus_in", defArgs (top 45), defBody (top 45), defScope (top 45), [], []⟩
def d35 : He.DefD := ⟨("times_in", none), "times_in", "times_in", defArgs (top 46), defBody (top 46), defScope (top 46), [], []⟩
def d36 : He.DefD := ⟨("power_in", none), "power_in", "power_in", defArgs (top 47), defBody (top 47), defScope (top 47), [], []⟩
def d37 : He.DefD := ⟨("turned_table", none), "turned_table", "turned_table", defArgs (top 49), defBody (top 49), defScope (top 49), [], []⟩
def d38 : He.DefD := ⟨("is_ground", none), "is_ground", "is_ground", defArgs (top 51), defBody (top 51), defScope (top 51), [], []⟩
def d39 : He.DefD := ⟨("sure_ground", none), "sure_ground", "sure_ground", defArgs (top 52), defBody (top 52), defScope (top 52), [], []⟩
def d40 : He.DefD := ⟨("worth_in", none), "worth_in", "worth_in", defArgs (top 53), defBody (top 53), defScope (top 53), [], []⟩
def d41 : He.DefD := ⟨("sure_caps", none), "sure_caps", "sure_caps", defArgs (top 55), defBody (top 55), defScope (top 55), [], []⟩
def d42 : He.DefD := ⟨("column_in", none), "column_in", "column_in", defArgs (top 57), defBody (top 57), defScope (top 57), [], []⟩
def d43 : He.DefD := ⟨("columns_in", none), "columns_in", "columns_in", defArgs (top 58), defBody (top 58), defScope (top 58), [], []⟩
def d44 : He.DefD := ⟨("rows_in", none), "rows_in", "rows_in", defArgs (top 59), defBody (top 59), defScope (top 59), [], []⟩
def d45 : He.DefD := ⟨("way", none), "way", "way", defArgs (top 61), defBody (top 61), defScope (top 61), [], []⟩
def d46 : He.DefD := ⟨("half_of_way", none), "half_of_way", "half_of_way", defArgs (top 62), defBody (top 62), defScope (top 62), [], []⟩
def d47 : He.DefD := ⟨("ways_many", none), "ways_many", "ways_many", defArgs (top 63), defBody (top 63), defScope (top 63), [], []⟩
def d48 : He.DefD := ⟨("less_one", none), "less_one", "less_one", defArgs (top 64), defBody (top 64), defScope (top 64), [], []⟩
def d49 : He.DefD := ⟨("more_open", none), "more_open", "more_open", defArgs (top 65), defBody (top 65), defScope (top 65), [], []⟩
def d50 : He.DefD := ⟨("more_closed", none), "more_closed", "more_closed", defArgs (top 66), defBody (top 66), defScope (top 66), [], []⟩
def d51 : He.DefD := ⟨("cut_out", none), "cut_out", "cut_out", defArgs (top 67), defBody (top 67), defScope (top 67), [], []⟩
def d52 : He.DefD := ⟨("blocks", none), "blocks", "blocks", defArgs (top 68), defBody (top 68), defScope (top 68), [], []⟩
def d53 : He.DefD := ⟨("_law_lists", none), "_law_lists", "_law_lists", defArgs (top 70), defBody (top 70), defScope (top 70), [], []⟩
def d54 : He.DefD := ⟨("_law_same", none), "_law_same", "_law_same", defArgs (top 71), defBody (top 71), defScope (top 71), [], []⟩
def d55 : He.DefD := ⟨("_law_heard", none), "_law_heard", "_law_heard", defArgs (top 72), defBody (top 72), defScope (top 72), [], []⟩
def d56 : He.DefD := ⟨("_law_ways_right", none), "_law_ways_right", "_law_ways_right", defArgs (top 73), defBody (top 73), defScope (top 73), [], []⟩
def d57 : He.DefD := ⟨("_law_blocks_right", none), "_law_blocks_right", "_law_blocks_right", defArgs (top 74), defBody (top 74), defScope (top 74), [], []⟩
def d58 : He.DefD := ⟨("_law_refused_right", none), "_law_refused_right", "_law_refused_right", defArgs (top 75), defBody (top 75), defScope (top 75), [], []⟩
def d59 : He.DefD := ⟨("law", none), "law", "law", defArgs (top 76), defBody (top 76), defScope (top 76), [], []⟩
def fn : List He.DefD := ([d0, d1, d2, d3, d4, d5, d6, d7, d8, d9, d10, d11, d12, d13, d14, d15, d16, d17, d18, d19, d20, d21, d22, d23, d24, d25, d26, d27, d28, d29] : List He.DefD) ++ ([d30, d31, d32, d33, d34, d35, d36, d37, d38, d39, d40, d41, d42, d43, d44, d45, d46, d47, d48, d49, d50, d51, d52, d53, d54, d55, d56, d57, d58, d59] : List He.DefD)
def cn : List Str := ["PAIR", "TRIPLE", "PRIMES", "NOUGHT", "ONE"]
def cv : List PV := [.int 2, .int 3, .tup [.int 2, .int 3, .int 5, .int 7, .int 11, .int 13, .int 17, .int 19, .int 23, .int 29, .int 31], .tup [.int 0, .int 1], .tup [.int 1, .int 1]]
def bl : List Str := (["ValueError", "abs", "all", "bool", "enumerate", "int", "isinstance", "len", "list", "range", "sorted", "str", "tuple", "zip"] : List Str)
abbrev R : PySem.W.OpenRow := PySem.W.OpenLaw.row RR
abbrev ex (K : Fg) : Bool := cstsB K (cn.zip cv) && excB K "Unfit"
abbrev hk : PySem.W.Hook := hookE 5 (faOf fn bl) fn ex
def ob (s : PySem.W.SharedT) : He.AlD × Bool := obsEG 5 (faOf fn bl) fn ex (HandSHeadRun.getT s)
theorem ob_eq (s : PySem.W.SharedT) : ob s = hk.obs s.abs := obsEG_eq (HandSHeadRun.getT_eq s)
def loose : List Str := (["tupled", "is_number", "is_count", "is_below", "is_tuple_of", "sure_count", "sure_from_one", "sure_below", "sure_tuple", "is_half_in", "sure_half", "caps_in", "opens_in", "walk_in", "half_by_walk", "walks_in", "halves_in", "choices", "many_halves", "line_in", "paired_in", "mark", "strings_in", "straight_in", "turn_in", "top_in", "flip_in", "bottom_in", "stack_half", "is_field"] : List Str) ++ (["divisor_in", "is_number_in", "turned_whole", "least_in", "plus_in", "times_in", "power_in", "turned_table", "is_ground", "sure_ground", "worth_in", "sure_caps", "column_in", "columns_in", "rows_in", "way", "half_of_way", "ways_many", "less_one", "more_open", "more_closed", "cut_out", "blocks", "_law_lists", "_law_same", "_law_heard", "_law_ways_right", "_law_blocks_right", "_law_refused_right", "Unfit"] : List Str) ++ (["PAIR", "TRIPLE", "PRIMES", "NOUGHT", "ONE"] : List Str)
theorem run (w : World) : HandSHeadRun.RunEq R (PySem.W.view R.prog [76]) hk ob 6000 loose w := by
  intro os
  kernel_rfl
end Tn

set_option maxHeartbeats 0
namespace Tn
open PySem PySem.Spec PyProof.Rows L2 RZ
noncomputable def c0 : SC := (sRet (cIf (cIsI false false false false true true (cVar 0)) (cTupL (lComp [1] (wSeq (cVar 0)) (gN 1) none (cCall 0 (aCons (cVar 1) aNil)))) (cVar 0)))
noncomputable def x0 : DefX := ⟨d0, ["thing", "own"], ["thing"], c0⟩
noncomputable def c1 : SC := (sRet (cAnd (cIsI false true true false false false (cVar 0)) (cNot (cIsI false true false false false false (cVar 0)))))
noncomputable def x1 : DefX := ⟨d1, ["thing"], ["thing"], c1⟩
noncomputable def c2 : SC := (sRet (cAnd (cCall 1 (aCons (cVar 0) aNil)) (cOp opGe (cVar 0) (cC (.int 0)))))
noncomputable def x2 : DefX := ⟨d2, ["thing"], ["thing"], c2⟩
noncomputable def c3 : SC := (sRet (cAnd (cCall 1 (aCons (cVar 0) aNil)) (cChain opLe opLt (cC (.int 0)) (cVar 0) (cVar 1))))
noncomputable def x3 : DefX := ⟨d3, ["thing", "many"], ["thing", "many"], c3⟩
noncomputable def c4 : SC := (sRet (cAnd (cIsI false false false false true false (cVar 0)) (cOp (opEq false) (cLen (cVar 0)) (cVar 1))))
noncomputable def x4 : DefX := ⟨d4, ["thing", "many"], ["thing", "many"], c4⟩
noncomputable def c5 : SC := (sSeq (sIf (cNot (cCall 2 (aCons (cVar 0) aNil))) (sRaise 0) sNil) (sRet (cVar 0)))
noncomputable def x5 : DefX := ⟨d5, ["thing"], ["thing"], c5⟩
noncomputable def c6 : SC := (sSeq (sIf (cOr (cNot (cCall 2 (aCons (cVar 0) aNil))) (cOp (opEq false) (cVar 0) (cC (.int 0)))) (sRaise 0) sNil) (sRet (cVar 0)))
noncomputable def x6 : DefX := ⟨d6, ["thing"], ["thing"], c6⟩
noncomputable def c7 : SC := (sSeq (sIf (cNot (cCall 3 (aCons (cVar 0) (aCons (cVar 1) aNil)))) (sRaise 0) sNil) (sRet (cVar 0)))
noncomputable def x7 : DefX := ⟨d7, ["thing", "many"], ["thing", "many"], c7⟩
noncomputable def c8 : SC := (sSeq (sAsg (gN 1) (cCall 0 (aCons (cVar 0) aNil))) (sSeq (sIf (cNot (cIsI false false false false true false (cVar 1))) (sRaise 0) sNil) (sRet (cVar 1))))
noncomputable def x8 : DefX := ⟨d8, ["thing", "own"], ["thing"], c8⟩
noncomputable def c9 : SC := (sSeq (sIf (cOr (cNot (cIsI false false false false true false (cVar 0))) (cOr (cOp (opEq false) (cVar 0) (cTup aNil)) (cNot (cAllL (lComp [3] (wSeq (cVar 0)) (gN 3) none (cCall 3 (aCons (cVar 3) (aCons (cLen (cVar 0)) aNil)))))))) (sRet (cC (.bl false))) sNil) (sSeq (sAsg (gN 1) (cAll_ (lDisp aNil))) (sSeq (sFor (wEnum (cVar 0)) (gT (gsCons (gN 2) (gsCons (gN 3) gsNil))) (sSeq (sIf (cOr (cOp (opEq true) (cIdx (cVar 0) (cVar 3)) (cVar 2)) (cAnd (cOp (opEq false) (cVar 3) (cVar 2)) (cOp (opEq true) (cVar 1) (cAll_ (lDisp aNil))))) (sRet (cC (.bl false))) sNil) (sIf (cOp opGt (cVar 3) (cVar 2)) (sExpr (cApp (cVar 1) (cVar 3))) (sIf (cAnd (cOp opLt (cVar 3) (cVar 2)) (cOp (opEq true) (cPop (cVar 1)) (cVar 2))) (sRet (cC (.bl false))) sNil)))) (sRet (cC (.bl true))))))
noncomputable def x9 : DefX := ⟨d9, ["thing", "ends", "place", "own"], ["thing"], c9⟩
noncomputable def c10 : SC := (sSeq (sAsg (gN 1) (cCall 0 (aCons (cVar 0) aNil))) (sSeq (sIf (cNot (cCall 9 (aCons (cVar 1) aNil))) (sRaise 0) sNil) (sRet (cVar 1))))
noncomputable def x10 : DefX := ⟨d10, ["value", "own"], ["value"], c10⟩
noncomputable def c11 : SC := (sRet (cLenL (lComp [1, 2] (wEnum (cVar 0)) (gT (gsCons (gN 1) (gsCons (gN 2) gsNil))) (some (cOp opGt (cVar 2) (cVar 1))) (cVar 1))))
noncomputable def x11 : DefX := ⟨d11, ["half", "place", "own"], ["half"], c11⟩
noncomputable def c12 : SC := (sRet (cTupL (lComp [1, 2] (wEnum (cVar 0)) (gT (gsCons (gN 1) (gsCons (gN 2) gsNil))) (some (cOp (opEq false) (cVar 2) (cVar 1))) (cVar 1))))
noncomputable def x12 : DefX := ⟨d12, ["half", "place", "own"], ["half"], c12⟩
noncomputable def c13 : SC := (sRet (cTupL (lComp [1, 2] (wEnum (cVar 0)) (gT (gsCons (gN 1) (gsCons (gN 2) gsNil))) none (cIf (cOp opLt (cVar 2) (cVar 1)) (cNeg (cC (.int 1))) (cC (.int 1))))))
noncomputable def x13 : DefX := ⟨d13, ["half", "place", "own"], ["half"], c13⟩
noncomputable def c14 : SC := (sSeq (sPar (gsCons (gN 1) (gsCons (gN 2) gsNil)) (aCons (cAll_ (lRg (wRng1 (cLen (cVar 0))))) (aCons (cAll_ (lDisp aNil)) aNil))) (sSeq (sFor (wEnum (cVar 0)) (gT (gsCons (gN 3) (gsCons (gN 4) gsNil))) (sIf (cOp (opEq false) (cVar 4) (cC (.int 1))) (sExpr (cApp (cVar 2) (cVar 3))) (sSeq (sAsg (gN 5) (cPop (cVar 2))) (sSub2 (cVar 1) (cVar 5) (cVar 1) (cVar 3) (cTup (aCons (cVar 3) (aCons (cVar 5) aNil))))))) (sRet (cTupQ (cVar 1)))))
noncomputable def x14 : DefX := ⟨d14, ["row", "found", "ends", "place", "own", "there"], ["row"], c14⟩
noncomputable def c15 : SC := (sSeq (sAsg (gN 2) (cAll_ (lDisp (aCons (cTup (aCons (cTup aNil) (aCons (cC (.int 0)) aNil))) aNil)))) (sSeq (sFor (wRng1 (cVar 0)) (gN 3) (sSeq (sAsg (gN 4) (cAll_ (lDisp aNil))) (sSeq (sFor (wSeq (cVar 2)) (gT (gsCons (gN 5) (gsCons (gN 6) gsNil))) (sSeq (sIf (cOp opLt (cOp opSub (cVar 3) (cVar 6)) (cOp opSub (cVar 0) (cVar 1))) (sExpr (cApp (cVar 4) (cTup (aCons (cOp opAdd (cVar 5) (cTup (aCons (cC (.int 1)) aNil))) (aCons (cVar 6) aNil))))) sNil) (sIf (cAnd (cOp opLt (cVar 6) (cVar 1)) (cOp opLt (cOp opMul (cC (.int 2)) (cVar 6)) (cVar 3))) (sExpr (cApp (cVar 4) (cTup (aCons (cOp opAdd (cVar 5) (cTup (aCons (cNeg (cC (.int 1))) aNil))) (aCons (cOp opAdd (cVar 6) (cC (.int 1))) aNil))))) sNil))) (sAsg (gN 2) (cVar 4))))) (sRet (cAll_ (lComp [5, 6] (wSeq (cVar 2)) (gT (gsCons (gN 5) (gsCons (gN 6) gsNil))) (some (cOp (opEq false) (cVar 6) (cVar 1))) (cVar 5))))))
noncomputable def x15 : DefX := ⟨d15, ["n", "many", "found", "place", "later", "row", "downs"], ["n", "many"], c15⟩
noncomputable def c16 : SC := (sRet (cAll_ (lSortL (lComp [2] (wSeq (cCall 15 (aCons (cVar 0) (aCons (cVar 1) aNil)))) (gN 2) none (cCall 14 (aCons (cVar 2) aNil))))))
noncomputable def x16 : DefX := ⟨d16, ["n", "many", "row"], ["n", "many"], c16⟩
noncomputable def c17 : SC := (sSeq (sAsg (gN 2) (cC (.int 1))) (sSeq (sFor (wRng1 (cVar 1)) (gN 3) (sAsg (gN 2) (cOp opDiv (cOp opMul (cVar 2) (cOp opSub (cVar 0) (cVar 3))) (cOp opAdd (cVar 3) (cC (.int 1)))))) (sRet (cVar 2))))
noncomputable def x17 : DefX := ⟨d17, ["many", "few", "found", "lap"], ["many", "few"], c17⟩
noncomputable def c18 : SC := (sSeq (sIf (cOp opGt (cOp opMul (cC (.int 2)) (cVar 1)) (cVar 0)) (sRet (cC (.int 0))) sNil) (sRet (cOp opSub (cCall 17 (aCons (cVar 0) (aCons (cVar 1) aNil))) (cIf (cOp opGt (cVar 1) (cC (.int 0))) (cCall 17 (aCons (cVar 0) (aCons (cOp opSub (cVar 1) (cC (.int 1))) aNil))) (cC (.int 0))))))
noncomputable def x18 : DefX := ⟨d18, ["n", "many"], ["n", "many"], c18⟩
noncomputable def c19 : SC := (sSeq (sPar (gsCons (gN 3) (gsCons (gN 4) gsNil)) (aCons (cAll_ (lDisp (aCons (cVar 2) aNil))) (aCons (cVar 2) aNil))) (sSeq (sWhile (cOp (opEq true) (cIdx (cVar 1) (cVar 4)) (cVar 4)) (sSeq (sAsg (gN 4) (cIdx (cVar 1) (cVar 4))) (sSeq (sExpr (cApp (cVar 3) (cVar 4))) (sSeq (sIf (cOp (opInU false) (cIdx (cVar 0) (cVar 4)) (cTup (aCons (cVar 4) (aCons (cVar 2) aNil)))) (sRet (cTup (aCons (cVar 3) (aCons (cC (.bl false)) aNil)))) sNil) (sSeq (sAsg (gN 4) (cIdx (cVar 0) (cVar 4))) (sExpr (cApp (cVar 3) (cVar 4)))))))) (sRet (cTup (aCons (cVar 3) (aCons (cC (.bl true)) aNil))))))
noncomputable def x19 : DefX := ⟨d19, ["one", "other", "start", "row", "here"], ["one", "other", "start"], c19⟩
noncomputable def c20 : SC := (sSeq (sPar (gsCons (gN 3) (gsCons (gN 4) (gsCons (gN 5) gsNil))) (aCons cDnew (aCons (cC (.int 0)) (aCons (cC (.int 0)) aNil)))) (sSeq (sFor (wSeq (cCall 12 (aCons (cVar 0) aNil))) (gN 2) (sSeq (sAsg (gT (gsCons (gN 6) (gsCons (gN 7) gsNil))) (cCall 19 (aCons (cVar 0) (aCons (cVar 1) (aCons (cVar 2) aNil))))) (sSeq (sExpr (cCall 21 (aCons (cVar 3) (aCons (cVar 6) aNil)))) (sAug 4 opAddI (cInt (cVar 7)))))) (sSeq (sFor (wSeq (cCall 12 (aCons (cVar 1) aNil))) (gN 2) (sExpr (cCall 21 (aCons (cVar 3) (aCons (cIdx (cCall 19 (aCons (cVar 1) (aCons (cVar 0) (aCons (cVar 2) aNil)))) (cC (.int 0))) aNil))))) (sSeq (sFor (wRng1 (cLen (cVar 0))) (gN 2) (sIf (cOp (opInU true) (cVar 2) (cVar 3)) (sSeq (sExpr (cCall 21 (aCons (cVar 3) (aCons (cIdx (cCall 19 (aCons (cVar 0) (aCons (cVar 1) (aCons (cVar 2) aNil)))) (cC (.int 0))) aNil)))) (sAug 5 opAddI (cC (.int 1)))) sNil)) (sRet (cTup (aCons (cVar 5) (aCons (cVar 4) aNil))))))))
noncomputable def x20 : DefX := ⟨d20, ["one", "other", "start", "seen", "joined", "rounds", "row", "is_open"], ["one", "other"], c20⟩
noncomputable def c21 : SC := (sFor (wSeq (cVar 1)) (gN 2) (sSub (cVar 0) (cVar 2) (cC (.bl true))))
noncomputable def x21 : DefX := ⟨d21, ["seen", "row", "place"], ["seen", "row"], c21⟩
noncomputable def c22 : SC := (sRet (cOp opDiv (cLen (cVar 0)) (cC (.int 2))))
noncomputable def x22 : DefX := ⟨d22, ["drawing"], ["drawing"], c22⟩
noncomputable def c23 : SC := (sRet (cTupRgD (cOp opSub (cOp opMul (cC (.int 2)) (cVar 0)) (cC (.int 1))) (cNeg (cC (.int 1)))))
noncomputable def x23 : DefX := ⟨d23, ["n"], ["n"], c23⟩
noncomputable def c24 : SC := (sSeq (sAsg (gN 2) (cAll_ (lList (cCall 23 (aCons (cVar 0) aNil))))) (sSeq (sAsg (gN 3) (cOp opSub (cOp opSub (cOp opMul (cC (.int 2)) (cVar 0)) (cC (.int 1))) (cVar 1))) (sSeq (sSub2 (cVar 2) (cVar 1) (cVar 2) (cOp opAdd (cVar 1) (cC (.int 1))) (cTup (aCons (cOp opAdd (cVar 1) (cC (.int 1))) (aCons (cVar 1) aNil)))) (sSeq (sSub2 (cVar 2) (cVar 3) (cVar 2) (cOp opSub (cVar 3) (cC (.int 1))) (cTup (aCons (cOp opSub (cVar 3) (cC (.int 1))) (aCons (cVar 3) aNil)))) (sRet (cTupQ (cVar 2)))))))
noncomputable def x24 : DefX := ⟨d24, ["n", "place", "found", "below"], ["n", "place"], c24⟩
noncomputable def c25 : SC := (sSeq (sAsg (gN 1) (cCall 22 (aCons (cVar 0) aNil))) (sRet (cTupL (lComp [2, 3] (wEnum (cSl (cVar 0) none (some (cVar 1)))) (gT (gsCons (gN 2) (gsCons (gN 3) gsNil))) none (cIf (cOp opLt (cVar 3) (cVar 1)) (cVar 3) (cVar 2))))))
noncomputable def x25 : DefX := ⟨d25, ["drawing", "n", "place", "own"], ["drawing"], c25⟩
noncomputable def c26 : SC := (sRet (cTupL (lComp [1] (wSeq (cRev (cVar 0))) (gN 1) none (cOp opSub (cOp opSub (cLen (cVar 0)) (cC (.int 1))) (cVar 1)))))
noncomputable def x26 : DefX := ⟨d26, ["drawing", "own"], ["drawing"], c26⟩
noncomputable def c27 : SC := (sRet (cCall 25 (aCons (cCall 26 (aCons (cVar 0) aNil)) aNil)))
noncomputable def x27 : DefX := ⟨d27, ["drawing"], ["drawing"], c27⟩
noncomputable def c28 : SC := (sSeq (sPar (gsCons (gN 3) (gsCons (gN 4) gsNil)) (aCons (cCall 22 (aCons (cVar 0) aNil)) (aCons (cAll_ (lDisp aNil)) aNil))) (sSeq (sFor (wRng1 (cVar 3)) (gN 2) (sSeq (sAsg (gN 5) (cIdx (cVar 0) (cVar 2))) (sSeq (sWhile (cAnd (cOp opGe (cVar 5) (cVar 3)) (cOp (opEq true) (cIdx (cVar 1) (cOp opSub (cOp opSub (cOp opMul (cC (.int 2)) (cVar 3)) (cC (.int 1))) (cVar 5))) (cOp opSub (cOp opSub (cOp opMul (cC (.int 2)) (cVar 3)) (cC (.int 1))) (cVar 5)))) (sAsg (gN 5) (cIdx (cVar 0) (cOp opSub (cOp opSub (cOp opMul (cC (.int 2)) (cVar 3)) (cC (.int 1))) (cIdx (cVar 1) (cOp opSub (cOp opSub (cOp opMul (cC (.int 2)) (cVar 3)) (cC (.int 1))) (cVar 5))))))) (sExpr (cApp (cVar 4) (cIf (cOp opGe (cVar 5) (cVar 3)) (cVar 2) (cVar 5))))))) (sRet (cTup (aCons (cIdx (cCall 20 (aCons (cCall 27 (aCons (cVar 0) aNil)) (aCons (cVar 1) aNil))) (cC (.int 0))) (aCons (cTupQ (cVar 4)) aNil))))))
noncomputable def x28 : DefX := ⟨d28, ["drawing", "half", "place", "n", "found", "there"], ["drawing", "half"], c28⟩
noncomputable def c29 : SC := (sRet (cAnd (cCall 1 (aCons (cVar 0) aNil)) (cOr (cOp (opEq false) (cVar 0) (cC (.int 0))) (cOp (opInU false) (cVar 0) (cC (.tup [.int 2, .int 3, .int 5, .int 7, .int 11, .int 13, .int 17, .int 19, .int 23, .int 29, .int 31]))))))
noncomputable def x29 : DefX := ⟨d29, ["thing"], ["thing"], c29⟩
noncomputable def c30 : SC := (sSeq (sPar (gsCons (gN 2) (gsCons (gN 3) gsNil)) (aCons (cAbs (cVar 0)) (aCons (cAbs (cVar 1)) aNil))) (sSeq (sWhile (cOp (opEq true) (cVar 3) (cC (.int 0))) (sPar (gsCons (gN 2) (gsCons (gN 3) gsNil)) (aCons (cVar 3) (aCons (cOp opMod (cVar 2) (cVar 3)) aNil)))) (sRet (cVar 2))))
noncomputable def x30 : DefX := ⟨d30, ["one", "other", "near", "far"], ["one", "other"], c30⟩
noncomputable def c31 : SC := (sSeq (sIf (cOr (cNot (cCall 4 (aCons (cVar 1) (aCons (cC (.int 2)) aNil)))) (cOr (cNot (cCall 1 (aCons (cIdx (cVar 1) (cC (.int 0))) aNil))) (cNot (cCall 1 (aCons (cIdx (cVar 1) (cC (.int 1))) aNil))))) (sRet (cC (.bl false))) sNil) (sSeq (sIf (cOp opGt (cVar 0) (cC (.int 0))) (sRet (cAnd (cOp (opEq false) (cIdx (cVar 1) (cC (.int 1))) (cC (.int 1))) (cChain opLe opLt (cC (.int 0)) (cIdx (cVar 1) (cC (.int 0))) (cVar 0)))) sNil) (sRet (cAnd (cOp opGt (cIdx (cVar 1) (cC (.int 1))) (cC (.int 0))) (cOp (opEq false) (cCall 30 (aCons (cIdx (cVar 1) (cC (.int 0))) (aCons (cIdx (cVar 1) (cC (.int 1))) aNil))) (cC (.int 1)))))))
noncomputable def x31 : DefX := ⟨d31, ["field", "thing"], ["field", "thing"], c31⟩
noncomputable def c32 : SC := (sSeq (sAsg (gN 2) (cC (.int 1))) (sSeq (sFor (wRng1 (cOp opSub (cVar 0) (cC (.int 2)))) (gN 3) (sAsg (gN 2) (cOp opMod (cOp opMul (cVar 2) (cVar 1)) (cVar 0)))) (sRet (cOp opMod (cVar 2) (cVar 0)))))
noncomputable def x32 : DefX := ⟨d32, ["field", "number", "found", "_"], ["field", "number"], c32⟩
noncomputable def c33 : SC := (sSeq (sIf (cOp opGt (cVar 0) (cC (.int 0))) (sRet (cTup (aCons (cOp opMod (cOp opMul (cVar 1) (cCall 32 (aCons (cVar 0) (aCons (cVar 2) aNil)))) (cVar 0)) (aCons (cC (.int 1)) aNil)))) sNil) (sSeq (sAsg (gN 3) (cIf (cOp opGt (cVar 2) (cC (.int 0))) (cCall 30 (aCons (cVar 1) (aCons (cVar 2) aNil))) (cOp opSub (cC (.int 0)) (cCall 30 (aCons (cVar 1) (aCons (cVar 2) aNil)))))) (sRet (cTup (aCons (cOp opDiv (cVar 1) (cVar 3)) (aCons (cOp opDiv (cVar 2) (cVar 3)) aNil))))))
noncomputable def x33 : DefX := ⟨d33, ["field", "top", "bottom", "many"], ["field", "top", "bottom"], c33⟩
noncomputable def c34 : SC := (sSeq (sIf (cOp opGt (cVar 0) (cC (.int 0))) (sRet (cTup (aCons (cOp opMod (cOp opAdd (cIdx (cVar 1) (cC (.int 0))) (cIdx (cVar 2) (cC (.int 0)))) (cVar 0)) (aCons (cC (.int 1)) aNil)))) sNil) (sRet (cCall 33 (aCons (cC (.int 0)) (aCons (cOp opAdd (cOp opMul (cIdx (cVar 1) (cC (.int 0))) (cIdx (cVar 2) (cC (.int 1)))) (cOp opMul (cIdx (cVar 2) (cC (.int 0))) (cIdx (cVar 1) (cC (.int 1))))) (aCons (cOp opMul (cIdx (cVar 1) (cC (.int 1))) (cIdx (cVar 2) (cC (.int 1)))) aNil))))))
noncomputable def x34 : DefX := ⟨d34, ["field", "one", "other"], ["field", "one", "other"], c34⟩
noncomputable def c35 : SC := (sSeq (sIf (cOp opGt (cVar 0) (cC (.int 0))) (sRet (cTup (aCons (cOp opMod (cOp opMul (cIdx (cVar 1) (cC (.int 0))) (cIdx (cVar 2) (cC (.int 0)))) (cVar 0)) (aCons (cC (.int 1)) aNil)))) sNil) (sRet (cCall 33 (aCons (cC (.int 0)) (aCons (cOp opMul (cIdx (cVar 1) (cC (.int 0))) (cIdx (cVar 2) (cC (.int 0)))) (aCons (cOp opMul (cIdx (cVar 1) (cC (.int 1))) (cIdx (cVar 2) (cC (.int 1)))) aNil))))))
noncomputable def x35 : DefX := ⟨d35, ["field", "one", "other"], ["field", "one", "other"], c35⟩
noncomputable def c36 : SC := (sSeq (sAsg (gN 3) (cC (.tup [.int 1, .int 1]))) (sSeq (sFor (wRng1 (cVar 2)) (gN 4) (sAsg (gN 3) (cCall 35 (aCons (cVar 0) (aCons (cVar 3) (aCons (cVar 1) aNil)))))) (sRet (cVar 3))))
noncomputable def x36 : DefX := ⟨d36, ["field", "one", "many", "found", "_"], ["field", "one", "many"], c36⟩
noncomputable def c37 : SC := (sRet (cAll_ (lComp [2] (wRng1 (cVar 1)) (gN 2) none (cAll_ (lComp [3] (wSeq (cVar 0)) (gN 3) none (cIdx (cVar 3) (cVar 2)))))))
noncomputable def x37 : DefX := ⟨d37, ["rows", "width", "place", "row"], ["rows", "width"], c37⟩
noncomputable def c38 : SC := (sSeq (sIf (cOr (cNot (cCall 4 (aCons (cVar 0) (aCons (cC (.int 3)) aNil)))) (cOr (cNot (cCall 1 (aCons (cIdx (cVar 0) (cC (.int 0))) aNil))) (cOp opLt (cIdx (cVar 0) (cC (.int 0))) (cC (.int 1))))) (sRet (cC (.bl false))) sNil) (sRet (cAnd (cCall 29 (aCons (cIdx (cVar 0) (cC (.int 1))) aNil)) (cCall 31 (aCons (cIdx (cVar 0) (cC (.int 1))) (aCons (cIdx (cVar 0) (cC (.int 2))) aNil))))))
noncomputable def x38 : DefX := ⟨d38, ["thing"], ["thing"], c38⟩
noncomputable def c39 : SC := (sSeq (sAsg (gN 1) (cCall 0 (aCons (cVar 0) aNil))) (sSeq (sIf (cNot (cCall 38 (aCons (cVar 1) aNil))) (sRaise 0) sNil) (sRet (cVar 1))))
noncomputable def x39 : DefX := ⟨d39, ["thing", "own"], ["thing"], c39⟩
noncomputable def c40 : SC := (sRet (cCall 36 (aCons (cIdx (cVar 0) (cC (.int 1))) (aCons (cIdx (cVar 0) (cC (.int 2))) (aCons (cVar 1) aNil)))))
noncomputable def x40 : DefX := ⟨d40, ["ground", "rounds"], ["ground", "rounds"], c40⟩
noncomputable def c41 : SC := (sRet (cCall 7 (aCons (cVar 1) (aCons (cOp opAdd (cOp opDiv (cVar 0) (cC (.int 2))) (cC (.int 1))) aNil))))
noncomputable def x41 : DefX := ⟨d41, ["n", "caps"], ["n", "caps"], c41⟩
noncomputable def c42 : SC := (sSeq (sPar (gsCons (gN 5) (gsCons (gN 6) gsNil)) (aCons (cIdx (cVar 0) (cC (.int 1))) (aCons (cCall 11 (aCons (cVar 3) aNil)) aNil))) (sSeq (sAsg (gN 4) (cOp opMul (cAll_ (lDisp (aCons (cC (.tup [.int 0, .int 1])) aNil))) (cLen (cVar 1)))) (sSeq (sFor (wSeq (cVar 2)) (gT (gsCons (gN 7) (gsCons (gN 8) gsNil))) (sSeq (sAsg (gT (gsCons (gN 9) (gsCons (gN 10) gsNil))) (cCall 28 (aCons (cVar 7) (aCons (cVar 3) aNil)))) (sIf (cOp (opEq false) (cCall 11 (aCons (cVar 10) aNil)) (cVar 6)) (sSeq (sAsg (gN 11) (cIndex (cVar 1) (cVar 10))) (sSub (cVar 4) (cVar 11) (cCall 34 (aCons (cVar 5) (aCons (cIdx (cVar 4) (cVar 11)) (aCons (cCall 35 (aCons (cVar 5) (aCons (cVar 8) (aCons (cCall 40 (aCons (cVar 0) (aCons (cVar 9) aNil))) aNil)))) aNil)))))) sNil))) (sRet (cVar 4)))))
noncomputable def x42 : DefX := ⟨d42, ["ground", "lots", "one", "half", "found", "field", "caps", "drawing", "number", "rounds", "far", "place"], ["ground", "lots", "one", "half"], c42⟩
noncomputable def c43 : SC := (sSeq (sAsg (gN 3) (cCall 16 (aCons (cIdx (cVar 0) (cC (.int 0))) (aCons (cVar 1) aNil)))) (sRet (cAll_ (lComp [4] (wSeq (cVar 3)) (gN 4) none (cCall 42 (aCons (cVar 0) (aCons (cVar 3) (aCons (cVar 2) (aCons (cVar 4) aNil)))))))))
noncomputable def x43 : DefX := ⟨d43, ["ground", "caps", "one", "lots", "half"], ["ground", "caps", "one"], c43⟩
noncomputable def c44 : SC := (sSeq (sAsg (gN 3) (cCall 43 (aCons (cVar 0) (aCons (cVar 1) (aCons (cVar 2) aNil))))) (sRet (cTupL (lComp [4] (wSeq (cCall 37 (aCons (cVar 3) (aCons (cLen (cVar 3)) aNil)))) (gN 4) none (cTupQ (cVar 4))))))
noncomputable def x44 : DefX := ⟨d44, ["ground", "caps", "one", "columns", "row"], ["ground", "caps", "one"], c44⟩
noncomputable def c45 : SC := (sSeq (sPar (gsCons (gN 2) (gsCons (gN 3) gsNil)) (aCons (cAll_ (lDisp aNil)) (aCons (cC (.int 0)) aNil))) (sSeq (sFor (wSeq (cCall 13 (aCons (cCall 10 (aCons (cVar 0) aNil)) aNil))) (gN 1) (sSeq (sAsg (gN 3) (cOp opAdd (cVar 3) (cVar 1))) (sExpr (cApp (cVar 2) (cVar 3))))) (sRet (cTupQ (cVar 2)))))
noncomputable def x45 : DefX := ⟨d45, ["half", "own", "found", "now"], ["half"], c45⟩
noncomputable def c46 : SC := (sSeq (sAsg (gN 1) (cCall 8 (aCons (cVar 0) aNil))) (sSeq (sIf (cOr (cOp (opEq false) (cVar 1) (cTup aNil)) (cNot (cAllL (lComp [5] (wSeq (cVar 1)) (gN 5) none (cCall 2 (aCons (cVar 5) aNil)))))) (sRaise 0) sNil) (sSeq (sAsg (gN 2) (cAll_ (lComp [3, 4] (wZip (cOp opAdd (cTup (aCons (cC (.int 0)) aNil)) (cVar 1)) (cVar 1)) (gT (gsCons (gN 3) (gsCons (gN 4) gsNil))) none (cOp opSub (cVar 4) (cVar 3))))) (sSeq (sIf (cNot (cAllL (lComp [5] (wSeq (cVar 2)) (gN 5) none (cOp (opInU false) (cVar 5) (cTup (aCons (cC (.int 1)) (aCons (cNeg (cC (.int 1))) aNil))))))) (sRaise 0) sNil) (sRet (cCall 14 (aCons (cVar 2) aNil)))))))
noncomputable def x46 : DefX := ⟨d46, ["row", "own", "walk", "near", "far", "number"], ["row"], c46⟩
noncomputable def c47 : SC := (sSeq (sAsg (gN 2) (cCall 6 (aCons (cVar 0) aNil))) (sSeq (sAsg (gN 3) (cOp opSub (cVar 2) (cCall 5 (aCons (cVar 1) aNil)))) (sRet (cIf (cAnd (cOp opGe (cVar 3) (cC (.int 0))) (cOp (opEq false) (cOp opMod (cVar 3) (cC (.int 2))) (cC (.int 0)))) (cCall 18 (aCons (cVar 2) (aCons (cOp opDiv (cVar 3) (cC (.int 2))) aNil))) (cC (.int 0))))))
noncomputable def x47 : DefX := ⟨d47, ["n", "many", "size", "left"], ["n", "many"], c47⟩
noncomputable def c48 : SC := (sSeq (sAsg (gN 1) (cCall 10 (aCons (cVar 0) aNil))) (sSeq (sIf (cOp (opEq false) (cLen (cVar 1)) (cC (.int 1))) (sRaise 0) sNil) (sSeq (sAsg (gN 2) (cOp opSub (cLen (cVar 1)) (cC (.int 1)))) (sRet (cTupL (lComp [3, 4] (wEnum (cSl (cVar 1) none (some (cVar 2)))) (gT (gsCons (gN 3) (gsCons (gN 4) gsNil))) none (cIf (cOp (opEq false) (cVar 4) (cVar 2)) (cVar 3) (cVar 4))))))))
noncomputable def x48 : DefX := ⟨d48, ["half", "own", "last", "place", "far"], ["half"], c48⟩
noncomputable def c49 : SC := (sSeq (sAsg (gN 1) (cCall 10 (aCons (cVar 0) aNil))) (sRet (cOp opAdd (cVar 1) (cTup (aCons (cLen (cVar 1)) aNil)))))
noncomputable def x49 : DefX := ⟨d49, ["half", "own"], ["half"], c49⟩
noncomputable def c50 : SC := (sSeq (sAsg (gN 1) (cCall 10 (aCons (cVar 0) aNil))) (sSeq (sAsg (gN 2) (cCall 12 (aCons (cVar 1) aNil))) (sSeq (sIf (cOp (opEq false) (cVar 2) (cTup aNil)) (sRaise 0) sNil) (sRet (cOp opAdd (cOp opAdd (cOp opAdd (cSl (cVar 1) none (some (cIdx (cVar 2) (cNeg (cC (.int 1)))))) (cTup (aCons (cLen (cVar 1)) aNil))) (cSl (cVar 1) (some (cOp opAdd (cIdx (cVar 2) (cNeg (cC (.int 1)))) (cC (.int 1)))) none)) (cTup (aCons (cIdx (cVar 2) (cNeg (cC (.int 1)))) aNil)))))))
noncomputable def x50 : DefX := ⟨d50, ["half", "own", "free"], ["half"], c50⟩
noncomputable def c51 : SC := (sRet (cTupL (lComp [3] (wSeq (cVar 1)) (gN 3) none (cTupL (lComp [4] (wSeq (cVar 2)) (gN 4) none (cIdx (cIdx (cVar 0) (cVar 3)) (cVar 4)))))))
noncomputable def x51 : DefX := ⟨d51, ["rows", "high", "wide", "place", "at"], ["rows", "high", "wide"], c51⟩
noncomputable def c52 : SC := (sSeq (sAsg (gN 3) (cCall 39 (aCons (cVar 0) aNil))) (sSeq (sAsg (gN 4) (cCall 41 (aCons (cIdx (cVar 3) (cC (.int 0))) (aCons (cVar 1) aNil)))) (sSeq (sIf (cOp (opEq false) (cIdx (cVar 3) (cC (.int 0))) (cC (.int 1))) (sRaise 0) sNil) (sSeq (sAsg (gN 5) (cCall 24 (aCons (cIdx (cVar 3) (cC (.int 0))) (aCons (cCall 7 (aCons (cVar 2) (aCons (cOp opSub (cIdx (cVar 3) (cC (.int 0))) (cC (.int 2))) aNil))) aNil)))) (sSeq (sAsg (gT (gsCons (gN 9) (gsCons (gN 10) gsNil))) (cTup (aCons (cCall 44 (aCons (cVar 3) (aCons (cVar 4) (aCons (cTup (aCons (cTup (aCons (cVar 5) (aCons (cC (.tup [.int 1, .int 1])) aNil))) aNil)) aNil)))) (aCons (cOp opSub (cIdx (cVar 3) (cC (.int 0))) (cC (.int 1))) aNil)))) (sSeq (sAsg (gN 6) (cCall 16 (aCons (cIdx (cVar 3) (cC (.int 0))) (aCons (cVar 4) aNil)))) (sSeq (sAsg (gN 7) (cAll_ (lComp [11, 12] (wEnum (cVar 6)) (gT (gsCons (gN 11) (gsCons (gN 12) gsNil))) (some (cOp (opEq false) (cIdx (cVar 12) (cVar 10)) (cVar 10))) (cVar 11)))) (sSeq (sAsg (gN 8) (cAll_ (lComp [11, 12] (wEnum (cVar 6)) (gT (gsCons (gN 11) (gsCons (gN 12) gsNil))) (some (cOp (opEq true) (cIdx (cVar 12) (cVar 10)) (cVar 10))) (cVar 11)))) (sRet (cTup (aCons (cCall 51 (aCons (cVar 9) (aCons (cVar 7) (aCons (cVar 7) aNil)))) (aCons (cCall 51 (aCons (cVar 9) (aCons (cVar 7) (aCons (cVar 8) aNil)))) (aCons (cCall 51 (aCons (cVar 9) (aCons (cVar 8) (aCons (cVar 8) aNil)))) aNil)))))))))))))
noncomputable def x52 : DefX := ⟨d52, ["ground", "caps", "place", "own", "many", "turn", "lots", "near", "far", "rows", "last", "number", "half"], ["ground", "caps", "place"], c52⟩
noncomputable def c53 : SC := (sRet (cIf (cIsI false false false false true true (cVar 0)) (cAll_ (lComp [1] (wSeq (cVar 0)) (gN 1) none (cCall 53 (aCons (cVar 1) aNil)))) (cVar 0)))
noncomputable def x53 : DefX := ⟨d53, ["matter", "bit"], ["matter"], c53⟩
noncomputable def c54 : SC := (sSeq (sIf (cIsI false false false false true true (cVar 1)) (sSeq (sIf (cOr (cOp (opEq true) (cIsI false false false false false true (cVar 0)) (cIsI false false false false false true (cVar 1))) (cOp (opEq true) (cIsI false false false false true false (cVar 0)) (cIsI false false false false true false (cVar 1)))) (sRet (cC (.bl false))) sNil) (sRet (cAnd (cOp (opEq false) (cLen (cVar 0)) (cLen (cVar 1))) (cAllL (lComp [2, 3] (wZip (cVar 0) (cVar 1)) (gT (gsCons (gN 2) (gsCons (gN 3) gsNil))) none (cCall 54 (aCons (cVar 2) (aCons (cVar 3) aNil)))))))) sNil) (sSeq (sIf (cOr (cOp (opIsN false) (cVar 1) (cC .non)) (cIsI false true false true false false (cVar 1))) (sRet (cAnd (cOp (opEq false) (cVar 0) (cVar 1)) (cAnd (cOp (opEq false) (cIsI false true false false false false (cVar 0)) (cIsI false true false false false false (cVar 1))) (cOp (opEq false) (cIsI false false false true false false (cVar 0)) (cIsI false false false true false false (cVar 1)))))) sNil) (sRet (cAnd (cIsI false true true false false false (cVar 0)) (cAnd (cNot (cIsI false true false false false false (cVar 0))) (cOp (opEq false) (cVar 0) (cVar 1)))))))
noncomputable def x54 : DefX := ⟨d54, ["got", "due", "mine", "its"], ["got", "due"], c54⟩
noncomputable def c55 : SC := (sSeq (sAsg (gN 4) (cC .non)) (sSeq (sTry (sIf (cOp opLt (cVar 0) (cC (.int 4))) (sAsg (gN 4) (cIf (cOp (opEq false) (cVar 0) (cC (.int 0))) (cCall 45 (aCons (cVar 1) aNil)) (cIf (cOp (opEq false) (cVar 0) (cC (.int 1))) (cCall 46 (aCons (cVar 1) aNil)) (cIf (cOp (opEq false) (cVar 0) (cC (.int 2))) (cCall 48 (aCons (cVar 1) aNil)) (cCall 49 (aCons (cVar 1) aNil)))))) (sAsg (gN 4) (cIf (cOp (opEq false) (cVar 0) (cC (.int 4))) (cCall 50 (aCons (cVar 1) aNil)) (cIf (cOp (opEq false) (cVar 0) (cC (.int 5))) (cCall 47 (aCons (cVar 1) (aCons (cVar 2) aNil))) (cCall 52 (aCons (cVar 1) (aCons (cVar 2) (aCons (cVar 3) aNil)))))))) (hUnf 5 4 "unfit")) (sRet (cVar 4))))
noncomputable def x55 : DefX := ⟨d55, ["door", "one", "two", "three", "found", "bad"], ["door", "one", "two", "three"], c55⟩
noncomputable def c56 : SC := (sSeq (sAsg (gN 0) (cAll_ (lDisp (aCons (cTup (aCons (cC (.int 0)) aNil)) (aCons (cTup (aCons (cC (.int 1)) (aCons (cC (.int 0)) aNil))) (aCons (cTup (aCons (cC (.int 0)) (aCons (cC (.int 1)) (aCons (cC (.int 2)) aNil)))) (aCons (cTup (aCons (cC (.int 3)) (aCons (cC (.int 2)) (aCons (cC (.int 1)) (aCons (cC (.int 0)) aNil))))) (aCons (cTup (aCons (cC (.int 1)) (aCons (cC (.int 0)) (aCons (cC (.int 3)) (aCons (cC (.int 2)) (aCons (cC (.int 4)) aNil)))))) (aCons (cTup (aCons (cC (.int 0)) (aCons (cC (.int 4)) (aCons (cC (.int 3)) (aCons (cC (.int 2)) (aCons (cC (.int 1)) aNil)))))) (aCons (cTup (aCons (cC (.int 5)) (aCons (cC (.int 2)) (aCons (cC (.int 1)) (aCons (cC (.int 4)) (aCons (cC (.int 3)) (aCons (cC (.int 0)) aNil))))))) aNil)))))))))) (sSeq (sAsg (gN 1) (cAll_ (lDisp (aCons (cTup (aCons (cC (.int 1)) aNil)) (aCons (cTup (aCons (cC (.int 1)) (aCons (cC (.int 0)) aNil))) (aCons (cTup (aCons (cC (.int 1)) (aCons (cC (.int 2)) (aCons (cC (.int 3)) aNil)))) (aCons (cTup (aCons (cC (.int 1)) (aCons (cC (.int 2)) (aCons (cC (.int 1)) (aCons (cC (.int 0)) aNil))))) (aCons (cTup (aCons (cC (.int 1)) (aCons (cC (.int 0)) (aCons (cC (.int 1)) (aCons (cC (.int 0)) (aCons (cC (.int 1)) aNil)))))) (aCons (cTup (aCons (cC (.int 1)) (aCons (cC (.int 2)) (aCons (cC (.int 3)) (aCons (cC (.int 2)) (aCons (cC (.int 1)) aNil)))))) (aCons (cTup (aCons (cC (.int 1)) (aCons (cC (.int 2)) (aCons (cC (.int 1)) (aCons (cC (.int 2)) (aCons (cC (.int 1)) (aCons (cC (.int 0)) aNil))))))) aNil)))))))))) (sSeq (sAsg (gN 2) (cAll_ (lDisp (aCons (cAll_ (lComp [3] (wSeq (cVar 0)) (gN 3) none (cCall 45 (aCons (cVar 3) aNil)))) (aCons (cAll_ (lComp [3] (wSeq (cVar 1)) (gN 3) none (cCall 46 (aCons (cVar 3) aNil)))) (aCons (cCall 45 (lPerm [0] (aCons (cAll_ (lDisp (aCons (cC (.int 1)) (aCons (cC (.int 0)) (aCons (cC (.int 2)) aNil))))) aNil))) (aCons (cCall 46 (lPerm [0] (aCons (cAll_ (lDisp (aCons (cC (.int 1)) (aCons (cC (.int 2)) (aCons (cC (.int 1)) aNil))))) aNil))) (aCons (cAll_ (lComp [4] (wRng1 (cC (.int 6))) (gN 4) none (cCall 47 (aCons (cC (.int 4)) (aCons (cVar 4) aNil))))) (aCons (cAll_ (lComp [4] (wRng1 (cC (.int 6))) (gN 4) none (cCall 47 (aCons (cC (.int 5)) (aCons (cVar 4) aNil))))) (aCons (cAll_ (lComp [4] (wSeq (cTup (aCons (cC (.int 0)) (aCons (cC (.int 2)) (aCons (cC (.int 4)) (aCons (cC (.int 6)) aNil)))))) (gN 4) none (cCall 47 (aCons (cC (.int 6)) (aCons (cVar 4) aNil))))) (aCons (cCall 47 (lPerm [0, 1] (aCons (cC (.int 1)) (aCons (cC (.int 1)) aNil)))) (aCons (cCall 47 (lPerm [1, 0] (aCons (cC (.int 0)) (aCons (cC (.int 1)) aNil)))) aNil)))))))))))) (sSeq (sIf (cNot (cCall 54 (aCons (cVar 2) (aCons (cAll_ (lDisp (aCons (cVar 1) (aCons (cVar 0) (aCons (cTup (aCons (cC (.int 1)) (aCons (cC (.int 0)) (aCons (cC (.int 1)) aNil)))) (aCons (cTup (aCons (cC (.int 0)) (aCons (cC (.int 2)) (aCons (cC (.int 1)) aNil)))) (aCons (cAll_ (lDisp (aCons (cC (.int 2)) (aCons (cC (.int 0)) (aCons (cC (.int 3)) (aCons (cC (.int 0)) (aCons (cC (.int 1)) (aCons (cC (.int 0)) aNil)))))))) (aCons (cAll_ (lDisp (aCons (cC (.int 0)) (aCons (cC (.int 5)) (aCons (cC (.int 0)) (aCons (cC (.int 4)) (aCons (cC (.int 0)) (aCons (cC (.int 1)) aNil)))))))) (aCons (cAll_ (lDisp (aCons (cC (.int 5)) (aCons (cC (.int 9)) (aCons (cC (.int 5)) (aCons (cC (.int 1)) aNil)))))) (aCons (cC (.int 1)) (aCons (cC (.int 0)) aNil))))))))))) aNil)))) (sRet (cC (.bl false))) sNil) (sSeq (sAsg (gN 0) (cAll_ (lDisp (aCons (cTup (aCons (cC (.int 1)) (aCons (cC (.int 0)) aNil))) (aCons (cTup (aCons (cC (.int 0)) (aCons (cC (.int 1)) aNil))) (aCons (cTup (aCons (cC (.int 3)) (aCons (cC (.int 2)) (aCons (cC (.int 1)) (aCons (cC (.int 0)) aNil))))) (aCons (cTup (aCons (cC (.int 1)) (aCons (cC (.int 0)) (aCons (cC (.int 2)) (aCons (cC (.int 4)) (aCons (cC (.int 3)) aNil)))))) (aCons (cTup (aCons (cC (.int 0)) (aCons (cC (.int 2)) (aCons (cC (.int 1)) (aCons (cC (.int 3)) aNil))))) aNil)))))))) (sSeq (sAsg (gN 2) (cAll_ (lDisp (aCons (cAll_ (lComp [3] (wSeq (cVar 0)) (gN 3) none (cCall 48 (aCons (cVar 3) aNil)))) (aCons (cAll_ (lComp [3] (wSeq (cVar 0)) (gN 3) none (cCall 49 (aCons (cVar 3) aNil)))) (aCons (cAll_ (lComp [3] (wSeq (cOp opAdd (cSl (cVar 0) (some (cC (.int 1))) (some (cC (.int 2)))) (cSl (cVar 0) (some (cC (.int 3))) none))) (gN 3) none (cCall 50 (aCons (cVar 3) aNil)))) (aCons (cCall 48 (lPerm [0] (aCons (cAll_ (lDisp (aCons (cC (.int 0)) (aCons (cC (.int 1)) aNil)))) aNil))) (aCons (cCall 49 (lPerm [0] (aCons (cAll_ (lDisp (aCons (cC (.int 0)) aNil))) aNil))) (aCons (cCall 50 (lPerm [0] (aCons (cAll_ (lDisp (aCons (cC (.int 0)) aNil))) aNil))) aNil))))))))) (sSeq (sAsg (gN 1) (cAll_ (lDisp (aCons (cAll_ (lDisp (aCons (cTup (aCons (cC (.int 0)) aNil)) (aCons (cTup (aCons (cC (.int 0)) aNil)) (aCons (cTup (aCons (cC (.int 0)) (aCons (cC (.int 2)) (aCons (cC (.int 1)) aNil)))) (aCons (cTup (aCons (cC (.int 1)) (aCons (cC (.int 0)) (aCons (cC (.int 2)) (aCons (cC (.int 3)) aNil))))) (aCons (cTup (aCons (cC (.int 0)) (aCons (cC (.int 2)) (aCons (cC (.int 1)) aNil)))) aNil))))))) (aCons (cAll_ (lDisp (aCons (cTup (aCons (cC (.int 1)) (aCons (cC (.int 0)) (aCons (cC (.int 2)) aNil)))) (aCons (cTup (aCons (cC (.int 0)) (aCons (cC (.int 1)) (aCons (cC (.int 2)) aNil)))) (aCons (cTup (aCons (cC (.int 3)) (aCons (cC (.int 2)) (aCons (cC (.int 1)) (aCons (cC (.int 0)) (aCons (cC (.int 4)) aNil)))))) (aCons (cTup (aCons (cC (.int 1)) (aCons (cC (.int 0)) (aCons (cC (.int 2)) (aCons (cC (.int 4)) (aCons (cC (.int 3)) (aCons (cC (.int 5)) aNil))))))) (aCons (cTup (aCons (cC (.int 0)) (aCons (cC (.int 2)) (aCons (cC (.int 1)) (aCons (cC (.int 3)) (aCons (cC (.int 4)) aNil)))))) aNil))))))) (aCons (cAll_ (lDisp (aCons (cTup (aCons (cC (.int 0)) (aCons (cC (.int 2)) (aCons (cC (.int 1)) aNil)))) (aCons (cTup (aCons (cC (.int 1)) (aCons (cC (.int 0)) (aCons (cC (.int 5)) (aCons (cC (.int 4)) (aCons (cC (.int 3)) (aCons (cC (.int 2)) aNil))))))) (aCons (cTup (aCons (cC (.int 0)) (aCons (cC (.int 2)) (aCons (cC (.int 1)) (aCons (cC (.int 4)) (aCons (cC (.int 3)) aNil)))))) aNil))))) (aCons (cTup (aCons (cC (.int 0)) aNil)) (aCons (cTup (aCons (cC (.int 0)) (aCons (cC (.int 1)) aNil))) (aCons (cTup (aCons (cC (.int 1)) (aCons (cC (.int 0)) aNil))) aNil))))))))) (sRet (cCall 54 (aCons (cVar 2) (aCons (cVar 1) aNil)))))))))))
noncomputable def x56 : DefX := ⟨d56, ["told", "due", "got", "own", "k"], [], c56⟩
noncomputable def c57 : SC := (sSeq (sAsg (gT (gsCons (gN 3) (gsCons (gN 4) gsNil))) (cTup (aCons (cTup (aCons (cC (.int 3)) (aCons (cC (.int 0)) (aCons (cTup (aCons (cC (.int 1)) (aCons (cC (.int 2)) aNil))) aNil)))) (aCons (cTup (aCons (cC (.int 4)) (aCons (cC (.int 5)) (aCons (cTup (aCons (cC (.int 2)) (aCons (cC (.int 1)) aNil))) aNil)))) aNil)))) (sSeq (sAsg (gN 0) (cAll_ (lDisp (aCons (cCall 52 (aCons (cVar 3) (aCons (cC (.int 1)) (aCons (cC (.int 0)) aNil)))) (aCons (cCall 52 (aCons (cVar 3) (aCons (cC (.int 0)) (aCons (cC (.int 0)) aNil)))) (aCons (cCall 52 (aCons (cVar 4) (aCons (cC (.int 2)) (aCons (cC (.int 0)) aNil)))) (aCons (cCall 52 (aCons (cVar 4) (aCons (cC (.int 2)) (aCons (cC (.int 1)) aNil)))) (aCons (cCall 52 (aCons (cVar 4) (aCons (cC (.int 1)) (aCons (cC (.int 0)) aNil)))) (aCons (cCall 52 (lPerm [0, 1, 2] (aCons (cCall 53 (aCons (cVar 3) aNil)) (aCons (cC (.int 1)) (aCons (cC (.int 0)) aNil))))) aNil))))))))) (sSeq (sAsg (gN 1) (cTup (aCons (cTup (aCons (cTup (aCons (cTup (aCons (cC (.int 1)) (aCons (cC (.int 2)) aNil))) aNil)) aNil)) (aCons (cTup (aCons (cTup (aCons (cTup (aCons (cC (.int 1)) (aCons (cC (.int 1)) aNil))) aNil)) aNil)) (aCons (cTup (aCons (cTup (aCons (cTup (aCons (cC (.int 0)) (aCons (cC (.int 1)) aNil))) aNil)) aNil)) aNil))))) (sSeq (sAsg (gN 2) (cAll_ (lDisp (aCons (cVar 1) (aCons (cTup (aCons (cTup (aCons (cTup (aCons (cTup (aCons (cC (.int 0)) (aCons (cC (.int 1)) aNil))) aNil)) aNil)) (aCons (cTup (aCons (cTup aNil) aNil)) (aCons (cTup aNil) aNil)))) (aCons (cTup (aCons (cTup aNil) (aCons (cTup aNil) (aCons (cTup (aCons (cTup (aCons (cTup (aCons (cC (.int 2)) (aCons (cC (.int 1)) aNil))) (aCons (cTup (aCons (cC (.int 1)) (aCons (cC (.int 1)) aNil))) aNil))) (aCons (cTup (aCons (cTup (aCons (cC (.int 0)) (aCons (cC (.int 1)) aNil))) (aCons (cTup (aCons (cC (.int 0)) (aCons (cC (.int 1)) aNil))) aNil))) aNil))) aNil)))) (aCons (cTup (aCons (cTup aNil) (aCons (cTup aNil) (aCons (cTup (aCons (cTup (aCons (cTup (aCons (cC (.int 0)) (aCons (cC (.int 1)) aNil))) (aCons (cTup (aCons (cC (.int 0)) (aCons (cC (.int 1)) aNil))) aNil))) (aCons (cTup (aCons (cTup (aCons (cC (.int 1)) (aCons (cC (.int 1)) aNil))) (aCons (cTup (aCons (cC (.int 2)) (aCons (cC (.int 1)) aNil))) aNil))) aNil))) aNil)))) (aCons (cTup (aCons (cTup (aCons (cTup (aCons (cTup (aCons (cC (.int 0)) (aCons (cC (.int 1)) aNil))) (aCons (cTup (aCons (cC (.int 0)) (aCons (cC (.int 1)) aNil))) aNil))) (aCons (cTup (aCons (cTup (aCons (cC (.int 1)) (aCons (cC (.int 1)) aNil))) (aCons (cTup (aCons (cC (.int 2)) (aCons (cC (.int 1)) aNil))) aNil))) aNil))) (aCons (cTup (aCons (cTup (aCons (cTup (aCons (cC (.int 0)) (aCons (cC (.int 1)) aNil))) aNil)) (aCons (cTup (aCons (cTup (aCons (cC (.int 0)) (aCons (cC (.int 1)) aNil))) aNil)) aNil))) (aCons (cTup (aCons (cTup (aCons (cTup (aCons (cC (.int 0)) (aCons (cC (.int 1)) aNil))) aNil)) aNil)) aNil)))) (aCons (cVar 1) aNil))))))))) (sRet (cCall 54 (aCons (cVar 0) (aCons (cVar 2) aNil))))))))
noncomputable def x57 : DefX := ⟨d57, ["got", "near", "due", "half", "four"], [], c57⟩
noncomputable def c58 : SC := (sSeq (sAsg (gN 0) (cTup (aCons (cC (.int 3)) (aCons (cC (.int 0)) (aCons (cTup (aCons (cC (.int 1)) (aCons (cC (.int 2)) aNil))) aNil))))) (sSeq (sAsg (gN 1) (cAll_ (lDisp (aCons (cCall 55 (aCons (cC (.int 0)) (aCons (cTup (aCons (cC (.int 1)) (aCons (cC (.int 1)) aNil))) (aCons (cC (.int 0)) (aCons (cC (.int 0)) aNil))))) (aCons (cCall 55 (aCons (cC (.int 0)) (aCons (cTup aNil) (aCons (cC (.int 0)) (aCons (cC (.int 0)) aNil))))) (aCons (cCall 55 (aCons (cC (.int 1)) (aCons (cTup aNil) (aCons (cC (.int 0)) (aCons (cC (.int 0)) aNil))))) (aCons (cCall 55 (aCons (cC (.int 1)) (aCons (cTup (aCons (cC (.int 0)) (aCons (cC (.int 1)) aNil))) (aCons (cC (.int 0)) (aCons (cC (.int 0)) aNil))))) (aCons (cCall 55 (aCons (cC (.int 1)) (aCons (cTup (aCons (cC (.int 1)) (aCons (cC (.int 3)) aNil))) (aCons (cC (.int 0)) (aCons (cC (.int 0)) aNil))))) (aCons (cCall 55 (aCons (cC (.int 1)) (aCons (cTup (aCons (cC (.int 1)) (aCons (cC (.int 0)) (aCons (cNeg (cC (.int 1))) aNil)))) (aCons (cC (.int 0)) (aCons (cC (.int 0)) aNil))))) (aCons (cCall 55 (aCons (cC (.int 1)) (aCons (cTup (aCons (cC (.int 2)) (aCons (cC (.int 1)) aNil))) (aCons (cC (.int 0)) (aCons (cC (.int 0)) aNil))))) (aCons (cCall 55 (aCons (cC (.int 1)) (aCons (cTup (aCons (cC (.int 1)) (aCons (cC (.int 1)) aNil))) (aCons (cC (.int 0)) (aCons (cC (.int 0)) aNil))))) (aCons (cCall 55 (aCons (cC (.int 1)) (aCons (cTup (aCons (cC (.bl true)) (aCons (cC (.int 2)) aNil))) (aCons (cC (.int 0)) (aCons (cC (.int 0)) aNil))))) (aCons (cCall 55 (aCons (cC (.int 1)) (aCons (cC .non) (aCons (cC (.int 0)) (aCons (cC (.int 0)) aNil))))) (aCons (cCall 55 (aCons (cC (.int 2)) (aCons (cTup (aCons (cC (.int 0)) aNil)) (aCons (cC (.int 0)) (aCons (cC (.int 0)) aNil))))) (aCons (cCall 55 (aCons (cC (.int 2)) (aCons (cTup (aCons (cC (.int 2)) (aCons (cC (.int 1)) (aCons (cC (.int 0)) aNil)))) (aCons (cC (.int 0)) (aCons (cC (.int 0)) aNil))))) (aCons (cCall 55 (aCons (cC (.int 3)) (aCons (cTup (aCons (cC (.int 0)) (aCons (cC (.int 0)) aNil))) (aCons (cC (.int 0)) (aCons (cC (.int 0)) aNil))))) (aCons (cCall 55 (aCons (cC (.int 4)) (aCons (cTup (aCons (cC (.int 1)) (aCons (cC (.int 0)) aNil))) (aCons (cC (.int 0)) (aCons (cC (.int 0)) aNil))))) (aCons (cCall 55 (aCons (cC (.int 4)) (aCons (cTup (aCons (cC (.int 3)) (aCons (cC (.int 2)) (aCons (cC (.int 1)) (aCons (cC (.int 0)) aNil))))) (aCons (cC (.int 0)) (aCons (cC (.int 0)) aNil))))) (aCons (cCall 55 (aCons (cC (.int 4)) (aCons (cC (.int 5)) (aCons (cC (.int 0)) (aCons (cC (.int 0)) aNil))))) (aCons (cCall 55 (aCons (cC (.int 5)) (aCons (cC (.int 0)) (aCons (cC (.int 0)) (aCons (cC (.int 0)) aNil))))) (aCons (cCall 55 (aCons (cC (.int 5)) (aCons (cC (.int 3)) (aCons (cNeg (cC (.int 1))) (aCons (cC (.int 0)) aNil))))) (aCons (cCall 55 (aCons (cC (.int 5)) (aCons (cC (.int 3)) (aCons (cC .non) (aCons (cC (.int 0)) aNil))))) (aCons (cCall 55 (aCons (cC (.int 6)) (aCons (cVar 0) (aCons (cC (.int 2)) (aCons (cC (.int 0)) aNil))))) (aCons (cCall 55 (aCons (cC (.int 6)) (aCons (cVar 0) (aCons (cC (.int 1)) (aCons (cC (.int 1)) aNil))))) (aCons (cCall 55 (aCons (cC (.int 6)) (aCons (cVar 0) (aCons (cC (.int 1)) (aCons (cNeg (cC (.int 1))) aNil))))) (aCons (cCall 55 (aCons (cC (.int 6)) (aCons (cTup (aCons (cC (.int 1)) (aCons (cC (.int 0)) (aCons (cTup (aCons (cC (.int 1)) (aCons (cC (.int 1)) aNil))) aNil)))) (aCons (cC (.int 0)) (aCons (cC (.int 0)) aNil))))) (aCons (cCall 55 (aCons (cC (.int 6)) (aCons (cTup (aCons (cC (.int 2)) (aCons (cC (.int 0)) (aCons (cTup (aCons (cC (.int 1)) (aCons (cC (.int 1)) aNil))) aNil)))) (aCons (cC (.int 0)) (aCons (cC (.int 0)) aNil))))) (aCons (cCall 55 (aCons (cC (.int 6)) (aCons (cTup (aCons (cC (.int 3)) (aCons (cC (.int 4)) (aCons (cTup (aCons (cC (.int 1)) (aCons (cC (.int 1)) aNil))) aNil)))) (aCons (cC (.int 0)) (aCons (cC (.int 0)) aNil))))) aNil)))))))))))))))))))))))))))) (sRet (cCall 54 (aCons (cVar 1) (aCons (cOp opMul (cAll_ (lDisp (aCons (cAll_ (lDisp (aCons (cC (.str "unfit")) (aCons (cC (.bl true)) aNil)))) aNil))) (cLen (cVar 1))) aNil))))))
noncomputable def x58 : DefX := ⟨d58, ["half", "got"], [], c58⟩
noncomputable def c59 : SC := (sRet (cAnd (cCall 56 aNil) (cAnd (cCall 57 aNil) (cCall 58 aNil))))
noncomputable def x59 : DefX := ⟨d59, ["script"], ["script"], c59⟩
noncomputable def T : List DefX := ([x0, x1, x2, x3, x4, x5, x6, x7, x8, x9, x10, x11, x12, x13, x14, x15, x16, x17, x18, x19, x20, x21, x22, x23, x24, x25, x26, x27, x28, x29] : List DefX) ++ ([x30, x31, x32, x33, x34, x35, x36, x37, x38, x39, x40, x41, x42, x43, x44, x45, x46, x47, x48, x49, x50, x51, x52, x53, x54, x55, x56, x57, x58, x59] : List DefX)
noncomputable abbrev gl := glOf T cn bl
noncomputable abbrev sig := sigOf T
theorem k0 : DefOk gl sig cv x0 := ⟨⟨rfl, rfl, rfl, by decide +kernel, rfl, by decide +kernel, by decide +kernel⟩, rfl, rfl, rfl, fun _ _ _ _ _ _ us hl => match us, hl with | [_], _ => rfl, fun cls n =>
  ((oss_one (os_ret (oe_if (ot_val (oe_isi2 (bn bv_isinstance (by kernel_rfl)) (bn bv_list (by kernel_rfl)) (bn bv_tuple (by kernel_rfl)) rfl isi_lt (gv (by kernel_rfl))) fun _ _ => rfl) (oe_tupL (bn bv_tuple (by kernel_rfl)) rfl (ol_comp (own := [("own", 1)]) (blkOk_by (by kernel_rfl)) (oi_seq (gv (by kernel_rfl))) (og_name (by kernel_rfl) (locB_ok (by kernel_rfl)) (by kernel_rfl)) (by decide +kernel) trivial (oe_call (f := 0) (np := 1) (by kernel_rfl) (by kernel_rfl) rfl rfl (ln_cons ln_nil) (by simp) (oa_cons rfl (gv (by kernel_rfl)) oa_nil)) (fun _ _ => rfl))) (gv (by kernel_rfl))))) : OSs cls (ccOf gl sig cv n x0) (defBody (top 5)) c0)⟩
theorem k1 : DefOk gl sig cv x1 := ⟨⟨rfl, rfl, rfl, by decide +kernel, rfl, by decide +kernel, by decide +kernel⟩, rfl, rfl, rfl, fun _ _ _ _ _ _ us hl => match us, hl with | [_], _ => rfl, fun cls n =>
  ((oss_one (os_ret (oe_and (oe_isi1 (bn bv_isinstance (by kernel_rfl)) (bn bv_int (by kernel_rfl)) rfl isi_int (gv (by kernel_rfl))) (oe_one (oe_not (oe_isi1 (bn bv_isinstance (by kernel_rfl)) (bn bv_bool (by kernel_rfl)) rfl isi_bool (gv (by kernel_rfl))))) rfl))) : OSs cls (ccOf gl sig cv n x1) (defBody (top 6)) c1)⟩
theorem k2 : DefOk gl sig cv x2 := ⟨⟨rfl, rfl, rfl, by decide +kernel, rfl, by decide +kernel, by decide +kernel⟩, rfl, rfl, rfl, fun _ _ _ _ _ _ us hl => match us, hl with | [_], _ => rfl, fun cls n =>
  ((oss_one (os_ret (oe_and (oe_call (f := 1) (np := 1) (by kernel_rfl) (by kernel_rfl) rfl rfl (ln_cons ln_nil) (by simp) (oa_cons rfl (gv (by kernel_rfl)) oa_nil)) (oe_one (gc ck_ge (gv (by kernel_rfl)) oe_int rfl)) rfl))) : OSs cls (ccOf gl sig cv n x2) (defBody (top 7)) c2)⟩
theorem k3 : DefOk gl sig cv x3 := ⟨⟨rfl, rfl, rfl, by decide +kernel, rfl, by decide +kernel, by decide +kernel⟩, rfl, rfl, rfl, fun _ _ _ _ _ _ us hl => match us, hl with | [_, _], _ => rfl, fun cls n =>
  ((oss_one (os_ret (oe_and (oe_call (f := 1) (np := 1) (by kernel_rfl) (by kernel_rfl) rfl rfl (ln_cons ln_nil) (by simp) (oa_cons rfl (gv (by kernel_rfl)) oa_nil)) (oe_one (gch ck_le ck_lt oe_int (gv (by kernel_rfl)) (gv (by kernel_rfl)) rfl)) rfl))) : OSs cls (ccOf gl sig cv n x3) (defBody (top 8)) c3)⟩
theorem k4 : DefOk gl sig cv x4 := ⟨⟨rfl, rfl, rfl, by decide +kernel, rfl, by decide +kernel, by decide +kernel⟩, rfl, rfl, rfl, fun _ _ _ _ _ _ us hl => match us, hl with | [_, _], _ => rfl, fun cls n =>
  ((oss_one (os_ret (oe_and (oe_isi1 (bn bv_isinstance (by kernel_rfl)) (bn bv_tuple (by kernel_rfl)) rfl isi_tuple (gv (by kernel_rfl))) (oe_one (gc ck_eq (oe_len (bn bv_len (by kernel_rfl)) rfl (gv (by kernel_rfl))) (gv (by kernel_rfl)) rfl)) rfl))) : OSs cls (ccOf gl sig cv n x4) (defBody (top 9)) c4)⟩
theorem k5 : DefOk gl sig cv x5 := ⟨⟨rfl, rfl, rfl, by decide +kernel, rfl, by decide +kernel, by decide +kernel⟩, rfl, rfl, rfl, fun _ _ _ _ _ _ us hl => match us, hl with | [_], _ => rfl, fun cls n =>
  ((oss_cons rfl (os_if (ot_not (ot_val (oe_call (f := 2) (np := 1) (by kernel_rfl) (by kernel_rfl) rfl rfl (ln_cons ln_nil) (by simp) (oa_cons rfl (gv (by kernel_rfl)) oa_nil)) fun _ _ => rfl)) (oss_one (os_raise (by kernel_rfl) (by kernel_rfl) rfl)) oss_nil) (oss_one (os_ret (gv (by kernel_rfl))))) : OSs cls (ccOf gl sig cv n x5) (defBody (top 10)) c5)⟩
theorem k6 : DefOk gl sig cv x6 := ⟨⟨rfl, rfl, rfl, by decide +kernel, rfl, by decide +kernel, by decide +kernel⟩, rfl, rfl, rfl, fun _ _ _ _ _ _ us hl => match us, hl with | [_], _ => rfl, fun cls n =>
  ((oss_cons rfl (os_if (ot_of_ow (ow_or (ot_not (ot_val (oe_call (f := 2) (np := 1) (by kernel_rfl) (by kernel_rfl) rfl rfl (ln_cons ln_nil) (by simp) (oa_cons rfl (gv (by kernel_rfl)) oa_nil)) fun _ _ => rfl)) (ow_or1 (tc ck_eq (gv (by kernel_rfl)) oe_int rfl)))) (oss_one (os_raise (by kernel_rfl) (by kernel_rfl) rfl)) oss_nil) (oss_one (os_ret (gv (by kernel_rfl))))) : OSs cls (ccOf gl sig cv n x6) (defBody (top 11)) c6)⟩
theorem k7 : DefOk gl sig cv x7 := ⟨⟨rfl, rfl, rfl, by decide +kernel, rfl, by decide +kernel, by decide +kernel⟩, rfl, rfl, rfl, fun _ _ _ _ _ _ us hl => match us, hl with | [_, _], _ => rfl, fun cls n =>
  ((oss_cons rfl (os_if (ot_not (ot_val (oe_call (f := 3) (np := 2) (by kernel_rfl) (by kernel_rfl) rfl rfl (ln_cons (ln_cons ln_nil)) (by simp) (oa_cons rfl (gv (by kernel_rfl)) (oa_cons rfl (gv (by kernel_rfl)) oa_nil))) fun _ _ => rfl)) (oss_one (os_raise (by kernel_rfl) (by kernel_rfl) rfl)) oss_nil) (oss_one (os_ret (gv (by kernel_rfl))))) : OSs cls (ccOf gl sig cv n x7) (defBody (top 12)) c7)⟩
theorem k8 : DefOk gl sig cv x8 := ⟨⟨rfl, rfl, rfl, by decide +kernel, rfl, by decide +kernel, by decide +kernel⟩, rfl, rfl, rfl, fun _ _ _ _ _ _ us hl => match us, hl with | [_], _ => rfl, fun cls n =>
  ((oss_cons rfl (os_asg rfl (by kernel_rfl) (by kernel_rfl) (oe_call (f := 0) (np := 1) (by kernel_rfl) (by kernel_rfl) rfl rfl (ln_cons ln_nil) (by simp) (oa_cons rfl (gv (by kernel_rfl)) oa_nil)) (og_name (by kernel_rfl) (locB_ok (by kernel_rfl)) (by kernel_rfl))) (oss_cons rfl (os_if (ot_not (ot_val (oe_isi1 (bn bv_isinstance (by kernel_rfl)) (bn bv_tuple (by kernel_rfl)) rfl isi_tuple (gv (by kernel_rfl))) fun _ _ => rfl)) (oss_one (os_raise (by kernel_rfl) (by kernel_rfl) rfl)) oss_nil) (oss_one (os_ret (gv (by kernel_rfl)))))) : OSs cls (ccOf gl sig cv n x8) (defBody (top 13)) c8)⟩
theorem k9 : DefOk gl sig cv x9 := ⟨⟨rfl, rfl, rfl, by decide +kernel, rfl, by decide +kernel, by decide +kernel⟩, rfl, rfl, rfl, fun _ _ _ _ _ _ us hl => match us, hl with | [_], _ => rfl, fun cls n =>
  ((oss_cons rfl (os_if (ot_of_ow (ow_or (ot_not (ot_val (oe_isi1 (bn bv_isinstance (by kernel_rfl)) (bn bv_tuple (by kernel_rfl)) rfl isi_tuple (gv (by kernel_rfl))) fun _ _ => rfl)) (ow_or (tc ck_eq (gv (by kernel_rfl)) (oe_tup oa_nil) rfl) (ow_or1 (ot_not (ot_val (oe_allL (bn bv_all (by kernel_rfl)) rfl (ol_comp (own := [("own", 3)]) (blkOk_by (by kernel_rfl)) (oi_seq (gv (by kernel_rfl))) (og_name (by kernel_rfl) (locB_ok (by kernel_rfl)) (by kernel_rfl)) (by decide +kernel) trivial (oe_call (f := 3) (np := 2) (by kernel_rfl) (by kernel_rfl) rfl rfl (ln_cons (ln_cons ln_nil)) (by simp) (oa_cons rfl (gv (by kernel_rfl)) (oa_cons rfl (oe_len (bn bv_len (by kernel_rfl)) rfl (gv (by kernel_rfl))) oa_nil))) (fun _ _ => rfl))) fun _ _ => rfl)))))) (oss_one (os_ret oe_bl)) oss_nil) (oss_cons rfl (os_asg rfl (by kernel_rfl) (by kernel_rfl) (oe_alloc (ol_disp oa_nil)) (og_name (by kernel_rfl) (locB_ok (by kernel_rfl)) (by kernel_rfl))) (oss_cons rfl (os_for rfl (oi_enum (bn bv_enumerate (by kernel_rfl)) rfl (gv (by kernel_rfl))) (og_tup rfl (lng_cons (lng_cons lng_nil)) (ogs_cons rfl (og_name (by kernel_rfl) (locB_ok (by kernel_rfl)) (by kernel_rfl)) (ogs_cons rfl (og_name (by kernel_rfl) (locB_ok (by kernel_rfl)) (by kernel_rfl)) ogs_nil))) (oss_cons rfl (os_if (ot_of_ow (ow_or (tc ck_ne (oe_idx (fun _ _ => rfl) (gv (by kernel_rfl)) (gv (by kernel_rfl))) (gv (by kernel_rfl)) rfl) (ow_or1 (ot_of_ow (ow_and (tc ck_eq (gv (by kernel_rfl)) (gv (by kernel_rfl)) rfl) (ow_and1 (tc ck_ne (gv (by kernel_rfl)) (oe_alloc (ol_disp oa_nil)) rfl))))))) (oss_one (os_ret oe_bl)) oss_nil) (oss_one (os_if (tc ck_gt (gv (by kernel_rfl)) (gv (by kernel_rfl)) rfl) (oss_one (os_expr rfl (oe_app rfl rfl rfl (gv (by kernel_rfl)) (gv (by kernel_rfl))))) (oss_one (os_if (ot_of_ow (ow_and (tc ck_lt (gv (by kernel_rfl)) (gv (by kernel_rfl)) rfl) (ow_and1 (tc ck_ne (oe_pop rfl rfl (gv (by kernel_rfl))) (gv (by kernel_rfl)) rfl)))) (oss_one (os_ret oe_bl)) oss_nil))))) (fun _ _ => rfl)) (oss_one (os_ret oe_bl))))) : OSs cls (ccOf gl sig cv n x9) (defBody (top 15)) c9)⟩
theorem k10 : DefOk gl sig cv x10 := ⟨⟨rfl, rfl, rfl, by decide +kernel, rfl, by decide +kernel, by decide +kernel⟩, rfl, rfl, rfl, fun _ _ _ _ _ _ us hl => match us, hl with | [_], _ => rfl, fun cls n =>
  ((oss_cons rfl (os_asg rfl (by kernel_rfl) (by kernel_rfl) (oe_call (f := 0) (np := 1) (by kernel_rfl) (by kernel_rfl) rfl rfl (ln_cons ln_nil) (by simp) (oa_cons rfl (gv (by kernel_rfl)) oa_nil)) (og_name (by kernel_rfl) (locB_ok (by kernel_rfl)) (by kernel_rfl))) (oss_cons rfl (os_if (ot_not (ot_val (oe_call (f := 9) (np := 1) (by kernel_rfl) (by kernel_rfl) rfl rfl (ln_cons ln_nil) (by simp) (oa_cons rfl (gv (by kernel_rfl)) oa_nil)) fun _ _ => rfl)) (oss_one (os_raise (by kernel_rfl) (by kernel_rfl) rfl)) oss_nil) (oss_one (os_ret (gv (by kernel_rfl)))))) : OSs cls (ccOf gl sig cv n x10) (defBody (top 16)) c10)⟩
theorem k11 : DefOk gl sig cv x11 := ⟨⟨rfl, rfl, rfl, by decide +kernel, rfl, by decide +kernel, by decide +kernel⟩, rfl, rfl, rfl, fun _ _ _ _ _ _ us hl => match us, hl with | [_], _ => rfl, fun cls n =>
  ((oss_one (os_ret (oe_lenL (bn bv_len (by kernel_rfl)) rfl (ol_comp (own := [("place", 1), ("own", 2)]) (blkOk_by (by kernel_rfl)) (oi_enum (bn bv_enumerate (by kernel_rfl)) rfl (gv (by kernel_rfl))) (og_tup rfl (lng_cons (lng_cons lng_nil)) (ogs_cons rfl (og_name (by kernel_rfl) (locB_ok (by kernel_rfl)) (by kernel_rfl)) (ogs_cons rfl (og_name (by kernel_rfl) (locB_ok (by kernel_rfl)) (by kernel_rfl)) ogs_nil))) (by decide +kernel) (tc ck_gt (gv (by kernel_rfl)) (gv (by kernel_rfl)) rfl) (gv (by kernel_rfl)) (fun _ _ => rfl))))) : OSs cls (ccOf gl sig cv n x11) (defBody (top 17)) c11)⟩
theorem k12 : DefOk gl sig cv x12 := ⟨⟨rfl, rfl, rfl, by decide +kernel, rfl, by decide +kernel, by decide +kernel⟩, rfl, rfl, rfl, fun _ _ _ _ _ _ us hl => match us, hl with | [_], _ => rfl, fun cls n =>
  ((oss_one (os_ret (oe_tupL (bn bv_tuple (by kernel_rfl)) rfl (ol_comp (own := [("place", 1), ("own", 2)]) (blkOk_by (by kernel_rfl)) (oi_enum (bn bv_enumerate (by kernel_rfl)) rfl (gv (by kernel_rfl))) (og_tup rfl (lng_cons (lng_cons lng_nil)) (ogs_cons rfl (og_name (by kernel_rfl) (locB_ok (by kernel_rfl)) (by kernel_rfl)) (ogs_cons rfl (og_name (by kernel_rfl) (locB_ok (by kernel_rfl)) (by kernel_rfl)) ogs_nil))) (by decide +kernel) (tc ck_eq (gv (by kernel_rfl)) (gv (by kernel_rfl)) rfl) (gv (by kernel_rfl)) (fun _ _ => rfl))))) : OSs cls (ccOf gl sig cv n x12) (defBody (top 18)) c12)⟩
theorem k13 : DefOk gl sig cv x13 := ⟨⟨rfl, rfl, rfl, by decide +kernel, rfl, by decide +kernel, by decide +kernel⟩, rfl, rfl, rfl, fun _ _ _ _ _ _ us hl => match us, hl with | [_], _ => rfl, fun cls n =>
  ((oss_one (os_ret (oe_tupL (bn bv_tuple (by kernel_rfl)) rfl (ol_comp (own := [("place", 1), ("own", 2)]) (blkOk_by (by kernel_rfl)) (oi_enum (bn bv_enumerate (by kernel_rfl)) rfl (gv (by kernel_rfl))) (og_tup rfl (lng_cons (lng_cons lng_nil)) (ogs_cons rfl (og_name (by kernel_rfl) (locB_ok (by kernel_rfl)) (by kernel_rfl)) (ogs_cons rfl (og_name (by kernel_rfl) (locB_ok (by kernel_rfl)) (by kernel_rfl)) ogs_nil))) (by decide +kernel) trivial (oe_if (tc ck_lt (gv (by kernel_rfl)) (gv (by kernel_rfl)) rfl) (oe_neg oe_int) oe_int) (fun _ _ => rfl))))) : OSs cls (ccOf gl sig cv n x13) (defBody (top 19)) c13)⟩
theorem k14 : DefOk gl sig cv x14 := ⟨⟨rfl, rfl, rfl, by decide +kernel, rfl, by decide +kernel, by decide +kernel⟩, rfl, rfl, rfl, fun _ _ _ _ _ _ us hl => match us, hl with | [_], _ => rfl, fun cls n =>
  ((oss_cons rfl (os_par2 (by kernel_rfl) (by kernel_rfl) (by decide +kernel) (by kernel_rfl) (by kernel_rfl) (by kernel_rfl) (by kernel_rfl) (oa_cons rfl (oe_alloc (ol_range (bn bv_list (by kernel_rfl)) rfl (prg1 (bn bv_range (by kernel_rfl)) rfl (oe_len (bn bv_len (by kernel_rfl)) rfl (gv (by kernel_rfl)))))) (oa_cons rfl (oe_alloc (ol_disp oa_nil)) oa_nil))) (oss_cons rfl (os_for rfl (oi_enum (bn bv_enumerate (by kernel_rfl)) rfl (gv (by kernel_rfl))) (og_tup rfl (lng_cons (lng_cons lng_nil)) (ogs_cons rfl (og_name (by kernel_rfl) (locB_ok (by kernel_rfl)) (by kernel_rfl)) (ogs_cons rfl (og_name (by kernel_rfl) (locB_ok (by kernel_rfl)) (by kernel_rfl)) ogs_nil))) (oss_one (os_if (tc ck_eq (gv (by kernel_rfl)) oe_int rfl) (oss_one (os_expr rfl (oe_app rfl rfl rfl (gv (by kernel_rfl)) (gv (by kernel_rfl))))) (oss_cons rfl (os_asg rfl (by kernel_rfl) (by kernel_rfl) (oe_pop rfl rfl (gv (by kernel_rfl))) (og_name (by kernel_rfl) (locB_ok (by kernel_rfl)) (by kernel_rfl))) (oss_one (os_sub2 (by kernel_rfl) (by kernel_rfl) (oe_tup (oa_cons rfl (gv (by kernel_rfl)) (oa_cons rfl (gv (by kernel_rfl)) oa_nil))) (gv (by kernel_rfl)) (gv (by kernel_rfl)) (gv (by kernel_rfl)) (gv (by kernel_rfl)) (fun _ _ => rfl) (fun _ _ => rfl)))))) (fun _ _ => rfl)) (oss_one (os_ret (oe_tupQ (bn bv_tuple (by kernel_rfl)) rfl (gv (by kernel_rfl))))))) : OSs cls (ccOf gl sig cv n x14) (defBody (top 20)) c14)⟩
theorem k15 : DefOk gl sig cv x15 := ⟨⟨rfl, rfl, rfl, by decide +kernel, rfl, by decide +kernel, by decide +kernel⟩, rfl, rfl, rfl, fun _ _ _ _ _ _ us hl => match us, hl with | [_, _], _ => rfl, fun cls n =>
  ((oss_cons rfl (os_asg rfl (by kernel_rfl) (by kernel_rfl) (oe_alloc (ol_disp (oa_cons rfl (oe_tup (oa_cons rfl (oe_tup oa_nil) (oa_cons rfl oe_int oa_nil))) oa_nil))) (og_name (by kernel_rfl) (locB_ok (by kernel_rfl)) (by kernel_rfl))) (oss_cons rfl (os_for rfl (oi_rng1 (bn bv_range (by kernel_rfl)) rfl (gv (by kernel_rfl))) (og_name (by kernel_rfl) (locB_ok (by kernel_rfl)) (by kernel_rfl)) (oss_cons rfl (os_asg rfl (by kernel_rfl) (by kernel_rfl) (oe_alloc (ol_disp oa_nil)) (og_name (by kernel_rfl) (locB_ok (by kernel_rfl)) (by kernel_rfl))) (oss_cons rfl (os_for rfl (oi_seq (gv (by kernel_rfl))) (og_tup rfl (lng_cons (lng_cons lng_nil)) (ogs_cons rfl (og_name (by kernel_rfl) (locB_ok (by kernel_rfl)) (by kernel_rfl)) (ogs_cons rfl (og_name (by kernel_rfl) (locB_ok (by kernel_rfl)) (by kernel_rfl)) ogs_nil))) (oss_cons rfl (os_if (tc ck_lt (gsub (gv (by kernel_rfl)) (gv (by kernel_rfl))) (gsub (gv (by kernel_rfl)) (gv (by kernel_rfl))) rfl) (oss_one (os_expr rfl (oe_app rfl rfl rfl (gv (by kernel_rfl)) (oe_tup (oa_cons rfl (gadd (gv (by kernel_rfl)) (oe_tup (oa_cons rfl oe_int oa_nil))) (oa_cons rfl (gv (by kernel_rfl)) oa_nil)))))) oss_nil) (oss_one (os_if (ot_of_ow (ow_and (tc ck_lt (gv (by kernel_rfl)) (gv (by kernel_rfl)) rfl) (ow_and1 (tc ck_lt (gmul oe_int (gv (by kernel_rfl))) (gv (by kernel_rfl)) rfl)))) (oss_one (os_expr rfl (oe_app rfl rfl rfl (gv (by kernel_rfl)) (oe_tup (oa_cons rfl (gadd (gv (by kernel_rfl)) (oe_tup (oa_cons rfl (oe_neg oe_int) oa_nil))) (oa_cons rfl (gadd (gv (by kernel_rfl)) oe_int) oa_nil)))))) oss_nil))) (fun _ _ => rfl)) (oss_one (os_asg rfl (by kernel_rfl) (by kernel_rfl) (gv (by kernel_rfl)) (og_name (by kernel_rfl) (locB_ok (by kernel_rfl)) (by kernel_rfl)))))) (fun _ _ => rfl)) (oss_one (os_ret (oe_alloc (ol_comp (own := [("row", 5), ("downs", 6)]) (blkOk_by (by kernel_rfl)) (oi_seq (gv (by kernel_rfl))) (og_tup rfl (lng_cons (lng_cons lng_nil)) (ogs_cons rfl (og_name (by kernel_rfl) (locB_ok (by kernel_rfl)) (by kernel_rfl)) (ogs_cons rfl (og_name (by kernel_rfl) (locB_ok (by kernel_rfl)) (by kernel_rfl)) ogs_nil))) (by decide +kernel) (tc ck_eq (gv (by kernel_rfl)) (gv (by kernel_rfl)) rfl) (gv (by kernel_rfl)) (fun _ _ => rfl))))))) : OSs cls (ccOf gl sig cv n x15) (defBody (top 21)) c15)⟩
theorem k16 : DefOk gl sig cv x16 := ⟨⟨rfl, rfl, rfl, by decide +kernel, rfl, by decide +kernel, by decide +kernel⟩, rfl, rfl, rfl, fun _ _ _ _ _ _ us hl => match us, hl with | [_, _], _ => rfl, fun cls n =>
  ((oss_one (os_ret (oe_alloc (ol_sortL (bn bv_sorted (by kernel_rfl)) rfl (ol_comp (own := [("row", 2)]) (blkOk_by (by kernel_rfl)) (oi_seq (oe_call (f := 15) (np := 2) (by kernel_rfl) (by kernel_rfl) rfl rfl (ln_cons (ln_cons ln_nil)) (by simp) (oa_cons rfl (gv (by kernel_rfl)) (oa_cons rfl (gv (by kernel_rfl)) oa_nil)))) (og_name (by kernel_rfl) (locB_ok (by kernel_rfl)) (by kernel_rfl)) (by decide +kernel) trivial (oe_call (f := 14) (np := 1) (by kernel_rfl) (by kernel_rfl) rfl rfl (ln_cons ln_nil) (by simp) (oa_cons rfl (gv (by kernel_rfl)) oa_nil)) (fun _ _ => rfl)))))) : OSs cls (ccOf gl sig cv n x16) (defBody (top 22)) c16)⟩
theorem k17 : DefOk gl sig cv x17 := ⟨⟨rfl, rfl, rfl, by decide +kernel, rfl, by decide +kernel, by decide +kernel⟩, rfl, rfl, rfl, fun _ _ _ _ _ _ us hl => match us, hl with | [_, _], _ => rfl, fun cls n =>
  ((oss_cons rfl (os_asg rfl (by kernel_rfl) (by kernel_rfl) oe_int (og_name (by kernel_rfl) (locB_ok (by kernel_rfl)) (by kernel_rfl))) (oss_cons rfl (os_for rfl (oi_rng1 (bn bv_range (by kernel_rfl)) rfl (gv (by kernel_rfl))) (og_name (by kernel_rfl) (locB_ok (by kernel_rfl)) (by kernel_rfl)) (oss_one (os_asg rfl (by kernel_rfl) (by kernel_rfl) (gdiv (gmul (gv (by kernel_rfl)) (gsub (gv (by kernel_rfl)) (gv (by kernel_rfl)))) (gadd (gv (by kernel_rfl)) oe_int)) (og_name (by kernel_rfl) (locB_ok (by kernel_rfl)) (by kernel_rfl)))) (fun _ _ => rfl)) (oss_one (os_ret (gv (by kernel_rfl)))))) : OSs cls (ccOf gl sig cv n x17) (defBody (top 23)) c17)⟩
theorem k18 : DefOk gl sig cv x18 := ⟨⟨rfl, rfl, rfl, by decide +kernel, rfl, by decide +kernel, by decide +kernel⟩, rfl, rfl, rfl, fun _ _ _ _ _ _ us hl => match us, hl with | [_, _], _ => rfl, fun cls n =>
  ((oss_cons rfl (os_if (tc ck_gt (gmul oe_int (gv (by kernel_rfl))) (gv (by kernel_rfl)) rfl) (oss_one (os_ret oe_int)) oss_nil) (oss_one (os_ret (gsub (oe_call (f := 17) (np := 2) (by kernel_rfl) (by kernel_rfl) rfl rfl (ln_cons (ln_cons ln_nil)) (by simp) (oa_cons rfl (gv (by kernel_rfl)) (oa_cons rfl (gv (by kernel_rfl)) oa_nil))) (oe_if (tc ck_gt (gv (by kernel_rfl)) oe_int rfl) (oe_call (f := 17) (np := 2) (by kernel_rfl) (by kernel_rfl) rfl rfl (ln_cons (ln_cons ln_nil)) (by simp) (oa_cons rfl (gv (by kernel_rfl)) (oa_cons rfl (gsub (gv (by kernel_rfl)) oe_int) oa_nil))) oe_int))))) : OSs cls (ccOf gl sig cv n x18) (defBody (top 24)) c18)⟩
theorem k19 : DefOk gl sig cv x19 := ⟨⟨rfl, rfl, rfl, by decide +kernel, rfl, by decide +kernel, by decide +kernel⟩, rfl, rfl, rfl, fun _ _ _ _ _ _ us hl => match us, hl with | [_, _, _], _ => rfl, fun cls n =>
  ((oss_cons rfl (os_par2 (by kernel_rfl) (by kernel_rfl) (by decide +kernel) (by kernel_rfl) (by kernel_rfl) (by kernel_rfl) (by kernel_rfl) (oa_cons rfl (oe_alloc (ol_disp (oa_cons rfl (gv (by kernel_rfl)) oa_nil))) (oa_cons rfl (gv (by kernel_rfl)) oa_nil))) (oss_cons rfl (os_while rfl (tc ck_ne (oe_idx (fun _ _ => rfl) (gv (by kernel_rfl)) (gv (by kernel_rfl))) (gv (by kernel_rfl)) rfl) (oss_cons rfl (os_asg rfl (by kernel_rfl) (by kernel_rfl) (oe_idx (fun _ _ => rfl) (gv (by kernel_rfl)) (gv (by kernel_rfl))) (og_name (by kernel_rfl) (locB_ok (by kernel_rfl)) (by kernel_rfl))) (oss_cons rfl (os_expr rfl (oe_app rfl rfl rfl (gv (by kernel_rfl)) (gv (by kernel_rfl)))) (oss_cons rfl (os_if (tc ck_in (oe_idx (fun _ _ => rfl) (gv (by kernel_rfl)) (gv (by kernel_rfl))) (oe_tup (oa_cons rfl (gv (by kernel_rfl)) (oa_cons rfl (gv (by kernel_rfl)) oa_nil))) rfl) (oss_one (os_ret (oe_tup (oa_cons rfl (gv (by kernel_rfl)) (oa_cons rfl oe_bl oa_nil))))) oss_nil) (oss_cons rfl (os_asg rfl (by kernel_rfl) (by kernel_rfl) (oe_idx (fun _ _ => rfl) (gv (by kernel_rfl)) (gv (by kernel_rfl))) (og_name (by kernel_rfl) (locB_ok (by kernel_rfl)) (by kernel_rfl))) (oss_one (os_expr rfl (oe_app rfl rfl rfl (gv (by kernel_rfl)) (gv (by kernel_rfl)))))))))) (oss_one (os_ret (oe_tup (oa_cons rfl (gv (by kernel_rfl)) (oa_cons rfl oe_bl oa_nil))))))) : OSs cls (ccOf gl sig cv n x19) (defBody (top 25)) c19)⟩
theorem k20 : DefOk gl sig cv x20 := ⟨⟨rfl, rfl, rfl, by decide +kernel, rfl, by decide +kernel, by decide +kernel⟩, rfl, rfl, rfl, fun _ _ _ _ _ _ us hl => match us, hl with | [_, _], _ => rfl, fun cls n =>
  ((oss_cons rfl (os_par3 (by kernel_rfl) (by kernel_rfl) (by kernel_rfl) (by decide +kernel) (by decide +kernel) (by decide +kernel) (by kernel_rfl) (by kernel_rfl) (by kernel_rfl) (by kernel_rfl) (by kernel_rfl) (oa_cons rfl oe_dnew (oa_cons rfl oe_int (oa_cons rfl oe_int oa_nil)))) (oss_cons rfl (os_for rfl (oi_seq (oe_call (f := 12) (np := 1) (by kernel_rfl) (by kernel_rfl) rfl rfl (ln_cons ln_nil) (by simp) (oa_cons rfl (gv (by kernel_rfl)) oa_nil))) (og_name (by kernel_rfl) (locB_ok (by kernel_rfl)) (by kernel_rfl)) (oss_cons rfl (os_asg rfl (by kernel_rfl) (by kernel_rfl) (oe_call (f := 19) (np := 3) (by kernel_rfl) (by kernel_rfl) rfl rfl (ln_cons (ln_cons (ln_cons ln_nil))) (by simp) (oa_cons rfl (gv (by kernel_rfl)) (oa_cons rfl (gv (by kernel_rfl)) (oa_cons rfl (gv (by kernel_rfl)) oa_nil)))) (og_tup rfl (lng_cons (lng_cons lng_nil)) (ogs_cons rfl (og_name (by kernel_rfl) (locB_ok (by kernel_rfl)) (by kernel_rfl)) (ogs_cons rfl (og_name (by kernel_rfl) (locB_ok (by kernel_rfl)) (by kernel_rfl)) ogs_nil)))) (oss_cons rfl (os_expr rfl (oe_call (f := 21) (np := 2) (by kernel_rfl) (by kernel_rfl) rfl rfl (ln_cons (ln_cons ln_nil)) (by simp) (oa_cons rfl (gv (by kernel_rfl)) (oa_cons rfl (gv (by kernel_rfl)) oa_nil)))) (oss_one (os_aug (by kernel_rfl) (locB_ok (by kernel_rfl)) (by kernel_rfl) (fun _ => ip_add) ok_addI (oe_intc (bn bv_int (by kernel_rfl)) rfl (gv (by kernel_rfl))))))) (fun _ _ => rfl)) (oss_cons rfl (os_for rfl (oi_seq (oe_call (f := 12) (np := 1) (by kernel_rfl) (by kernel_rfl) rfl rfl (ln_cons ln_nil) (by simp) (oa_cons rfl (gv (by kernel_rfl)) oa_nil))) (og_name (by kernel_rfl) (locB_ok (by kernel_rfl)) (by kernel_rfl)) (oss_one (os_expr rfl (oe_call (f := 21) (np := 2) (by kernel_rfl) (by kernel_rfl) rfl rfl (ln_cons (ln_cons ln_nil)) (by simp) (oa_cons rfl (gv (by kernel_rfl)) (oa_cons rfl (oe_idx (fun _ _ => rfl) (oe_call (f := 19) (np := 3) (by kernel_rfl) (by kernel_rfl) rfl rfl (ln_cons (ln_cons (ln_cons ln_nil))) (by simp) (oa_cons rfl (gv (by kernel_rfl)) (oa_cons rfl (gv (by kernel_rfl)) (oa_cons rfl (gv (by kernel_rfl)) oa_nil)))) oe_int) oa_nil))))) (fun _ _ => rfl)) (oss_cons rfl (os_for rfl (oi_rng1 (bn bv_range (by kernel_rfl)) rfl (oe_len (bn bv_len (by kernel_rfl)) rfl (gv (by kernel_rfl)))) (og_name (by kernel_rfl) (locB_ok (by kernel_rfl)) (by kernel_rfl)) (oss_one (os_if (tc ck_ni (gv (by kernel_rfl)) (gv (by kernel_rfl)) rfl) (oss_cons rfl (os_expr rfl (oe_call (f := 21) (np := 2) (by kernel_rfl) (by kernel_rfl) rfl rfl (ln_cons (ln_cons ln_nil)) (by simp) (oa_cons rfl (gv (by kernel_rfl)) (oa_cons rfl (oe_idx (fun _ _ => rfl) (oe_call (f := 19) (np := 3) (by kernel_rfl) (by kernel_rfl) rfl rfl (ln_cons (ln_cons (ln_cons ln_nil))) (by simp) (oa_cons rfl (gv (by kernel_rfl)) (oa_cons rfl (gv (by kernel_rfl)) (oa_cons rfl (gv (by kernel_rfl)) oa_nil)))) oe_int) oa_nil)))) (oss_one (os_aug (by kernel_rfl) (locB_ok (by kernel_rfl)) (by kernel_rfl) (fun _ => ip_add) ok_addI oe_int))) oss_nil)) (fun _ _ => rfl)) (oss_one (os_ret (oe_tup (oa_cons rfl (gv (by kernel_rfl)) (oa_cons rfl (gv (by kernel_rfl)) oa_nil))))))))) : OSs cls (ccOf gl sig cv n x20) (defBody (top 26)) c20)⟩
theorem k21 : DefOk gl sig cv x21 := ⟨⟨rfl, rfl, rfl, by decide +kernel, rfl, by decide +kernel, by decide +kernel⟩, rfl, rfl, rfl, fun _ _ _ _ _ _ us hl => match us, hl with | [_, _], _ => rfl, fun cls n =>
  ((oss_one (os_for rfl (oi_seq (gv (by kernel_rfl))) (og_name (by kernel_rfl) (locB_ok (by kernel_rfl)) (by kernel_rfl)) (oss_one (os_sub (by kernel_rfl) oe_bl (gv (by kernel_rfl)) (gv (by kernel_rfl)) (fun _ _ => rfl))) (fun _ _ => rfl))) : OSs cls (ccOf gl sig cv n x21) (defBody (top 27)) c21)⟩
theorem k22 : DefOk gl sig cv x22 := ⟨⟨rfl, rfl, rfl, by decide +kernel, rfl, by decide +kernel, by decide +kernel⟩, rfl, rfl, rfl, fun _ _ _ _ _ _ us hl => match us, hl with | [_], _ => rfl, fun cls n =>
  ((oss_one (os_ret (gdiv (oe_len (bn bv_len (by kernel_rfl)) rfl (gv (by kernel_rfl))) oe_int))) : OSs cls (ccOf gl sig cv n x22) (defBody (top 29)) c22)⟩
theorem k23 : DefOk gl sig cv x23 := ⟨⟨rfl, rfl, rfl, by decide +kernel, rfl, by decide +kernel, by decide +kernel⟩, rfl, rfl, rfl, fun _ _ _ _ _ _ us hl => match us, hl with | [_], _ => rfl, fun cls n =>
  ((oss_one (os_ret (oe_tupRangeD (bn bv_tuple (by kernel_rfl)) (bn bv_range (by kernel_rfl)) rfl rfl (gsub (gmul oe_int (gv (by kernel_rfl))) oe_int) (oe_neg oe_int)))) : OSs cls (ccOf gl sig cv n x23) (defBody (top 30)) c23)⟩
theorem k24 : DefOk gl sig cv x24 := ⟨⟨rfl, rfl, rfl, by decide +kernel, rfl, by decide +kernel, by decide +kernel⟩, rfl, rfl, rfl, fun _ _ _ _ _ _ us hl => match us, hl with | [_, _], _ => rfl, fun cls n =>
  ((oss_cons rfl (os_asg rfl (by kernel_rfl) (by kernel_rfl) (oe_alloc (ol_list (bn bv_list (by kernel_rfl)) rfl (oe_call (f := 23) (np := 1) (by kernel_rfl) (by kernel_rfl) rfl rfl (ln_cons ln_nil) (by simp) (oa_cons rfl (gv (by kernel_rfl)) oa_nil)))) (og_name (by kernel_rfl) (locB_ok (by kernel_rfl)) (by kernel_rfl))) (oss_cons rfl (os_asg rfl (by kernel_rfl) (by kernel_rfl) (gsub (gsub (gmul oe_int (gv (by kernel_rfl))) oe_int) (gv (by kernel_rfl))) (og_name (by kernel_rfl) (locB_ok (by kernel_rfl)) (by kernel_rfl))) (oss_cons rfl (os_sub2 (by kernel_rfl) (by kernel_rfl) (oe_tup (oa_cons rfl (gadd (gv (by kernel_rfl)) oe_int) (oa_cons rfl (gv (by kernel_rfl)) oa_nil))) (gv (by kernel_rfl)) (gv (by kernel_rfl)) (gv (by kernel_rfl)) (gadd (gv (by kernel_rfl)) oe_int) (fun _ _ => rfl) (fun _ _ => rfl)) (oss_cons rfl (os_sub2 (by kernel_rfl) (by kernel_rfl) (oe_tup (oa_cons rfl (gsub (gv (by kernel_rfl)) oe_int) (oa_cons rfl (gv (by kernel_rfl)) oa_nil))) (gv (by kernel_rfl)) (gv (by kernel_rfl)) (gv (by kernel_rfl)) (gsub (gv (by kernel_rfl)) oe_int) (fun _ _ => rfl) (fun _ _ => rfl)) (oss_one (os_ret (oe_tupQ (bn bv_tuple (by kernel_rfl)) rfl (gv (by kernel_rfl))))))))) : OSs cls (ccOf gl sig cv n x24) (defBody (top 31)) c24)⟩
theorem k25 : DefOk gl sig cv x25 := ⟨⟨rfl, rfl, rfl, by decide +kernel, rfl, by decide +kernel, by decide +kernel⟩, rfl, rfl, rfl, fun _ _ _ _ _ _ us hl => match us, hl with | [_], _ => rfl, fun cls n =>
  ((oss_cons rfl (os_asg rfl (by kernel_rfl) (by kernel_rfl) (oe_call (f := 22) (np := 1) (by kernel_rfl) (by kernel_rfl) rfl rfl (ln_cons ln_nil) (by simp) (oa_cons rfl (gv (by kernel_rfl)) oa_nil)) (og_name (by kernel_rfl) (locB_ok (by kernel_rfl)) (by kernel_rfl))) (oss_one (os_ret (oe_tupL (bn bv_tuple (by kernel_rfl)) rfl (ol_comp (own := [("place", 2), ("own", 3)]) (blkOk_by (by kernel_rfl)) (oi_enum (bn bv_enumerate (by kernel_rfl)) rfl (oe_slice (gv (by kernel_rfl)) oo_none (oo_some (gv (by kernel_rfl))))) (og_tup rfl (lng_cons (lng_cons lng_nil)) (ogs_cons rfl (og_name (by kernel_rfl) (locB_ok (by kernel_rfl)) (by kernel_rfl)) (ogs_cons rfl (og_name (by kernel_rfl) (locB_ok (by kernel_rfl)) (by kernel_rfl)) ogs_nil))) (by decide +kernel) trivial (oe_if (tc ck_lt (gv (by kernel_rfl)) (gv (by kernel_rfl)) rfl) (gv (by kernel_rfl)) (gv (by kernel_rfl))) (fun _ _ => rfl)))))) : OSs cls (ccOf gl sig cv n x25) (defBody (top 32)) c25)⟩
theorem k26 : DefOk gl sig cv x26 := ⟨⟨rfl, rfl, rfl, by decide +kernel, rfl, by decide +kernel, by decide +kernel⟩, rfl, rfl, rfl, fun _ _ _ _ _ _ us hl => match us, hl with | [_], _ => rfl, fun cls n =>
  ((oss_one (os_ret (oe_tupL (bn bv_tuple (by kernel_rfl)) rfl (ol_comp (own := [("own", 1)]) (blkOk_by (by kernel_rfl)) (oi_seq (oe_rev (gv (by kernel_rfl)))) (og_name (by kernel_rfl) (locB_ok (by kernel_rfl)) (by kernel_rfl)) (by decide +kernel) trivial (gsub (gsub (oe_len (bn bv_len (by kernel_rfl)) rfl (gv (by kernel_rfl))) oe_int) (gv (by kernel_rfl))) (fun _ _ => rfl))))) : OSs cls (ccOf gl sig cv n x26) (defBody (top 33)) c26)⟩
theorem k27 : DefOk gl sig cv x27 := ⟨⟨rfl, rfl, rfl, by decide +kernel, rfl, by decide +kernel, by decide +kernel⟩, rfl, rfl, rfl, fun _ _ _ _ _ _ us hl => match us, hl with | [_], _ => rfl, fun cls n =>
  ((oss_one (os_ret (oe_call (f := 25) (np := 1) (by kernel_rfl) (by kernel_rfl) rfl rfl (ln_cons ln_nil) (by simp) (oa_cons rfl (oe_call (f := 26) (np := 1) (by kernel_rfl) (by kernel_rfl) rfl rfl (ln_cons ln_nil) (by simp) (oa_cons rfl (gv (by kernel_rfl)) oa_nil)) oa_nil)))) : OSs cls (ccOf gl sig cv n x27) (defBody (top 34)) c27)⟩
theorem k28 : DefOk gl sig cv x28 := ⟨⟨rfl, rfl, rfl, by decide +kernel, rfl, by decide +kernel, by decide +kernel⟩, rfl, rfl, rfl, fun _ _ _ _ _ _ us hl => match us, hl with | [_, _], _ => rfl, fun cls n =>
  ((oss_cons rfl (os_par2 (by kernel_rfl) (by kernel_rfl) (by decide +kernel) (by kernel_rfl) (by kernel_rfl) (by kernel_rfl) (by kernel_rfl) (oa_cons rfl (oe_call (f := 22) (np := 1) (by kernel_rfl) (by kernel_rfl) rfl rfl (ln_cons ln_nil) (by simp) (oa_cons rfl (gv (by kernel_rfl)) oa_nil)) (oa_cons rfl (oe_alloc (ol_disp oa_nil)) oa_nil))) (oss_cons rfl (os_for rfl (oi_rng1 (bn bv_range (by kernel_rfl)) rfl (gv (by kernel_rfl))) (og_name (by kernel_rfl) (locB_ok (by kernel_rfl)) (by kernel_rfl)) (oss_cons rfl (os_asg rfl (by kernel_rfl) (by kernel_rfl) (oe_idx (fun _ _ => rfl) (gv (by kernel_rfl)) (gv (by kernel_rfl))) (og_name (by kernel_rfl) (locB_ok (by kernel_rfl)) (by kernel_rfl))) (oss_cons rfl (os_while rfl (ot_of_ow (ow_and (tc ck_ge (gv (by kernel_rfl)) (gv (by kernel_rfl)) rfl) (ow_and1 (tc ck_ne (oe_idx (fun _ _ => rfl) (gv (by kernel_rfl)) (gsub (gsub (gmul oe_int (gv (by kernel_rfl))) oe_int) (gv (by kernel_rfl)))) (gsub (gsub (gmul oe_int (gv (by kernel_rfl))) oe_int) (gv (by kernel_rfl))) rfl)))) (oss_one (os_asg rfl (by kernel_rfl) (by kernel_rfl) (oe_idx (fun _ _ => rfl) (gv (by kernel_rfl)) (gsub (gsub (gmul oe_int (gv (by kernel_rfl))) oe_int) (oe_idx (fun _ _ => rfl) (gv (by kernel_rfl)) (gsub (gsub (gmul oe_int (gv (by kernel_rfl))) oe_int) (gv (by kernel_rfl)))))) (og_name (by kernel_rfl) (locB_ok (by kernel_rfl)) (by kernel_rfl))))) (oss_one (os_expr rfl (oe_app rfl rfl rfl (gv (by kernel_rfl)) (oe_if (tc ck_ge (gv (by kernel_rfl)) (gv (by kernel_rfl)) rfl) (gv (by kernel_rfl)) (gv (by kernel_rfl)))))))) (fun _ _ => rfl)) (oss_one (os_ret (oe_tup (oa_cons rfl (oe_idx (fun _ _ => rfl) (oe_call (f := 20) (np := 2) (by kernel_rfl) (by kernel_rfl) rfl rfl (ln_cons (ln_cons ln_nil)) (by simp) (oa_cons rfl (oe_call (f := 27) (np := 1) (by kernel_rfl) (by kernel_rfl) rfl rfl (ln_cons ln_nil) (by simp) (oa_cons rfl (gv (by kernel_rfl)) oa_nil)) (oa_cons rfl (gv (by kernel_rfl)) oa_nil))) oe_int) (oa_cons rfl (oe_tupQ (bn bv_tuple (by kernel_rfl)) rfl (gv (by kernel_rfl))) oa_nil))))))) : OSs cls (ccOf gl sig cv n x28) (defBody (top 35)) c28)⟩
theorem k29 : DefOk gl sig cv x29 := ⟨⟨rfl, rfl, rfl, by decide +kernel, rfl, by decide +kernel, by decide +kernel⟩, rfl, rfl, rfl, fun _ _ _ _ _ _ us hl => match us, hl with | [_], _ => rfl, fun cls n =>
  ((oss_one (os_ret (oe_and (oe_call (f := 1) (np := 1) (by kernel_rfl) (by kernel_rfl) rfl rfl (ln_cons ln_nil) (by simp) (oa_cons rfl (gv (by kernel_rfl)) oa_nil)) (oe_one (oe_or (gc ck_eq (gv (by kernel_rfl)) oe_int rfl) (oe_one (gc ck_in (gv (by kernel_rfl)) (gg (k := 2) (by kernel_rfl) rfl) rfl)) rfl)) rfl))) : OSs cls (ccOf gl sig cv n x29) (defBody (top 40)) c29)⟩
theorem k30 : DefOk gl sig cv x30 := ⟨⟨rfl, rfl, rfl, by decide +kernel, rfl, by decide +kernel, by decide +kernel⟩, rfl, rfl, rfl, fun _ _ _ _ _ _ us hl => match us, hl with | [_, _], _ => rfl, fun cls n =>
  ((oss_cons rfl (os_par2 (by kernel_rfl) (by kernel_rfl) (by decide +kernel) (by kernel_rfl) (by kernel_rfl) (by kernel_rfl) (by kernel_rfl) (oa_cons rfl (oe_abs (bn bv_abs (by kernel_rfl)) rfl (gv (by kernel_rfl))) (oa_cons rfl (oe_abs (bn bv_abs (by kernel_rfl)) rfl (gv (by kernel_rfl))) oa_nil))) (oss_cons rfl (os_while rfl (tc ck_ne (gv (by kernel_rfl)) oe_int rfl) (oss_one (os_par2 (by kernel_rfl) (by kernel_rfl) (by decide +kernel) (by kernel_rfl) (by kernel_rfl) (by kernel_rfl) (by kernel_rfl) (oa_cons rfl (gv (by kernel_rfl)) (oa_cons rfl (gmod (gv (by kernel_rfl)) (gv (by kernel_rfl))) oa_nil))))) (oss_one (os_ret (gv (by kernel_rfl)))))) : OSs cls (ccOf gl sig cv n x30) (defBody (top 41)) c30)⟩
theorem k31 : DefOk gl sig cv x31 := ⟨⟨rfl, rfl, rfl, by decide +kernel, rfl, by decide +kernel, by decide +kernel⟩, rfl, rfl, rfl, fun _ _ _ _ _ _ us hl => match us, hl with | [_, _], _ => rfl, fun cls n =>
  ((oss_cons rfl (os_if (ot_of_ow (ow_or (ot_not (ot_val (oe_call (f := 4) (np := 2) (by kernel_rfl) (by kernel_rfl) rfl rfl (ln_cons (ln_cons ln_nil)) (by simp) (oa_cons rfl (gv (by kernel_rfl)) (oa_cons rfl (gg (k := 0) (by kernel_rfl) rfl) oa_nil))) fun _ _ => rfl)) (ow_or (ot_not (ot_val (oe_call (f := 1) (np := 1) (by kernel_rfl) (by kernel_rfl) rfl rfl (ln_cons ln_nil) (by simp) (oa_cons rfl (oe_idx (fun _ _ => rfl) (gv (by kernel_rfl)) oe_int) oa_nil)) fun _ _ => rfl)) (ow_or1 (ot_not (ot_val (oe_call (f := 1) (np := 1) (by kernel_rfl) (by kernel_rfl) rfl rfl (ln_cons ln_nil) (by simp) (oa_cons rfl (oe_idx (fun _ _ => rfl) (gv (by kernel_rfl)) oe_int) oa_nil)) fun _ _ => rfl)))))) (oss_one (os_ret oe_bl)) oss_nil) (oss_cons rfl (os_if (tc ck_gt (gv (by kernel_rfl)) oe_int rfl) (oss_one (os_ret (oe_and (gc ck_eq (oe_idx (fun _ _ => rfl) (gv (by kernel_rfl)) oe_int) oe_int rfl) (oe_one (gch ck_le ck_lt oe_int (oe_idx (fun _ _ => rfl) (gv (by kernel_rfl)) oe_int) (gv (by kernel_rfl)) rfl)) rfl))) oss_nil) (oss_one (os_ret (oe_and (gc ck_gt (oe_idx (fun _ _ => rfl) (gv (by kernel_rfl)) oe_int) oe_int rfl) (oe_one (gc ck_eq (oe_call (f := 30) (np := 2) (by kernel_rfl) (by kernel_rfl) rfl rfl (ln_cons (ln_cons ln_nil)) (by simp) (oa_cons rfl (oe_idx (fun _ _ => rfl) (gv (by kernel_rfl)) oe_int) (oa_cons rfl (oe_idx (fun _ _ => rfl) (gv (by kernel_rfl)) oe_int) oa_nil))) oe_int rfl)) rfl))))) : OSs cls (ccOf gl sig cv n x31) (defBody (top 42)) c31)⟩
theorem k32 : DefOk gl sig cv x32 := ⟨⟨rfl, rfl, rfl, by decide +kernel, rfl, by decide +kernel, by decide +kernel⟩, rfl, rfl, rfl, fun _ _ _ _ _ _ us hl => match us, hl with | [_, _], _ => rfl, fun cls n =>
  ((oss_cons rfl (os_asg rfl (by kernel_rfl) (by kernel_rfl) oe_int (og_name (by kernel_rfl) (locB_ok (by kernel_rfl)) (by kernel_rfl))) (oss_cons rfl (os_for rfl (oi_rng1 (bn bv_range (by kernel_rfl)) rfl (gsub (gv (by kernel_rfl)) oe_int)) (og_name (by kernel_rfl) (locB_ok (by kernel_rfl)) (by kernel_rfl)) (oss_one (os_asg rfl (by kernel_rfl) (by kernel_rfl) (gmod (gmul (gv (by kernel_rfl)) (gv (by kernel_rfl))) (gv (by kernel_rfl))) (og_name (by kernel_rfl) (locB_ok (by kernel_rfl)) (by kernel_rfl)))) (fun _ _ => rfl)) (oss_one (os_ret (gmod (gv (by kernel_rfl)) (gv (by kernel_rfl))))))) : OSs cls (ccOf gl sig cv n x32) (defBody (top 43)) c32)⟩
theorem k33 : DefOk gl sig cv x33 := ⟨⟨rfl, rfl, rfl, by decide +kernel, rfl, by decide +kernel, by decide +kernel⟩, rfl, rfl, rfl, fun _ _ _ _ _ _ us hl => match us, hl with | [_, _, _], _ => rfl, fun cls n =>
  ((oss_cons rfl (os_if (tc ck_gt (gv (by kernel_rfl)) oe_int rfl) (oss_one (os_ret (oe_tup (oa_cons rfl (gmod (gmul (gv (by kernel_rfl)) (oe_call (f := 32) (np := 2) (by kernel_rfl) (by kernel_rfl) rfl rfl (ln_cons (ln_cons ln_nil)) (by simp) (oa_cons rfl (gv (by kernel_rfl)) (oa_cons rfl (gv (by kernel_rfl)) oa_nil)))) (gv (by kernel_rfl))) (oa_cons rfl oe_int oa_nil))))) oss_nil) (oss_cons rfl (os_asg rfl (by kernel_rfl) (by kernel_rfl) (oe_if (tc ck_gt (gv (by kernel_rfl)) oe_int rfl) (oe_call (f := 30) (np := 2) (by kernel_rfl) (by kernel_rfl) rfl rfl (ln_cons (ln_cons ln_nil)) (by simp) (oa_cons rfl (gv (by kernel_rfl)) (oa_cons rfl (gv (by kernel_rfl)) oa_nil))) (gsub oe_int (oe_call (f := 30) (np := 2) (by kernel_rfl) (by kernel_rfl) rfl rfl (ln_cons (ln_cons ln_nil)) (by simp) (oa_cons rfl (gv (by kernel_rfl)) (oa_cons rfl (gv (by kernel_rfl)) oa_nil))))) (og_name (by kernel_rfl) (locB_ok (by kernel_rfl)) (by kernel_rfl))) (oss_one (os_ret (oe_tup (oa_cons rfl (gdiv (gv (by kernel_rfl)) (gv (by kernel_rfl))) (oa_cons rfl (gdiv (gv (by kernel_rfl)) (gv (by kernel_rfl))) oa_nil))))))) : OSs cls (ccOf gl sig cv n x33) (defBody (top 44)) c33)⟩
theorem k34 : DefOk gl sig cv x34 := ⟨⟨rfl, rfl, rfl, by decide +kernel, rfl, by decide +kernel, by decide +kernel⟩, rfl, rfl, rfl, fun _ _ _ _ _ _ us hl => match us, hl with | [_, _, _], _ => rfl, fun cls n =>
  ((oss_cons rfl (os_if (tc ck_gt (gv (by kernel_rfl)) oe_int rfl) (oss_one (os_ret (oe_tup (oa_cons rfl (gmod (gadd (oe_idx (fun _ _ => rfl) (gv (by kernel_rfl)) oe_int) (oe_idx (fun _ _ => rfl) (gv (by kernel_rfl)) oe_int)) (gv (by kernel_rfl))) (oa_cons rfl oe_int oa_nil))))) oss_nil) (oss_one (os_ret (oe_call (f := 33) (np := 3) (by kernel_rfl) (by kernel_rfl) rfl rfl (ln_cons (ln_cons (ln_cons ln_nil))) (by simp) (oa_cons rfl oe_int (oa_cons rfl (gadd (gmul (oe_idx (fun _ _ => rfl) (gv (by kernel_rfl)) oe_int) (oe_idx (fun _ _ => rfl) (gv (by kernel_rfl)) oe_int)) (gmul (oe_idx (fun _ _ => rfl) (gv (by kernel_rfl)) oe_int) (oe_idx (fun _ _ => rfl) (gv (by kernel_rfl)) oe_int))) (oa_cons rfl (gmul (oe_idx (fun _ _ => rfl) (gv (by kernel_rfl)) oe_int) (oe_idx (fun _ _ => rfl) (gv (by kernel_rfl)) oe_int)) oa_nil))))))) : OSs cls (ccOf gl sig cv n x34) (defBody (top 45)) c34)⟩
theorem k35 : DefOk gl sig cv x35 := ⟨⟨rfl, rfl, rfl, by decide +kernel, rfl, by decide +kernel, by decide +kernel⟩, rfl, rfl, rfl, fun _ _ _ _ _ _ us hl => match us, hl with | [_, _, _], _ => rfl, fun cls n =>
  ((oss_cons rfl (os_if (tc ck_gt (gv (by kernel_rfl)) oe_int rfl) (oss_one (os_ret (oe_tup (oa_cons rfl (gmod (gmul (oe_idx (fun _ _ => rfl) (gv (by kernel_rfl)) oe_int) (oe_idx (fun _ _ => rfl) (gv (by kernel_rfl)) oe_int)) (gv (by kernel_rfl))) (oa_cons rfl oe_int oa_nil))))) oss_nil) (oss_one (os_ret (oe_call (f := 33) (np := 3) (by kernel_rfl) (by kernel_rfl) rfl rfl (ln_cons (ln_cons (ln_cons ln_nil))) (by simp) (oa_cons rfl oe_int (oa_cons rfl (gmul (oe_idx (fun _ _ => rfl) (gv (by kernel_rfl)) oe_int) (oe_idx (fun _ _ => rfl) (gv (by kernel_rfl)) oe_int)) (oa_cons rfl (gmul (oe_idx (fun _ _ => rfl) (gv (by kernel_rfl)) oe_int) (oe_idx (fun _ _ => rfl) (gv (by kernel_rfl)) oe_int)) oa_nil))))))) : OSs cls (ccOf gl sig cv n x35) (defBody (top 46)) c35)⟩
theorem k36 : DefOk gl sig cv x36 := ⟨⟨rfl, rfl, rfl, by decide +kernel, rfl, by decide +kernel, by decide +kernel⟩, rfl, rfl, rfl, fun _ _ _ _ _ _ us hl => match us, hl with | [_, _, _], _ => rfl, fun cls n =>
  ((oss_cons rfl (os_asg rfl (by kernel_rfl) (by kernel_rfl) (gg (k := 4) (by kernel_rfl) rfl) (og_name (by kernel_rfl) (locB_ok (by kernel_rfl)) (by kernel_rfl))) (oss_cons rfl (os_for rfl (oi_rng1 (bn bv_range (by kernel_rfl)) rfl (gv (by kernel_rfl))) (og_name (by kernel_rfl) (locB_ok (by kernel_rfl)) (by kernel_rfl)) (oss_one (os_asg rfl (by kernel_rfl) (by kernel_rfl) (oe_call (f := 35) (np := 3) (by kernel_rfl) (by kernel_rfl) rfl rfl (ln_cons (ln_cons (ln_cons ln_nil))) (by simp) (oa_cons rfl (gv (by kernel_rfl)) (oa_cons rfl (gv (by kernel_rfl)) (oa_cons rfl (gv (by kernel_rfl)) oa_nil)))) (og_name (by kernel_rfl) (locB_ok (by kernel_rfl)) (by kernel_rfl)))) (fun _ _ => rfl)) (oss_one (os_ret (gv (by kernel_rfl)))))) : OSs cls (ccOf gl sig cv n x36) (defBody (top 47)) c36)⟩
theorem k37 : DefOk gl sig cv x37 := ⟨⟨rfl, rfl, rfl, by decide +kernel, rfl, by decide +kernel, by decide +kernel⟩, rfl, rfl, rfl, fun _ _ _ _ _ _ us hl => match us, hl with | [_, _], _ => rfl, fun cls n =>
  ((oss_one (os_ret (oe_alloc (ol_comp (own := [("place", 2)]) (blkOk_by (by kernel_rfl)) (oi_rng1 (bn bv_range (by kernel_rfl)) rfl (gv (by kernel_rfl))) (og_name (by kernel_rfl) (locB_ok (by kernel_rfl)) (by kernel_rfl)) (by decide +kernel) trivial (oe_alloc (ol_comp (own := [("row", 3)]) (blkOk_by (by kernel_rfl)) (oi_seq (gv (by kernel_rfl))) (og_name (by kernel_rfl) (locB_ok (by kernel_rfl)) (by kernel_rfl)) (by decide +kernel) trivial (oe_idx (fun _ _ => rfl) (gv (by kernel_rfl)) (gv (by kernel_rfl))) (fun _ _ => rfl))) (fun _ _ => rfl))))) : OSs cls (ccOf gl sig cv n x37) (defBody (top 49)) c37)⟩
theorem k38 : DefOk gl sig cv x38 := ⟨⟨rfl, rfl, rfl, by decide +kernel, rfl, by decide +kernel, by decide +kernel⟩, rfl, rfl, rfl, fun _ _ _ _ _ _ us hl => match us, hl with | [_], _ => rfl, fun cls n =>
  ((oss_cons rfl (os_if (ot_of_ow (ow_or (ot_not (ot_val (oe_call (f := 4) (np := 2) (by kernel_rfl) (by kernel_rfl) rfl rfl (ln_cons (ln_cons ln_nil)) (by simp) (oa_cons rfl (gv (by kernel_rfl)) (oa_cons rfl (gg (k := 1) (by kernel_rfl) rfl) oa_nil))) fun _ _ => rfl)) (ow_or (ot_not (ot_val (oe_call (f := 1) (np := 1) (by kernel_rfl) (by kernel_rfl) rfl rfl (ln_cons ln_nil) (by simp) (oa_cons rfl (oe_idx (fun _ _ => rfl) (gv (by kernel_rfl)) oe_int) oa_nil)) fun _ _ => rfl)) (ow_or1 (tc ck_lt (oe_idx (fun _ _ => rfl) (gv (by kernel_rfl)) oe_int) oe_int rfl))))) (oss_one (os_ret oe_bl)) oss_nil) (oss_one (os_ret (oe_and (oe_call (f := 29) (np := 1) (by kernel_rfl) (by kernel_rfl) rfl rfl (ln_cons ln_nil) (by simp) (oa_cons rfl (oe_idx (fun _ _ => rfl) (gv (by kernel_rfl)) oe_int) oa_nil)) (oe_one (oe_call (f := 31) (np := 2) (by kernel_rfl) (by kernel_rfl) rfl rfl (ln_cons (ln_cons ln_nil)) (by simp) (oa_cons rfl (oe_idx (fun _ _ => rfl) (gv (by kernel_rfl)) oe_int) (oa_cons rfl (oe_idx (fun _ _ => rfl) (gv (by kernel_rfl)) (gg (k := 0) (by kernel_rfl) rfl)) oa_nil)))) rfl)))) : OSs cls (ccOf gl sig cv n x38) (defBody (top 51)) c38)⟩
theorem k39 : DefOk gl sig cv x39 := ⟨⟨rfl, rfl, rfl, by decide +kernel, rfl, by decide +kernel, by decide +kernel⟩, rfl, rfl, rfl, fun _ _ _ _ _ _ us hl => match us, hl with | [_], _ => rfl, fun cls n =>
  ((oss_cons rfl (os_asg rfl (by kernel_rfl) (by kernel_rfl) (oe_call (f := 0) (np := 1) (by kernel_rfl) (by kernel_rfl) rfl rfl (ln_cons ln_nil) (by simp) (oa_cons rfl (gv (by kernel_rfl)) oa_nil)) (og_name (by kernel_rfl) (locB_ok (by kernel_rfl)) (by kernel_rfl))) (oss_cons rfl (os_if (ot_not (ot_val (oe_call (f := 38) (np := 1) (by kernel_rfl) (by kernel_rfl) rfl rfl (ln_cons ln_nil) (by simp) (oa_cons rfl (gv (by kernel_rfl)) oa_nil)) fun _ _ => rfl)) (oss_one (os_raise (by kernel_rfl) (by kernel_rfl) rfl)) oss_nil) (oss_one (os_ret (gv (by kernel_rfl)))))) : OSs cls (ccOf gl sig cv n x39) (defBody (top 52)) c39)⟩
theorem k40 : DefOk gl sig cv x40 := ⟨⟨rfl, rfl, rfl, by decide +kernel, rfl, by decide +kernel, by decide +kernel⟩, rfl, rfl, rfl, fun _ _ _ _ _ _ us hl => match us, hl with | [_, _], _ => rfl, fun cls n =>
  ((oss_one (os_ret (oe_call (f := 36) (np := 3) (by kernel_rfl) (by kernel_rfl) rfl rfl (ln_cons (ln_cons (ln_cons ln_nil))) (by simp) (oa_cons rfl (oe_idx (fun _ _ => rfl) (gv (by kernel_rfl)) oe_int) (oa_cons rfl (oe_idx (fun _ _ => rfl) (gv (by kernel_rfl)) (gg (k := 0) (by kernel_rfl) rfl)) (oa_cons rfl (gv (by kernel_rfl)) oa_nil)))))) : OSs cls (ccOf gl sig cv n x40) (defBody (top 53)) c40)⟩
theorem k41 : DefOk gl sig cv x41 := ⟨⟨rfl, rfl, rfl, by decide +kernel, rfl, by decide +kernel, by decide +kernel⟩, rfl, rfl, rfl, fun _ _ _ _ _ _ us hl => match us, hl with | [_, _], _ => rfl, fun cls n =>
  ((oss_one (os_ret (oe_call (f := 7) (np := 2) (by kernel_rfl) (by kernel_rfl) rfl rfl (ln_cons (ln_cons ln_nil)) (by simp) (oa_cons rfl (gv (by kernel_rfl)) (oa_cons rfl (gadd (gdiv (gv (by kernel_rfl)) (gg (k := 0) (by kernel_rfl) rfl)) oe_int) oa_nil))))) : OSs cls (ccOf gl sig cv n x41) (defBody (top 55)) c41)⟩
theorem k42 : DefOk gl sig cv x42 := ⟨⟨rfl, rfl, rfl, by decide +kernel, rfl, by decide +kernel, by decide +kernel⟩, rfl, rfl, rfl, fun _ _ _ _ _ _ us hl => match us, hl with | [_, _, _, _], _ => rfl, fun cls n =>
  ((oss_cons rfl (os_par2 (by kernel_rfl) (by kernel_rfl) (by decide +kernel) (by kernel_rfl) (by kernel_rfl) (by kernel_rfl) (by kernel_rfl) (oa_cons rfl (oe_idx (fun _ _ => rfl) (gv (by kernel_rfl)) oe_int) (oa_cons rfl (oe_call (f := 11) (np := 1) (by kernel_rfl) (by kernel_rfl) rfl rfl (ln_cons ln_nil) (by simp) (oa_cons rfl (gv (by kernel_rfl)) oa_nil)) oa_nil))) (oss_cons rfl (os_asg rfl (by kernel_rfl) (by kernel_rfl) (gmul (oe_alloc (ol_disp (oa_cons rfl (gg (k := 3) (by kernel_rfl) rfl) oa_nil))) (oe_len (bn bv_len (by kernel_rfl)) rfl (gv (by kernel_rfl)))) (og_name (by kernel_rfl) (locB_ok (by kernel_rfl)) (by kernel_rfl))) (oss_cons rfl (os_for rfl (oi_seq (gv (by kernel_rfl))) (og_tup rfl (lng_cons (lng_cons lng_nil)) (ogs_cons rfl (og_name (by kernel_rfl) (locB_ok (by kernel_rfl)) (by kernel_rfl)) (ogs_cons rfl (og_name (by kernel_rfl) (locB_ok (by kernel_rfl)) (by kernel_rfl)) ogs_nil))) (oss_cons rfl (os_asg rfl (by kernel_rfl) (by kernel_rfl) (oe_call (f := 28) (np := 2) (by kernel_rfl) (by kernel_rfl) rfl rfl (ln_cons (ln_cons ln_nil)) (by simp) (oa_cons rfl (gv (by kernel_rfl)) (oa_cons rfl (gv (by kernel_rfl)) oa_nil))) (og_tup rfl (lng_cons (lng_cons lng_nil)) (ogs_cons rfl (og_name (by kernel_rfl) (locB_ok (by kernel_rfl)) (by kernel_rfl)) (ogs_cons rfl (og_name (by kernel_rfl) (locB_ok (by kernel_rfl)) (by kernel_rfl)) ogs_nil)))) (oss_one (os_if (tc ck_eq (oe_call (f := 11) (np := 1) (by kernel_rfl) (by kernel_rfl) rfl rfl (ln_cons ln_nil) (by simp) (oa_cons rfl (gv (by kernel_rfl)) oa_nil)) (gv (by kernel_rfl)) rfl) (oss_cons rfl (os_asg rfl (by kernel_rfl) (by kernel_rfl) (oe_index rfl rfl rfl un64 (gv (by kernel_rfl)) (gv (by kernel_rfl))) (og_name (by kernel_rfl) (locB_ok (by kernel_rfl)) (by kernel_rfl))) (oss_one (os_sub (by kernel_rfl) (oe_call (f := 34) (np := 3) (by kernel_rfl) (by kernel_rfl) rfl rfl (ln_cons (ln_cons (ln_cons ln_nil))) (by simp) (oa_cons rfl (gv (by kernel_rfl)) (oa_cons rfl (oe_idx (fun _ _ => rfl) (gv (by kernel_rfl)) (gv (by kernel_rfl))) (oa_cons rfl (oe_call (f := 35) (np := 3) (by kernel_rfl) (by kernel_rfl) rfl rfl (ln_cons (ln_cons (ln_cons ln_nil))) (by simp) (oa_cons rfl (gv (by kernel_rfl)) (oa_cons rfl (gv (by kernel_rfl)) (oa_cons rfl (oe_call (f := 40) (np := 2) (by kernel_rfl) (by kernel_rfl) rfl rfl (ln_cons (ln_cons ln_nil)) (by simp) (oa_cons rfl (gv (by kernel_rfl)) (oa_cons rfl (gv (by kernel_rfl)) oa_nil))) oa_nil)))) oa_nil)))) (gv (by kernel_rfl)) (gv (by kernel_rfl)) (fun _ _ => rfl)))) oss_nil))) (fun _ _ => rfl)) (oss_one (os_ret (gv (by kernel_rfl))))))) : OSs cls (ccOf gl sig cv n x42) (defBody (top 57)) c42)⟩
theorem k43 : DefOk gl sig cv x43 := ⟨⟨rfl, rfl, rfl, by decide +kernel, rfl, by decide +kernel, by decide +kernel⟩, rfl, rfl, rfl, fun _ _ _ _ _ _ us hl => match us, hl with | [_, _, _], _ => rfl, fun cls n =>
  ((oss_cons rfl (os_asg rfl (by kernel_rfl) (by kernel_rfl) (oe_call (f := 16) (np := 2) (by kernel_rfl) (by kernel_rfl) rfl rfl (ln_cons (ln_cons ln_nil)) (by simp) (oa_cons rfl (oe_idx (fun _ _ => rfl) (gv (by kernel_rfl)) oe_int) (oa_cons rfl (gv (by kernel_rfl)) oa_nil))) (og_name (by kernel_rfl) (locB_ok (by kernel_rfl)) (by kernel_rfl))) (oss_one (os_ret (oe_alloc (ol_comp (own := [("half", 4)]) (blkOk_by (by kernel_rfl)) (oi_seq (gv (by kernel_rfl))) (og_name (by kernel_rfl) (locB_ok (by kernel_rfl)) (by kernel_rfl)) (by decide +kernel) trivial (oe_call (f := 42) (np := 4) (by kernel_rfl) (by kernel_rfl) rfl rfl (ln_cons (ln_cons (ln_cons (ln_cons ln_nil)))) (by simp) (oa_cons rfl (gv (by kernel_rfl)) (oa_cons rfl (gv (by kernel_rfl)) (oa_cons rfl (gv (by kernel_rfl)) (oa_cons rfl (gv (by kernel_rfl)) oa_nil))))) (fun _ _ => rfl)))))) : OSs cls (ccOf gl sig cv n x43) (defBody (top 58)) c43)⟩
theorem k44 : DefOk gl sig cv x44 := ⟨⟨rfl, rfl, rfl, by decide +kernel, rfl, by decide +kernel, by decide +kernel⟩, rfl, rfl, rfl, fun _ _ _ _ _ _ us hl => match us, hl with | [_, _, _], _ => rfl, fun cls n =>
  ((oss_cons rfl (os_asg rfl (by kernel_rfl) (by kernel_rfl) (oe_call (f := 43) (np := 3) (by kernel_rfl) (by kernel_rfl) rfl rfl (ln_cons (ln_cons (ln_cons ln_nil))) (by simp) (oa_cons rfl (gv (by kernel_rfl)) (oa_cons rfl (gv (by kernel_rfl)) (oa_cons rfl (gv (by kernel_rfl)) oa_nil)))) (og_name (by kernel_rfl) (locB_ok (by kernel_rfl)) (by kernel_rfl))) (oss_one (os_ret (oe_tupL (bn bv_tuple (by kernel_rfl)) rfl (ol_comp (own := [("row", 4)]) (blkOk_by (by kernel_rfl)) (oi_seq (oe_call (f := 37) (np := 2) (by kernel_rfl) (by kernel_rfl) rfl rfl (ln_cons (ln_cons ln_nil)) (by simp) (oa_cons rfl (gv (by kernel_rfl)) (oa_cons rfl (oe_len (bn bv_len (by kernel_rfl)) rfl (gv (by kernel_rfl))) oa_nil)))) (og_name (by kernel_rfl) (locB_ok (by kernel_rfl)) (by kernel_rfl)) (by decide +kernel) trivial (oe_tupQ (bn bv_tuple (by kernel_rfl)) rfl (gv (by kernel_rfl))) (fun _ _ => rfl)))))) : OSs cls (ccOf gl sig cv n x44) (defBody (top 59)) c44)⟩
theorem k45 : DefOk gl sig cv x45 := ⟨⟨rfl, rfl, rfl, by decide +kernel, rfl, by decide +kernel, by decide +kernel⟩, rfl, rfl, rfl, fun _ _ _ _ _ _ us hl => match us, hl with | [_], _ => rfl, fun cls n =>
  ((oss_cons rfl (os_par2 (by kernel_rfl) (by kernel_rfl) (by decide +kernel) (by kernel_rfl) (by kernel_rfl) (by kernel_rfl) (by kernel_rfl) (oa_cons rfl (oe_alloc (ol_disp oa_nil)) (oa_cons rfl oe_int oa_nil))) (oss_cons rfl (os_for rfl (oi_seq (oe_call (f := 13) (np := 1) (by kernel_rfl) (by kernel_rfl) rfl rfl (ln_cons ln_nil) (by simp) (oa_cons rfl (oe_call (f := 10) (np := 1) (by kernel_rfl) (by kernel_rfl) rfl rfl (ln_cons ln_nil) (by simp) (oa_cons rfl (gv (by kernel_rfl)) oa_nil)) oa_nil))) (og_name (by kernel_rfl) (locB_ok (by kernel_rfl)) (by kernel_rfl)) (oss_cons rfl (os_asg rfl (by kernel_rfl) (by kernel_rfl) (gadd (gv (by kernel_rfl)) (gv (by kernel_rfl))) (og_name (by kernel_rfl) (locB_ok (by kernel_rfl)) (by kernel_rfl))) (oss_one (os_expr rfl (oe_app rfl rfl rfl (gv (by kernel_rfl)) (gv (by kernel_rfl)))))) (fun _ _ => rfl)) (oss_one (os_ret (oe_tupQ (bn bv_tuple (by kernel_rfl)) rfl (gv (by kernel_rfl))))))) : OSs cls (ccOf gl sig cv n x45) (defBody (top 61)) c45)⟩
theorem k46 : DefOk gl sig cv x46 := ⟨⟨rfl, rfl, rfl, by decide +kernel, rfl, by decide +kernel, by decide +kernel⟩, rfl, rfl, rfl, fun _ _ _ _ _ _ us hl => match us, hl with | [_], _ => rfl, fun cls n =>
  ((oss_cons rfl (os_asg rfl (by kernel_rfl) (by kernel_rfl) (oe_call (f := 8) (np := 1) (by kernel_rfl) (by kernel_rfl) rfl rfl (ln_cons ln_nil) (by simp) (oa_cons rfl (gv (by kernel_rfl)) oa_nil)) (og_name (by kernel_rfl) (locB_ok (by kernel_rfl)) (by kernel_rfl))) (oss_cons rfl (os_if (ot_of_ow (ow_or (tc ck_eq (gv (by kernel_rfl)) (oe_tup oa_nil) rfl) (ow_or1 (ot_not (ot_val (oe_allL (bn bv_all (by kernel_rfl)) rfl (ol_comp (own := [("number", 5)]) (blkOk_by (by kernel_rfl)) (oi_seq (gv (by kernel_rfl))) (og_name (by kernel_rfl) (locB_ok (by kernel_rfl)) (by kernel_rfl)) (by decide +kernel) trivial (oe_call (f := 2) (np := 1) (by kernel_rfl) (by kernel_rfl) rfl rfl (ln_cons ln_nil) (by simp) (oa_cons rfl (gv (by kernel_rfl)) oa_nil)) (fun _ _ => rfl))) fun _ _ => rfl))))) (oss_one (os_raise (by kernel_rfl) (by kernel_rfl) rfl)) oss_nil) (oss_cons rfl (os_setLc (own := [("near", 3), ("far", 4)]) (blkOk_by (by kernel_rfl)) (by kernel_rfl) (by kernel_rfl) (by kernel_rfl) (oi_zip (bn bv_zip (by kernel_rfl)) rfl rfl (gadd (oe_tup (oa_cons rfl oe_int oa_nil)) (gv (by kernel_rfl))) (gv (by kernel_rfl))) (og_tup rfl (lng_cons (lng_cons lng_nil)) (ogs_cons rfl (og_name (by kernel_rfl) (locB_ok (by kernel_rfl)) (by kernel_rfl)) (ogs_cons rfl (og_name (by kernel_rfl) (locB_ok (by kernel_rfl)) (by kernel_rfl)) ogs_nil))) (by decide +kernel) trivial (gsub (gv (by kernel_rfl)) (gv (by kernel_rfl))) (fun _ _ => rfl)) (oss_cons rfl (os_if (ot_not (ot_val (oe_allL (bn bv_all (by kernel_rfl)) rfl (ol_comp (own := [("number", 5)]) (blkOk_by (by kernel_rfl)) (oi_seq (gv (by kernel_rfl))) (og_name (by kernel_rfl) (locB_ok (by kernel_rfl)) (by kernel_rfl)) (by decide +kernel) trivial (gc ck_in (gv (by kernel_rfl)) (oe_tup (oa_cons rfl oe_int (oa_cons rfl (oe_neg oe_int) oa_nil))) rfl) (fun _ _ => rfl))) fun _ _ => rfl)) (oss_one (os_raise (by kernel_rfl) (by kernel_rfl) rfl)) oss_nil) (oss_one (os_ret (oe_call (f := 14) (np := 1) (by kernel_rfl) (by kernel_rfl) rfl rfl (ln_cons ln_nil) (by simp) (oa_cons rfl (gv (by kernel_rfl)) oa_nil)))))))) : OSs cls (ccOf gl sig cv n x46) (defBody (top 62)) c46)⟩
theorem k47 : DefOk gl sig cv x47 := ⟨⟨rfl, rfl, rfl, by decide +kernel, rfl, by decide +kernel, by decide +kernel⟩, rfl, rfl, rfl, fun _ _ _ _ _ _ us hl => match us, hl with | [_, _], _ => rfl, fun cls n =>
  ((oss_cons rfl (os_asg rfl (by kernel_rfl) (by kernel_rfl) (oe_call (f := 6) (np := 1) (by kernel_rfl) (by kernel_rfl) rfl rfl (ln_cons ln_nil) (by simp) (oa_cons rfl (gv (by kernel_rfl)) oa_nil)) (og_name (by kernel_rfl) (locB_ok (by kernel_rfl)) (by kernel_rfl))) (oss_cons rfl (os_asg rfl (by kernel_rfl) (by kernel_rfl) (gsub (gv (by kernel_rfl)) (oe_call (f := 5) (np := 1) (by kernel_rfl) (by kernel_rfl) rfl rfl (ln_cons ln_nil) (by simp) (oa_cons rfl (gv (by kernel_rfl)) oa_nil))) (og_name (by kernel_rfl) (locB_ok (by kernel_rfl)) (by kernel_rfl))) (oss_one (os_ret (oe_if (ot_of_ow (ow_and (tc ck_ge (gv (by kernel_rfl)) oe_int rfl) (ow_and1 (tc ck_eq (gmod (gv (by kernel_rfl)) (gg (k := 0) (by kernel_rfl) rfl)) oe_int rfl)))) (oe_call (f := 18) (np := 2) (by kernel_rfl) (by kernel_rfl) rfl rfl (ln_cons (ln_cons ln_nil)) (by simp) (oa_cons rfl (gv (by kernel_rfl)) (oa_cons rfl (gdiv (gv (by kernel_rfl)) (gg (k := 0) (by kernel_rfl) rfl)) oa_nil))) oe_int))))) : OSs cls (ccOf gl sig cv n x47) (defBody (top 63)) c47)⟩
theorem k48 : DefOk gl sig cv x48 := ⟨⟨rfl, rfl, rfl, by decide +kernel, rfl, by decide +kernel, by decide +kernel⟩, rfl, rfl, rfl, fun _ _ _ _ _ _ us hl => match us, hl with | [_], _ => rfl, fun cls n =>
  ((oss_cons rfl (os_asg rfl (by kernel_rfl) (by kernel_rfl) (oe_call (f := 10) (np := 1) (by kernel_rfl) (by kernel_rfl) rfl rfl (ln_cons ln_nil) (by simp) (oa_cons rfl (gv (by kernel_rfl)) oa_nil)) (og_name (by kernel_rfl) (locB_ok (by kernel_rfl)) (by kernel_rfl))) (oss_cons rfl (os_if (tc ck_eq (oe_len (bn bv_len (by kernel_rfl)) rfl (gv (by kernel_rfl))) oe_int rfl) (oss_one (os_raise (by kernel_rfl) (by kernel_rfl) rfl)) oss_nil) (oss_cons rfl (os_asg rfl (by kernel_rfl) (by kernel_rfl) (gsub (oe_len (bn bv_len (by kernel_rfl)) rfl (gv (by kernel_rfl))) oe_int) (og_name (by kernel_rfl) (locB_ok (by kernel_rfl)) (by kernel_rfl))) (oss_one (os_ret (oe_tupL (bn bv_tuple (by kernel_rfl)) rfl (ol_comp (own := [("place", 3), ("far", 4)]) (blkOk_by (by kernel_rfl)) (oi_enum (bn bv_enumerate (by kernel_rfl)) rfl (oe_slice (gv (by kernel_rfl)) oo_none (oo_some (gv (by kernel_rfl))))) (og_tup rfl (lng_cons (lng_cons lng_nil)) (ogs_cons rfl (og_name (by kernel_rfl) (locB_ok (by kernel_rfl)) (by kernel_rfl)) (ogs_cons rfl (og_name (by kernel_rfl) (locB_ok (by kernel_rfl)) (by kernel_rfl)) ogs_nil))) (by decide +kernel) trivial (oe_if (tc ck_eq (gv (by kernel_rfl)) (gv (by kernel_rfl)) rfl) (gv (by kernel_rfl)) (gv (by kernel_rfl))) (fun _ _ => rfl)))))))) : OSs cls (ccOf gl sig cv n x48) (defBody (top 64)) c48)⟩
theorem k49 : DefOk gl sig cv x49 := ⟨⟨rfl, rfl, rfl, by decide +kernel, rfl, by decide +kernel, by decide +kernel⟩, rfl, rfl, rfl, fun _ _ _ _ _ _ us hl => match us, hl with | [_], _ => rfl, fun cls n =>
  ((oss_cons rfl (os_asg rfl (by kernel_rfl) (by kernel_rfl) (oe_call (f := 10) (np := 1) (by kernel_rfl) (by kernel_rfl) rfl rfl (ln_cons ln_nil) (by simp) (oa_cons rfl (gv (by kernel_rfl)) oa_nil)) (og_name (by kernel_rfl) (locB_ok (by kernel_rfl)) (by kernel_rfl))) (oss_one (os_ret (gadd (gv (by kernel_rfl)) (oe_tup (oa_cons rfl (oe_len (bn bv_len (by kernel_rfl)) rfl (gv (by kernel_rfl))) oa_nil)))))) : OSs cls (ccOf gl sig cv n x49) (defBody (top 65)) c49)⟩
theorem k50 : DefOk gl sig cv x50 := ⟨⟨rfl, rfl, rfl, by decide +kernel, rfl, by decide +kernel, by decide +kernel⟩, rfl, rfl, rfl, fun _ _ _ _ _ _ us hl => match us, hl with | [_], _ => rfl, fun cls n =>
  ((oss_cons rfl (os_asg rfl (by kernel_rfl) (by kernel_rfl) (oe_call (f := 10) (np := 1) (by kernel_rfl) (by kernel_rfl) rfl rfl (ln_cons ln_nil) (by simp) (oa_cons rfl (gv (by kernel_rfl)) oa_nil)) (og_name (by kernel_rfl) (locB_ok (by kernel_rfl)) (by kernel_rfl))) (oss_cons rfl (os_asg rfl (by kernel_rfl) (by kernel_rfl) (oe_call (f := 12) (np := 1) (by kernel_rfl) (by kernel_rfl) rfl rfl (ln_cons ln_nil) (by simp) (oa_cons rfl (gv (by kernel_rfl)) oa_nil)) (og_name (by kernel_rfl) (locB_ok (by kernel_rfl)) (by kernel_rfl))) (oss_cons rfl (os_if (tc ck_eq (gv (by kernel_rfl)) (oe_tup oa_nil) rfl) (oss_one (os_raise (by kernel_rfl) (by kernel_rfl) rfl)) oss_nil) (oss_one (os_ret (gadd (gadd (gadd (oe_slice (gv (by kernel_rfl)) oo_none (oo_some (oe_idx (fun _ _ => rfl) (gv (by kernel_rfl)) (oe_neg oe_int)))) (oe_tup (oa_cons rfl (oe_len (bn bv_len (by kernel_rfl)) rfl (gv (by kernel_rfl))) oa_nil))) (oe_slice (gv (by kernel_rfl)) (oo_some (gadd (oe_idx (fun _ _ => rfl) (gv (by kernel_rfl)) (oe_neg oe_int)) oe_int)) oo_none)) (oe_tup (oa_cons rfl (oe_idx (fun _ _ => rfl) (gv (by kernel_rfl)) (oe_neg oe_int)) oa_nil)))))))) : OSs cls (ccOf gl sig cv n x50) (defBody (top 66)) c50)⟩
theorem k51 : DefOk gl sig cv x51 := ⟨⟨rfl, rfl, rfl, by decide +kernel, rfl, by decide +kernel, by decide +kernel⟩, rfl, rfl, rfl, fun _ _ _ _ _ _ us hl => match us, hl with | [_, _, _], _ => rfl, fun cls n =>
  ((oss_one (os_ret (oe_tupL (bn bv_tuple (by kernel_rfl)) rfl (ol_comp (own := [("place", 3)]) (blkOk_by (by kernel_rfl)) (oi_seq (gv (by kernel_rfl))) (og_name (by kernel_rfl) (locB_ok (by kernel_rfl)) (by kernel_rfl)) (by decide +kernel) trivial (oe_tupL (bn bv_tuple (by kernel_rfl)) rfl (ol_comp (own := [("at", 4)]) (blkOk_by (by kernel_rfl)) (oi_seq (gv (by kernel_rfl))) (og_name (by kernel_rfl) (locB_ok (by kernel_rfl)) (by kernel_rfl)) (by decide +kernel) trivial (oe_idx (fun _ _ => rfl) (oe_idx (fun _ _ => rfl) (gv (by kernel_rfl)) (gv (by kernel_rfl))) (gv (by kernel_rfl))) (fun _ _ => rfl))) (fun _ _ => rfl))))) : OSs cls (ccOf gl sig cv n x51) (defBody (top 67)) c51)⟩
theorem k52 : DefOk gl sig cv x52 := ⟨⟨rfl, rfl, rfl, by decide +kernel, rfl, by decide +kernel, by decide +kernel⟩, rfl, rfl, rfl, fun _ _ _ _ _ _ us hl => match us, hl with | [_, _, _], _ => rfl, fun cls n =>
  ((oss_cons rfl (os_asg rfl (by kernel_rfl) (by kernel_rfl) (oe_call (f := 39) (np := 1) (by kernel_rfl) (by kernel_rfl) rfl rfl (ln_cons ln_nil) (by simp) (oa_cons rfl (gv (by kernel_rfl)) oa_nil)) (og_name (by kernel_rfl) (locB_ok (by kernel_rfl)) (by kernel_rfl))) (oss_cons rfl (os_asg rfl (by kernel_rfl) (by kernel_rfl) (oe_call (f := 41) (np := 2) (by kernel_rfl) (by kernel_rfl) rfl rfl (ln_cons (ln_cons ln_nil)) (by simp) (oa_cons rfl (oe_idx (fun _ _ => rfl) (gv (by kernel_rfl)) oe_int) (oa_cons rfl (gv (by kernel_rfl)) oa_nil))) (og_name (by kernel_rfl) (locB_ok (by kernel_rfl)) (by kernel_rfl))) (oss_cons rfl (os_if (tc ck_eq (oe_idx (fun _ _ => rfl) (gv (by kernel_rfl)) oe_int) oe_int rfl) (oss_one (os_raise (by kernel_rfl) (by kernel_rfl) rfl)) oss_nil) (oss_cons rfl (os_asg rfl (by kernel_rfl) (by kernel_rfl) (oe_call (f := 24) (np := 2) (by kernel_rfl) (by kernel_rfl) rfl rfl (ln_cons (ln_cons ln_nil)) (by simp) (oa_cons rfl (oe_idx (fun _ _ => rfl) (gv (by kernel_rfl)) oe_int) (oa_cons rfl (oe_call (f := 7) (np := 2) (by kernel_rfl) (by kernel_rfl) rfl rfl (ln_cons (ln_cons ln_nil)) (by simp) (oa_cons rfl (gv (by kernel_rfl)) (oa_cons rfl (gsub (oe_idx (fun _ _ => rfl) (gv (by kernel_rfl)) oe_int) (gg (k := 0) (by kernel_rfl) rfl)) oa_nil))) oa_nil))) (og_name (by kernel_rfl) (locB_ok (by kernel_rfl)) (by kernel_rfl))) (oss_cons rfl (os_asg rfl (by kernel_rfl) (by kernel_rfl) (oe_tup (oa_cons rfl (oe_call (f := 44) (np := 3) (by kernel_rfl) (by kernel_rfl) rfl rfl (ln_cons (ln_cons (ln_cons ln_nil))) (by simp) (oa_cons rfl (gv (by kernel_rfl)) (oa_cons rfl (gv (by kernel_rfl)) (oa_cons rfl (oe_tup (oa_cons rfl (oe_tup (oa_cons rfl (gv (by kernel_rfl)) (oa_cons rfl (gg (k := 4) (by kernel_rfl) rfl) oa_nil))) oa_nil)) oa_nil)))) (oa_cons rfl (gsub (oe_idx (fun _ _ => rfl) (gv (by kernel_rfl)) oe_int) oe_int) oa_nil))) (og_tup rfl (lng_cons (lng_cons lng_nil)) (ogs_cons rfl (og_name (by kernel_rfl) (locB_ok (by kernel_rfl)) (by kernel_rfl)) (ogs_cons rfl (og_name (by kernel_rfl) (locB_ok (by kernel_rfl)) (by kernel_rfl)) ogs_nil)))) (oss_cons rfl (os_asg rfl (by kernel_rfl) (by kernel_rfl) (oe_call (f := 16) (np := 2) (by kernel_rfl) (by kernel_rfl) rfl rfl (ln_cons (ln_cons ln_nil)) (by simp) (oa_cons rfl (oe_idx (fun _ _ => rfl) (gv (by kernel_rfl)) oe_int) (oa_cons rfl (gv (by kernel_rfl)) oa_nil))) (og_name (by kernel_rfl) (locB_ok (by kernel_rfl)) (by kernel_rfl))) (oss_cons rfl (os_setLc (own := [("number", 11), ("half", 12)]) (blkOk_by (by kernel_rfl)) (by kernel_rfl) (by kernel_rfl) (by kernel_rfl) (oi_enum (bn bv_enumerate (by kernel_rfl)) rfl (gv (by kernel_rfl))) (og_tup rfl (lng_cons (lng_cons lng_nil)) (ogs_cons rfl (og_name (by kernel_rfl) (locB_ok (by kernel_rfl)) (by kernel_rfl)) (ogs_cons rfl (og_name (by kernel_rfl) (locB_ok (by kernel_rfl)) (by kernel_rfl)) ogs_nil))) (by decide +kernel) (tc ck_eq (oe_idx (fun _ _ => rfl) (gv (by kernel_rfl)) (gv (by kernel_rfl))) (gv (by kernel_rfl)) rfl) (gv (by kernel_rfl)) (fun _ _ => rfl)) (oss_cons rfl (os_setLc (own := [("number", 11), ("half", 12)]) (blkOk_by (by kernel_rfl)) (by kernel_rfl) (by kernel_rfl) (by kernel_rfl) (oi_enum (bn bv_enumerate (by kernel_rfl)) rfl (gv (by kernel_rfl))) (og_tup rfl (lng_cons (lng_cons lng_nil)) (ogs_cons rfl (og_name (by kernel_rfl) (locB_ok (by kernel_rfl)) (by kernel_rfl)) (ogs_cons rfl (og_name (by kernel_rfl) (locB_ok (by kernel_rfl)) (by kernel_rfl)) ogs_nil))) (by decide +kernel) (tc ck_ne (oe_idx (fun _ _ => rfl) (gv (by kernel_rfl)) (gv (by kernel_rfl))) (gv (by kernel_rfl)) rfl) (gv (by kernel_rfl)) (fun _ _ => rfl)) (oss_one (os_ret (oe_tup (oa_cons rfl (oe_call (f := 51) (np := 3) (by kernel_rfl) (by kernel_rfl) rfl rfl (ln_cons (ln_cons (ln_cons ln_nil))) (by simp) (oa_cons rfl (gv (by kernel_rfl)) (oa_cons rfl (gv (by kernel_rfl)) (oa_cons rfl (gv (by kernel_rfl)) oa_nil)))) (oa_cons rfl (oe_call (f := 51) (np := 3) (by kernel_rfl) (by kernel_rfl) rfl rfl (ln_cons (ln_cons (ln_cons ln_nil))) (by simp) (oa_cons rfl (gv (by kernel_rfl)) (oa_cons rfl (gv (by kernel_rfl)) (oa_cons rfl (gv (by kernel_rfl)) oa_nil)))) (oa_cons rfl (oe_call (f := 51) (np := 3) (by kernel_rfl) (by kernel_rfl) rfl rfl (ln_cons (ln_cons (ln_cons ln_nil))) (by simp) (oa_cons rfl (gv (by kernel_rfl)) (oa_cons rfl (gv (by kernel_rfl)) (oa_cons rfl (gv (by kernel_rfl)) oa_nil)))) oa_nil)))))))))))))) : OSs cls (ccOf gl sig cv n x52) (defBody (top 68)) c52)⟩
theorem k53 : DefOk gl sig cv x53 := ⟨⟨rfl, rfl, rfl, by decide +kernel, rfl, by decide +kernel, by decide +kernel⟩, rfl, rfl, rfl, fun _ _ _ _ _ _ us hl => match us, hl with | [_], _ => rfl, fun cls n =>
  ((oss_one (os_ret (oe_if (ot_val (oe_isi2 (bn bv_isinstance (by kernel_rfl)) (bn bv_list (by kernel_rfl)) (bn bv_tuple (by kernel_rfl)) rfl isi_lt (gv (by kernel_rfl))) fun _ _ => rfl) (oe_alloc (ol_comp (own := [("bit", 1)]) (blkOk_by (by kernel_rfl)) (oi_seq (gv (by kernel_rfl))) (og_name (by kernel_rfl) (locB_ok (by kernel_rfl)) (by kernel_rfl)) (by decide +kernel) trivial (oe_call (f := 53) (np := 1) (by kernel_rfl) (by kernel_rfl) rfl rfl (ln_cons ln_nil) (by simp) (oa_cons rfl (gv (by kernel_rfl)) oa_nil)) (fun _ _ => rfl))) (gv (by kernel_rfl))))) : OSs cls (ccOf gl sig cv n x53) (defBody (top 70)) c53)⟩
theorem k54 : DefOk gl sig cv x54 := ⟨⟨rfl, rfl, rfl, by decide +kernel, rfl, by decide +kernel, by decide +kernel⟩, rfl, rfl, rfl, fun _ _ _ _ _ _ us hl => match us, hl with | [_, _], _ => rfl, fun cls n =>
  ((oss_cons rfl (os_if (ot_val (oe_isi2 (bn bv_isinstance (by kernel_rfl)) (bn bv_list (by kernel_rfl)) (bn bv_tuple (by kernel_rfl)) rfl isi_lt (gv (by kernel_rfl))) fun _ _ => rfl) (oss_cons rfl (os_if (ot_of_ow (ow_or (tc ck_ne (oe_isi1 (bn bv_isinstance (by kernel_rfl)) (bn bv_list (by kernel_rfl)) rfl isi_list (gv (by kernel_rfl))) (oe_isi1 (bn bv_isinstance (by kernel_rfl)) (bn bv_list (by kernel_rfl)) rfl isi_list (gv (by kernel_rfl))) rfl) (ow_or1 (tc ck_ne (oe_isi1 (bn bv_isinstance (by kernel_rfl)) (bn bv_tuple (by kernel_rfl)) rfl isi_tuple (gv (by kernel_rfl))) (oe_isi1 (bn bv_isinstance (by kernel_rfl)) (bn bv_tuple (by kernel_rfl)) rfl isi_tuple (gv (by kernel_rfl))) rfl)))) (oss_one (os_ret oe_bl)) oss_nil) (oss_one (os_ret (oe_and (gc ck_eq (oe_len (bn bv_len (by kernel_rfl)) rfl (gv (by kernel_rfl))) (oe_len (bn bv_len (by kernel_rfl)) rfl (gv (by kernel_rfl))) rfl) (oe_one (oe_allL (bn bv_all (by kernel_rfl)) rfl (ol_comp (own := [("mine", 2), ("its", 3)]) (blkOk_by (by kernel_rfl)) (oi_zip (bn bv_zip (by kernel_rfl)) rfl rfl (gv (by kernel_rfl)) (gv (by kernel_rfl))) (og_tup rfl (lng_cons (lng_cons lng_nil)) (ogs_cons rfl (og_name (by kernel_rfl) (locB_ok (by kernel_rfl)) (by kernel_rfl)) (ogs_cons rfl (og_name (by kernel_rfl) (locB_ok (by kernel_rfl)) (by kernel_rfl)) ogs_nil))) (by decide +kernel) trivial (oe_call (f := 54) (np := 2) (by kernel_rfl) (by kernel_rfl) rfl rfl (ln_cons (ln_cons ln_nil)) (by simp) (oa_cons rfl (gv (by kernel_rfl)) (oa_cons rfl (gv (by kernel_rfl)) oa_nil))) (fun _ _ => rfl)))) rfl)))) oss_nil) (oss_cons rfl (os_if (ot_of_ow (ow_or (tc ck_is (gv (by kernel_rfl)) oe_non rfl) (ow_or1 (ot_val (oe_isi2 (bn bv_isinstance (by kernel_rfl)) (bn bv_bool (by kernel_rfl)) (bn bv_str (by kernel_rfl)) rfl isi_bs (gv (by kernel_rfl))) fun _ _ => rfl)))) (oss_one (os_ret (oe_and (gc ck_eq (gv (by kernel_rfl)) (gv (by kernel_rfl)) rfl) (oe_and (gc ck_eq (oe_isi1 (bn bv_isinstance (by kernel_rfl)) (bn bv_bool (by kernel_rfl)) rfl isi_bool (gv (by kernel_rfl))) (oe_isi1 (bn bv_isinstance (by kernel_rfl)) (bn bv_bool (by kernel_rfl)) rfl isi_bool (gv (by kernel_rfl))) rfl) (oe_one (gc ck_eq (oe_isi1 (bn bv_isinstance (by kernel_rfl)) (bn bv_str (by kernel_rfl)) rfl isi_str (gv (by kernel_rfl))) (oe_isi1 (bn bv_isinstance (by kernel_rfl)) (bn bv_str (by kernel_rfl)) rfl isi_str (gv (by kernel_rfl))) rfl)) rfl) rfl))) oss_nil) (oss_one (os_ret (oe_and (oe_isi1 (bn bv_isinstance (by kernel_rfl)) (bn bv_int (by kernel_rfl)) rfl isi_int (gv (by kernel_rfl))) (oe_and (oe_not (oe_isi1 (bn bv_isinstance (by kernel_rfl)) (bn bv_bool (by kernel_rfl)) rfl isi_bool (gv (by kernel_rfl)))) (oe_one (gc ck_eq (gv (by kernel_rfl)) (gv (by kernel_rfl)) rfl)) rfl) rfl))))) : OSs cls (ccOf gl sig cv n x54) (defBody (top 71)) c54)⟩
theorem k55 : DefOk gl sig cv x55 := ⟨⟨rfl, rfl, rfl, by decide +kernel, rfl, by decide +kernel, by decide +kernel⟩, rfl, rfl, rfl, fun _ _ _ _ _ _ us hl => match us, hl with | [_, _, _, _], _ => rfl, fun cls n =>
  ((oss_cons rfl (os_asg rfl (by kernel_rfl) (by kernel_rfl) oe_non (og_name (by kernel_rfl) (locB_ok (by kernel_rfl)) (by kernel_rfl))) (oss_cons rfl (os_try rfl (by kernel_rfl) (by kernel_rfl) rfl (by kernel_rfl) (by kernel_rfl) (by decide +kernel) (by kernel_rfl) (by kernel_rfl) rfl rfl (bn bv_isinstance (by kernel_rfl)) (bn bv_ValueError (by kernel_rfl)) (oss_one (os_if (tc ck_lt (gv (by kernel_rfl)) oe_int rfl) (oss_one (os_asg rfl (by kernel_rfl) (by kernel_rfl) (oe_if (tc ck_eq (gv (by kernel_rfl)) oe_int rfl) (oe_call (f := 45) (np := 1) (by kernel_rfl) (by kernel_rfl) rfl rfl (ln_cons ln_nil) (by simp) (oa_cons rfl (gv (by kernel_rfl)) oa_nil)) (oe_if (tc ck_eq (gv (by kernel_rfl)) oe_int rfl) (oe_call (f := 46) (np := 1) (by kernel_rfl) (by kernel_rfl) rfl rfl (ln_cons ln_nil) (by simp) (oa_cons rfl (gv (by kernel_rfl)) oa_nil)) (oe_if (tc ck_eq (gv (by kernel_rfl)) oe_int rfl) (oe_call (f := 48) (np := 1) (by kernel_rfl) (by kernel_rfl) rfl rfl (ln_cons ln_nil) (by simp) (oa_cons rfl (gv (by kernel_rfl)) oa_nil)) (oe_call (f := 49) (np := 1) (by kernel_rfl) (by kernel_rfl) rfl rfl (ln_cons ln_nil) (by simp) (oa_cons rfl (gv (by kernel_rfl)) oa_nil))))) (og_name (by kernel_rfl) (locB_ok (by kernel_rfl)) (by kernel_rfl)))) (oss_one (os_asg rfl (by kernel_rfl) (by kernel_rfl) (oe_if (tc ck_eq (gv (by kernel_rfl)) oe_int rfl) (oe_call (f := 50) (np := 1) (by kernel_rfl) (by kernel_rfl) rfl rfl (ln_cons ln_nil) (by simp) (oa_cons rfl (gv (by kernel_rfl)) oa_nil)) (oe_if (tc ck_eq (gv (by kernel_rfl)) oe_int rfl) (oe_call (f := 47) (np := 2) (by kernel_rfl) (by kernel_rfl) rfl rfl (ln_cons (ln_cons ln_nil)) (by simp) (oa_cons rfl (gv (by kernel_rfl)) (oa_cons rfl (gv (by kernel_rfl)) oa_nil))) (oe_call (f := 52) (np := 3) (by kernel_rfl) (by kernel_rfl) rfl rfl (ln_cons (ln_cons (ln_cons ln_nil))) (by simp) (oa_cons rfl (gv (by kernel_rfl)) (oa_cons rfl (gv (by kernel_rfl)) (oa_cons rfl (gv (by kernel_rfl)) oa_nil)))))) (og_name (by kernel_rfl) (locB_ok (by kernel_rfl)) (by kernel_rfl))))))) (oss_one (os_ret (gv (by kernel_rfl)))))) : OSs cls (ccOf gl sig cv n x55) (defBody (top 72)) c55)⟩
theorem k56 : DefOk gl sig cv x56 := ⟨⟨rfl, rfl, rfl, by decide +kernel, rfl, by decide +kernel, by decide +kernel⟩, rfl, rfl, rfl, fun _ _ _ _ _ _ us hl => match us, hl with | [], _ => rfl, fun cls n =>
  ((oss_cons rfl (os_asg rfl (by kernel_rfl) (by kernel_rfl) (oe_alloc (ol_disp (oa_cons rfl (oe_tup (oa_cons rfl oe_int oa_nil)) (oa_cons rfl (oe_tup (oa_cons rfl oe_int (oa_cons rfl oe_int oa_nil))) (oa_cons rfl (oe_tup (oa_cons rfl oe_int (oa_cons rfl oe_int (oa_cons rfl oe_int oa_nil)))) (oa_cons rfl (oe_tup (oa_cons rfl oe_int (oa_cons rfl oe_int (oa_cons rfl oe_int (oa_cons rfl oe_int oa_nil))))) (oa_cons rfl (oe_tup (oa_cons rfl oe_int (oa_cons rfl oe_int (oa_cons rfl oe_int (oa_cons rfl oe_int (oa_cons rfl oe_int oa_nil)))))) (oa_cons rfl (oe_tup (oa_cons rfl oe_int (oa_cons rfl oe_int (oa_cons rfl oe_int (oa_cons rfl oe_int (oa_cons rfl oe_int oa_nil)))))) (oa_cons rfl (oe_tup (oa_cons rfl oe_int (oa_cons rfl oe_int (oa_cons rfl oe_int (oa_cons rfl oe_int (oa_cons rfl oe_int (oa_cons rfl oe_int oa_nil))))))) oa_nil))))))))) (og_name (by kernel_rfl) (locB_ok (by kernel_rfl)) (by kernel_rfl))) (oss_cons rfl (os_asg rfl (by kernel_rfl) (by kernel_rfl) (oe_alloc (ol_disp (oa_cons rfl (oe_tup (oa_cons rfl oe_int oa_nil)) (oa_cons rfl (oe_tup (oa_cons rfl oe_int (oa_cons rfl oe_int oa_nil))) (oa_cons rfl (oe_tup (oa_cons rfl oe_int (oa_cons rfl oe_int (oa_cons rfl oe_int oa_nil)))) (oa_cons rfl (oe_tup (oa_cons rfl oe_int (oa_cons rfl oe_int (oa_cons rfl oe_int (oa_cons rfl oe_int oa_nil))))) (oa_cons rfl (oe_tup (oa_cons rfl oe_int (oa_cons rfl oe_int (oa_cons rfl oe_int (oa_cons rfl oe_int (oa_cons rfl oe_int oa_nil)))))) (oa_cons rfl (oe_tup (oa_cons rfl oe_int (oa_cons rfl oe_int (oa_cons rfl oe_int (oa_cons rfl oe_int (oa_cons rfl oe_int oa_nil)))))) (oa_cons rfl (oe_tup (oa_cons rfl oe_int (oa_cons rfl oe_int (oa_cons rfl oe_int (oa_cons rfl oe_int (oa_cons rfl oe_int (oa_cons rfl oe_int oa_nil))))))) oa_nil))))))))) (og_name (by kernel_rfl) (locB_ok (by kernel_rfl)) (by kernel_rfl))) (oss_cons rfl (os_asg rfl (by kernel_rfl) (by kernel_rfl) (oe_alloc (ol_disp (oa_cons rfl (oe_alloc (ol_comp (own := [("own", 3)]) (blkOk_by (by kernel_rfl)) (oi_seq (gv (by kernel_rfl))) (og_name (by kernel_rfl) (locB_ok (by kernel_rfl)) (by kernel_rfl)) (by decide +kernel) trivial (oe_call (f := 45) (np := 1) (by kernel_rfl) (by kernel_rfl) rfl rfl (ln_cons ln_nil) (by simp) (oa_cons rfl (gv (by kernel_rfl)) oa_nil)) (fun _ _ => rfl))) (oa_cons rfl (oe_alloc (ol_comp (own := [("own", 3)]) (blkOk_by (by kernel_rfl)) (oi_seq (gv (by kernel_rfl))) (og_name (by kernel_rfl) (locB_ok (by kernel_rfl)) (by kernel_rfl)) (by decide +kernel) trivial (oe_call (f := 46) (np := 1) (by kernel_rfl) (by kernel_rfl) rfl rfl (ln_cons ln_nil) (by simp) (oa_cons rfl (gv (by kernel_rfl)) oa_nil)) (fun _ _ => rfl))) (oa_cons rfl (oe_callK (f := 45) (np := 1) (ks := [("half" : Str)]) (perm := [0]) (by kernel_rfl) (by kernel_rfl) rfl (ln_cons ln_nil) (fun _ xs h => match xs, h with | [_], _ => rfl) (fun _ _ _ _ _ _ _ _ _ _ ws h => match ws, h with | [_], _ => rfl) (ok_cons (oe_alloc (ol_disp (oa_cons rfl oe_int (oa_cons rfl oe_int (oa_cons rfl oe_int oa_nil))))) ok_nil)) (oa_cons rfl (oe_callK (f := 46) (np := 1) (ks := [("row" : Str)]) (perm := [0]) (by kernel_rfl) (by kernel_rfl) rfl (ln_cons ln_nil) (fun _ xs h => match xs, h with | [_], _ => rfl) (fun _ _ _ _ _ _ _ _ _ _ ws h => match ws, h with | [_], _ => rfl) (ok_cons (oe_alloc (ol_disp (oa_cons rfl oe_int (oa_cons rfl oe_int (oa_cons rfl oe_int oa_nil))))) ok_nil)) (oa_cons rfl (oe_alloc (ol_comp (own := [("k", 4)]) (blkOk_by (by kernel_rfl)) (oi_rng1 (bn bv_range (by kernel_rfl)) rfl oe_int) (og_name (by kernel_rfl) (locB_ok (by kernel_rfl)) (by kernel_rfl)) (by decide +kernel) trivial (oe_call (f := 47) (np := 2) (by kernel_rfl) (by kernel_rfl) rfl rfl (ln_cons (ln_cons ln_nil)) (by simp) (oa_cons rfl oe_int (oa_cons rfl (gv (by kernel_rfl)) oa_nil))) (fun _ _ => rfl))) (oa_cons rfl (oe_alloc (ol_comp (own := [("k", 4)]) (blkOk_by (by kernel_rfl)) (oi_rng1 (bn bv_range (by kernel_rfl)) rfl oe_int) (og_name (by kernel_rfl) (locB_ok (by kernel_rfl)) (by kernel_rfl)) (by decide +kernel) trivial (oe_call (f := 47) (np := 2) (by kernel_rfl) (by kernel_rfl) rfl rfl (ln_cons (ln_cons ln_nil)) (by simp) (oa_cons rfl oe_int (oa_cons rfl (gv (by kernel_rfl)) oa_nil))) (fun _ _ => rfl))) (oa_cons rfl (oe_alloc (ol_comp (own := [("k", 4)]) (blkOk_by (by kernel_rfl)) (oi_seq (oe_tup (oa_cons rfl oe_int (oa_cons rfl oe_int (oa_cons rfl oe_int (oa_cons rfl oe_int oa_nil)))))) (og_name (by kernel_rfl) (locB_ok (by kernel_rfl)) (by kernel_rfl)) (by decide +kernel) trivial (oe_call (f := 47) (np := 2) (by kernel_rfl) (by kernel_rfl) rfl rfl (ln_cons (ln_cons ln_nil)) (by simp) (oa_cons rfl oe_int (oa_cons rfl (gv (by kernel_rfl)) oa_nil))) (fun _ _ => rfl))) (oa_cons rfl (oe_callK (f := 47) (np := 2) (ks := [("n" : Str), ("many" : Str)]) (perm := [0, 1]) (by kernel_rfl) (by kernel_rfl) rfl (ln_cons (ln_cons ln_nil)) (fun _ xs h => match xs, h with | [_, _], _ => rfl) (fun _ _ _ _ _ _ _ _ _ _ ws h => match ws, h with | [_, _], _ => rfl) (ok_cons oe_int (ok_cons oe_int ok_nil))) (oa_cons rfl (oe_callK (f := 47) (np := 2) (ks := [("many" : Str), ("n" : Str)]) (perm := [1, 0]) (by kernel_rfl) (by kernel_rfl) rfl (ln_cons (ln_cons ln_nil)) (fun _ xs h => match xs, h with | [_, _], _ => rfl) (fun _ _ _ _ _ _ _ _ _ _ ws h => match ws, h with | [_, _], _ => rfl) (ok_cons oe_int (ok_cons oe_int ok_nil))) oa_nil))))))))))) (og_name (by kernel_rfl) (locB_ok (by kernel_rfl)) (by kernel_rfl))) (oss_cons rfl (os_if (ot_not (ot_val (oe_call (f := 54) (np := 2) (by kernel_rfl) (by kernel_rfl) rfl rfl (ln_cons (ln_cons ln_nil)) (by simp) (oa_cons rfl (gv (by kernel_rfl)) (oa_cons rfl (oe_alloc (ol_disp (oa_cons rfl (gv (by kernel_rfl)) (oa_cons rfl (gv (by kernel_rfl)) (oa_cons rfl (oe_tup (oa_cons rfl oe_int (oa_cons rfl oe_int (oa_cons rfl oe_int oa_nil)))) (oa_cons rfl (oe_tup (oa_cons rfl oe_int (oa_cons rfl oe_int (oa_cons rfl oe_int oa_nil)))) (oa_cons rfl (oe_alloc (ol_disp (oa_cons rfl oe_int (oa_cons rfl oe_int (oa_cons rfl oe_int (oa_cons rfl oe_int (oa_cons rfl oe_int (oa_cons rfl oe_int oa_nil)))))))) (oa_cons rfl (oe_alloc (ol_disp (oa_cons rfl oe_int (oa_cons rfl oe_int (oa_cons rfl oe_int (oa_cons rfl oe_int (oa_cons rfl oe_int (oa_cons rfl oe_int oa_nil)))))))) (oa_cons rfl (oe_alloc (ol_disp (oa_cons rfl oe_int (oa_cons rfl oe_int (oa_cons rfl oe_int (oa_cons rfl oe_int oa_nil)))))) (oa_cons rfl oe_int (oa_cons rfl oe_int oa_nil))))))))))) oa_nil))) fun _ _ => rfl)) (oss_one (os_ret oe_bl)) oss_nil) (oss_cons rfl (os_asg rfl (by kernel_rfl) (by kernel_rfl) (oe_alloc (ol_disp (oa_cons rfl (oe_tup (oa_cons rfl oe_int (oa_cons rfl oe_int oa_nil))) (oa_cons rfl (oe_tup (oa_cons rfl oe_int (oa_cons rfl oe_int oa_nil))) (oa_cons rfl (oe_tup (oa_cons rfl oe_int (oa_cons rfl oe_int (oa_cons rfl oe_int (oa_cons rfl oe_int oa_nil))))) (oa_cons rfl (oe_tup (oa_cons rfl oe_int (oa_cons rfl oe_int (oa_cons rfl oe_int (oa_cons rfl oe_int (oa_cons rfl oe_int oa_nil)))))) (oa_cons rfl (oe_tup (oa_cons rfl oe_int (oa_cons rfl oe_int (oa_cons rfl oe_int (oa_cons rfl oe_int oa_nil))))) oa_nil))))))) (og_name (by kernel_rfl) (locB_ok (by kernel_rfl)) (by kernel_rfl))) (oss_cons rfl (os_asg rfl (by kernel_rfl) (by kernel_rfl) (oe_alloc (ol_disp (oa_cons rfl (oe_alloc (ol_comp (own := [("own", 3)]) (blkOk_by (by kernel_rfl)) (oi_seq (gv (by kernel_rfl))) (og_name (by kernel_rfl) (locB_ok (by kernel_rfl)) (by kernel_rfl)) (by decide +kernel) trivial (oe_call (f := 48) (np := 1) (by kernel_rfl) (by kernel_rfl) rfl rfl (ln_cons ln_nil) (by simp) (oa_cons rfl (gv (by kernel_rfl)) oa_nil)) (fun _ _ => rfl))) (oa_cons rfl (oe_alloc (ol_comp (own := [("own", 3)]) (blkOk_by (by kernel_rfl)) (oi_seq (gv (by kernel_rfl))) (og_name (by kernel_rfl) (locB_ok (by kernel_rfl)) (by kernel_rfl)) (by decide +kernel) trivial (oe_call (f := 49) (np := 1) (by kernel_rfl) (by kernel_rfl) rfl rfl (ln_cons ln_nil) (by simp) (oa_cons rfl (gv (by kernel_rfl)) oa_nil)) (fun _ _ => rfl))) (oa_cons rfl (oe_alloc (ol_comp (own := [("own", 3)]) (blkOk_by (by kernel_rfl)) (oi_seq (gadd (oe_slice (gv (by kernel_rfl)) (oo_some oe_int) (oo_some oe_int)) (oe_slice (gv (by kernel_rfl)) (oo_some oe_int) oo_none))) (og_name (by kernel_rfl) (locB_ok (by kernel_rfl)) (by kernel_rfl)) (by decide +kernel) trivial (oe_call (f := 50) (np := 1) (by kernel_rfl) (by kernel_rfl) rfl rfl (ln_cons ln_nil) (by simp) (oa_cons rfl (gv (by kernel_rfl)) oa_nil)) (fun _ _ => rfl))) (oa_cons rfl (oe_callK (f := 48) (np := 1) (ks := [("half" : Str)]) (perm := [0]) (by kernel_rfl) (by kernel_rfl) rfl (ln_cons ln_nil) (fun _ xs h => match xs, h with | [_], _ => rfl) (fun _ _ _ _ _ _ _ _ _ _ ws h => match ws, h with | [_], _ => rfl) (ok_cons (oe_alloc (ol_disp (oa_cons rfl oe_int (oa_cons rfl oe_int oa_nil)))) ok_nil)) (oa_cons rfl (oe_callK (f := 49) (np := 1) (ks := [("half" : Str)]) (perm := [0]) (by kernel_rfl) (by kernel_rfl) rfl (ln_cons ln_nil) (fun _ xs h => match xs, h with | [_], _ => rfl) (fun _ _ _ _ _ _ _ _ _ _ ws h => match ws, h with | [_], _ => rfl) (ok_cons (oe_alloc (ol_disp (oa_cons rfl oe_int oa_nil))) ok_nil)) (oa_cons rfl (oe_callK (f := 50) (np := 1) (ks := [("half" : Str)]) (perm := [0]) (by kernel_rfl) (by kernel_rfl) rfl (ln_cons ln_nil) (fun _ xs h => match xs, h with | [_], _ => rfl) (fun _ _ _ _ _ _ _ _ _ _ ws h => match ws, h with | [_], _ => rfl) (ok_cons (oe_alloc (ol_disp (oa_cons rfl oe_int oa_nil))) ok_nil)) oa_nil)))))))) (og_name (by kernel_rfl) (locB_ok (by kernel_rfl)) (by kernel_rfl))) (oss_cons rfl (os_asg rfl (by kernel_rfl) (by kernel_rfl) (oe_alloc (ol_disp (oa_cons rfl (oe_alloc (ol_disp (oa_cons rfl (oe_tup (oa_cons rfl oe_int oa_nil)) (oa_cons rfl (oe_tup (oa_cons rfl oe_int oa_nil)) (oa_cons rfl (oe_tup (oa_cons rfl oe_int (oa_cons rfl oe_int (oa_cons rfl oe_int oa_nil)))) (oa_cons rfl (oe_tup (oa_cons rfl oe_int (oa_cons rfl oe_int (oa_cons rfl oe_int (oa_cons rfl oe_int oa_nil))))) (oa_cons rfl (oe_tup (oa_cons rfl oe_int (oa_cons rfl oe_int (oa_cons rfl oe_int oa_nil)))) oa_nil))))))) (oa_cons rfl (oe_alloc (ol_disp (oa_cons rfl (oe_tup (oa_cons rfl oe_int (oa_cons rfl oe_int (oa_cons rfl oe_int oa_nil)))) (oa_cons rfl (oe_tup (oa_cons rfl oe_int (oa_cons rfl oe_int (oa_cons rfl oe_int oa_nil)))) (oa_cons rfl (oe_tup (oa_cons rfl oe_int (oa_cons rfl oe_int (oa_cons rfl oe_int (oa_cons rfl oe_int (oa_cons rfl oe_int oa_nil)))))) (oa_cons rfl (oe_tup (oa_cons rfl oe_int (oa_cons rfl oe_int (oa_cons rfl oe_int (oa_cons rfl oe_int (oa_cons rfl oe_int (oa_cons rfl oe_int oa_nil))))))) (oa_cons rfl (oe_tup (oa_cons rfl oe_int (oa_cons rfl oe_int (oa_cons rfl oe_int (oa_cons rfl oe_int (oa_cons rfl oe_int oa_nil)))))) oa_nil))))))) (oa_cons rfl (oe_alloc (ol_disp (oa_cons rfl (oe_tup (oa_cons rfl oe_int (oa_cons rfl oe_int (oa_cons rfl oe_int oa_nil)))) (oa_cons rfl (oe_tup (oa_cons rfl oe_int (oa_cons rfl oe_int (oa_cons rfl oe_int (oa_cons rfl oe_int (oa_cons rfl oe_int (oa_cons rfl oe_int oa_nil))))))) (oa_cons rfl (oe_tup (oa_cons rfl oe_int (oa_cons rfl oe_int (oa_cons rfl oe_int (oa_cons rfl oe_int (oa_cons rfl oe_int oa_nil)))))) oa_nil))))) (oa_cons rfl (oe_tup (oa_cons rfl oe_int oa_nil)) (oa_cons rfl (oe_tup (oa_cons rfl oe_int (oa_cons rfl oe_int oa_nil))) (oa_cons rfl (oe_tup (oa_cons rfl oe_int (oa_cons rfl oe_int oa_nil))) oa_nil)))))))) (og_name (by kernel_rfl) (locB_ok (by kernel_rfl)) (by kernel_rfl))) (oss_one (os_ret (oe_call (f := 54) (np := 2) (by kernel_rfl) (by kernel_rfl) rfl rfl (ln_cons (ln_cons ln_nil)) (by simp) (oa_cons rfl (gv (by kernel_rfl)) (oa_cons rfl (gv (by kernel_rfl)) oa_nil)))))))))))) : OSs cls (ccOf gl sig cv n x56) (defBody (top 73)) c56)⟩
theorem k57 : DefOk gl sig cv x57 := ⟨⟨rfl, rfl, rfl, by decide +kernel, rfl, by decide +kernel, by decide +kernel⟩, rfl, rfl, rfl, fun _ _ _ _ _ _ us hl => match us, hl with | [], _ => rfl, fun cls n =>
  ((oss_cons rfl (os_asg rfl (by kernel_rfl) (by kernel_rfl) (oe_tup (oa_cons rfl (oe_tup (oa_cons rfl oe_int (oa_cons rfl oe_int (oa_cons rfl (oe_tup (oa_cons rfl oe_int (oa_cons rfl oe_int oa_nil))) oa_nil)))) (oa_cons rfl (oe_tup (oa_cons rfl oe_int (oa_cons rfl oe_int (oa_cons rfl (oe_tup (oa_cons rfl oe_int (oa_cons rfl oe_int oa_nil))) oa_nil)))) oa_nil))) (og_tup rfl (lng_cons (lng_cons lng_nil)) (ogs_cons rfl (og_name (by kernel_rfl) (locB_ok (by kernel_rfl)) (by kernel_rfl)) (ogs_cons rfl (og_name (by kernel_rfl) (locB_ok (by kernel_rfl)) (by kernel_rfl)) ogs_nil)))) (oss_cons rfl (os_asg rfl (by kernel_rfl) (by kernel_rfl) (oe_alloc (ol_disp (oa_cons rfl (oe_call (f := 52) (np := 3) (by kernel_rfl) (by kernel_rfl) rfl rfl (ln_cons (ln_cons (ln_cons ln_nil))) (by simp) (oa_cons rfl (gv (by kernel_rfl)) (oa_cons rfl oe_int (oa_cons rfl oe_int oa_nil)))) (oa_cons rfl (oe_call (f := 52) (np := 3) (by kernel_rfl) (by kernel_rfl) rfl rfl (ln_cons (ln_cons (ln_cons ln_nil))) (by simp) (oa_cons rfl (gv (by kernel_rfl)) (oa_cons rfl oe_int (oa_cons rfl oe_int oa_nil)))) (oa_cons rfl (oe_call (f := 52) (np := 3) (by kernel_rfl) (by kernel_rfl) rfl rfl (ln_cons (ln_cons (ln_cons ln_nil))) (by simp) (oa_cons rfl (gv (by kernel_rfl)) (oa_cons rfl oe_int (oa_cons rfl oe_int oa_nil)))) (oa_cons rfl (oe_call (f := 52) (np := 3) (by kernel_rfl) (by kernel_rfl) rfl rfl (ln_cons (ln_cons (ln_cons ln_nil))) (by simp) (oa_cons rfl (gv (by kernel_rfl)) (oa_cons rfl oe_int (oa_cons rfl oe_int oa_nil)))) (oa_cons rfl (oe_call (f := 52) (np := 3) (by kernel_rfl) (by kernel_rfl) rfl rfl (ln_cons (ln_cons (ln_cons ln_nil))) (by simp) (oa_cons rfl (gv (by kernel_rfl)) (oa_cons rfl oe_int (oa_cons rfl oe_int oa_nil)))) (oa_cons rfl (oe_callK (f := 52) (np := 3) (ks := [("ground" : Str), ("caps" : Str), ("place" : Str)]) (perm := [0, 1, 2]) (by kernel_rfl) (by kernel_rfl) rfl (ln_cons (ln_cons (ln_cons ln_nil))) (fun _ xs h => match xs, h with | [_, _, _], _ => rfl) (fun _ _ _ _ _ _ _ _ _ _ ws h => match ws, h with | [_, _, _], _ => rfl) (ok_cons (oe_call (f := 53) (np := 1) (by kernel_rfl) (by kernel_rfl) rfl rfl (ln_cons ln_nil) (by simp) (oa_cons rfl (gv (by kernel_rfl)) oa_nil)) (ok_cons oe_int (ok_cons oe_int ok_nil)))) oa_nil)))))))) (og_name (by kernel_rfl) (locB_ok (by kernel_rfl)) (by kernel_rfl))) (oss_cons rfl (os_asg rfl (by kernel_rfl) (by kernel_rfl) (oe_tup (oa_cons rfl (oe_tup (oa_cons rfl (oe_tup (oa_cons rfl (oe_tup (oa_cons rfl oe_int (oa_cons rfl oe_int oa_nil))) oa_nil)) oa_nil)) (oa_cons rfl (oe_tup (oa_cons rfl (oe_tup (oa_cons rfl (oe_tup (oa_cons rfl oe_int (oa_cons rfl oe_int oa_nil))) oa_nil)) oa_nil)) (oa_cons rfl (oe_tup (oa_cons rfl (oe_tup (oa_cons rfl (oe_tup (oa_cons rfl oe_int (oa_cons rfl oe_int oa_nil))) oa_nil)) oa_nil)) oa_nil)))) (og_name (by kernel_rfl) (locB_ok (by kernel_rfl)) (by kernel_rfl))) (oss_cons rfl (os_asg rfl (by kernel_rfl) (by kernel_rfl) (oe_alloc (ol_disp (oa_cons rfl (gv (by kernel_rfl)) (oa_cons rfl (oe_tup (oa_cons rfl (oe_tup (oa_cons rfl (oe_tup (oa_cons rfl (oe_tup (oa_cons rfl oe_int (oa_cons rfl oe_int oa_nil))) oa_nil)) oa_nil)) (oa_cons rfl (oe_tup (oa_cons rfl (oe_tup oa_nil) oa_nil)) (oa_cons rfl (oe_tup oa_nil) oa_nil)))) (oa_cons rfl (oe_tup (oa_cons rfl (oe_tup oa_nil) (oa_cons rfl (oe_tup oa_nil) (oa_cons rfl (oe_tup (oa_cons rfl (oe_tup (oa_cons rfl (oe_tup (oa_cons rfl oe_int (oa_cons rfl oe_int oa_nil))) (oa_cons rfl (oe_tup (oa_cons rfl oe_int (oa_cons rfl oe_int oa_nil))) oa_nil))) (oa_cons rfl (oe_tup (oa_cons rfl (oe_tup (oa_cons rfl oe_int (oa_cons rfl oe_int oa_nil))) (oa_cons rfl (oe_tup (oa_cons rfl oe_int (oa_cons rfl oe_int oa_nil))) oa_nil))) oa_nil))) oa_nil)))) (oa_cons rfl (oe_tup (oa_cons rfl (oe_tup oa_nil) (oa_cons rfl (oe_tup oa_nil) (oa_cons rfl (oe_tup (oa_cons rfl (oe_tup (oa_cons rfl (oe_tup (oa_cons rfl oe_int (oa_cons rfl oe_int oa_nil))) (oa_cons rfl (oe_tup (oa_cons rfl oe_int (oa_cons rfl oe_int oa_nil))) oa_nil))) (oa_cons rfl (oe_tup (oa_cons rfl (oe_tup (oa_cons rfl oe_int (oa_cons rfl oe_int oa_nil))) (oa_cons rfl (oe_tup (oa_cons rfl oe_int (oa_cons rfl oe_int oa_nil))) oa_nil))) oa_nil))) oa_nil)))) (oa_cons rfl (oe_tup (oa_cons rfl (oe_tup (oa_cons rfl (oe_tup (oa_cons rfl (oe_tup (oa_cons rfl oe_int (oa_cons rfl oe_int oa_nil))) (oa_cons rfl (oe_tup (oa_cons rfl oe_int (oa_cons rfl oe_int oa_nil))) oa_nil))) (oa_cons rfl (oe_tup (oa_cons rfl (oe_tup (oa_cons rfl oe_int (oa_cons rfl oe_int oa_nil))) (oa_cons rfl (oe_tup (oa_cons rfl oe_int (oa_cons rfl oe_int oa_nil))) oa_nil))) oa_nil))) (oa_cons rfl (oe_tup (oa_cons rfl (oe_tup (oa_cons rfl (oe_tup (oa_cons rfl oe_int (oa_cons rfl oe_int oa_nil))) oa_nil)) (oa_cons rfl (oe_tup (oa_cons rfl (oe_tup (oa_cons rfl oe_int (oa_cons rfl oe_int oa_nil))) oa_nil)) oa_nil))) (oa_cons rfl (oe_tup (oa_cons rfl (oe_tup (oa_cons rfl (oe_tup (oa_cons rfl oe_int (oa_cons rfl oe_int oa_nil))) oa_nil)) oa_nil)) oa_nil)))) (oa_cons rfl (gv (by kernel_rfl)) oa_nil)))))))) (og_name (by kernel_rfl) (locB_ok (by kernel_rfl)) (by kernel_rfl))) (oss_one (os_ret (oe_call (f := 54) (np := 2) (by kernel_rfl) (by kernel_rfl) rfl rfl (ln_cons (ln_cons ln_nil)) (by simp) (oa_cons rfl (gv (by kernel_rfl)) (oa_cons rfl (gv (by kernel_rfl)) oa_nil))))))))) : OSs cls (ccOf gl sig cv n x57) (defBody (top 74)) c57)⟩
theorem k58 : DefOk gl sig cv x58 := ⟨⟨rfl, rfl, rfl, by decide +kernel, rfl, by decide +kernel, by decide +kernel⟩, rfl, rfl, rfl, fun _ _ _ _ _ _ us hl => match us, hl with | [], _ => rfl, fun cls n =>
  ((oss_cons rfl (os_asg rfl (by kernel_rfl) (by kernel_rfl) (oe_tup (oa_cons rfl oe_int (oa_cons rfl oe_int (oa_cons rfl (oe_tup (oa_cons rfl oe_int (oa_cons rfl oe_int oa_nil))) oa_nil)))) (og_name (by kernel_rfl) (locB_ok (by kernel_rfl)) (by kernel_rfl))) (oss_cons rfl (os_asg rfl (by kernel_rfl) (by kernel_rfl) (oe_alloc (ol_disp (oa_cons rfl (oe_call (f := 55) (np := 4) (by kernel_rfl) (by kernel_rfl) rfl rfl (ln_cons (ln_cons (ln_cons (ln_cons ln_nil)))) (by simp) (oa_cons rfl oe_int (oa_cons rfl (oe_tup (oa_cons rfl oe_int (oa_cons rfl oe_int oa_nil))) (oa_cons rfl oe_int (oa_cons rfl oe_int oa_nil))))) (oa_cons rfl (oe_call (f := 55) (np := 4) (by kernel_rfl) (by kernel_rfl) rfl rfl (ln_cons (ln_cons (ln_cons (ln_cons ln_nil)))) (by simp) (oa_cons rfl oe_int (oa_cons rfl (oe_tup oa_nil) (oa_cons rfl oe_int (oa_cons rfl oe_int oa_nil))))) (oa_cons rfl (oe_call (f := 55) (np := 4) (by kernel_rfl) (by kernel_rfl) rfl rfl (ln_cons (ln_cons (ln_cons (ln_cons ln_nil)))) (by simp) (oa_cons rfl oe_int (oa_cons rfl (oe_tup oa_nil) (oa_cons rfl oe_int (oa_cons rfl oe_int oa_nil))))) (oa_cons rfl (oe_call (f := 55) (np := 4) (by kernel_rfl) (by kernel_rfl) rfl rfl (ln_cons (ln_cons (ln_cons (ln_cons ln_nil)))) (by simp) (oa_cons rfl oe_int (oa_cons rfl (oe_tup (oa_cons rfl oe_int (oa_cons rfl oe_int oa_nil))) (oa_cons rfl oe_int (oa_cons rfl oe_int oa_nil))))) (oa_cons rfl (oe_call (f := 55) (np := 4) (by kernel_rfl) (by kernel_rfl) rfl rfl (ln_cons (ln_cons (ln_cons (ln_cons ln_nil)))) (by simp) (oa_cons rfl oe_int (oa_cons rfl (oe_tup (oa_cons rfl oe_int (oa_cons rfl oe_int oa_nil))) (oa_cons rfl oe_int (oa_cons rfl oe_int oa_nil))))) (oa_cons rfl (oe_call (f := 55) (np := 4) (by kernel_rfl) (by kernel_rfl) rfl rfl (ln_cons (ln_cons (ln_cons (ln_cons ln_nil)))) (by simp) (oa_cons rfl oe_int (oa_cons rfl (oe_tup (oa_cons rfl oe_int (oa_cons rfl oe_int (oa_cons rfl (oe_neg oe_int) oa_nil)))) (oa_cons rfl oe_int (oa_cons rfl oe_int oa_nil))))) (oa_cons rfl (oe_call (f := 55) (np := 4) (by kernel_rfl) (by kernel_rfl) rfl rfl (ln_cons (ln_cons (ln_cons (ln_cons ln_nil)))) (by simp) (oa_cons rfl oe_int (oa_cons rfl (oe_tup (oa_cons rfl oe_int (oa_cons rfl oe_int oa_nil))) (oa_cons rfl oe_int (oa_cons rfl oe_int oa_nil))))) (oa_cons rfl (oe_call (f := 55) (np := 4) (by kernel_rfl) (by kernel_rfl) rfl rfl (ln_cons (ln_cons (ln_cons (ln_cons ln_nil)))) (by simp) (oa_cons rfl oe_int (oa_cons rfl (oe_tup (oa_cons rfl oe_int (oa_cons rfl oe_int oa_nil))) (oa_cons rfl oe_int (oa_cons rfl oe_int oa_nil))))) (oa_cons rfl (oe_call (f := 55) (np := 4) (by kernel_rfl) (by kernel_rfl) rfl rfl (ln_cons (ln_cons (ln_cons (ln_cons ln_nil)))) (by simp) (oa_cons rfl oe_int (oa_cons rfl (oe_tup (oa_cons rfl oe_bl (oa_cons rfl oe_int oa_nil))) (oa_cons rfl oe_int (oa_cons rfl oe_int oa_nil))))) (oa_cons rfl (oe_call (f := 55) (np := 4) (by kernel_rfl) (by kernel_rfl) rfl rfl (ln_cons (ln_cons (ln_cons (ln_cons ln_nil)))) (by simp) (oa_cons rfl oe_int (oa_cons rfl oe_non (oa_cons rfl oe_int (oa_cons rfl oe_int oa_nil))))) (oa_cons rfl (oe_call (f := 55) (np := 4) (by kernel_rfl) (by kernel_rfl) rfl rfl (ln_cons (ln_cons (ln_cons (ln_cons ln_nil)))) (by simp) (oa_cons rfl oe_int (oa_cons rfl (oe_tup (oa_cons rfl oe_int oa_nil)) (oa_cons rfl oe_int (oa_cons rfl oe_int oa_nil))))) (oa_cons rfl (oe_call (f := 55) (np := 4) (by kernel_rfl) (by kernel_rfl) rfl rfl (ln_cons (ln_cons (ln_cons (ln_cons ln_nil)))) (by simp) (oa_cons rfl oe_int (oa_cons rfl (oe_tup (oa_cons rfl oe_int (oa_cons rfl oe_int (oa_cons rfl oe_int oa_nil)))) (oa_cons rfl oe_int (oa_cons rfl oe_int oa_nil))))) (oa_cons rfl (oe_call (f := 55) (np := 4) (by kernel_rfl) (by kernel_rfl) rfl rfl (ln_cons (ln_cons (ln_cons (ln_cons ln_nil)))) (by simp) (oa_cons rfl oe_int (oa_cons rfl (oe_tup (oa_cons rfl oe_int (oa_cons rfl oe_int oa_nil))) (oa_cons rfl oe_int (oa_cons rfl oe_int oa_nil))))) (oa_cons rfl (oe_call (f := 55) (np := 4) (by kernel_rfl) (by kernel_rfl) rfl rfl (ln_cons (ln_cons (ln_cons (ln_cons ln_nil)))) (by simp) (oa_cons rfl oe_int (oa_cons rfl (oe_tup (oa_cons rfl oe_int (oa_cons rfl oe_int oa_nil))) (oa_cons rfl oe_int (oa_cons rfl oe_int oa_nil))))) (oa_cons rfl (oe_call (f := 55) (np := 4) (by kernel_rfl) (by kernel_rfl) rfl rfl (ln_cons (ln_cons (ln_cons (ln_cons ln_nil)))) (by simp) (oa_cons rfl oe_int (oa_cons rfl (oe_tup (oa_cons rfl oe_int (oa_cons rfl oe_int (oa_cons rfl oe_int (oa_cons rfl oe_int oa_nil))))) (oa_cons rfl oe_int (oa_cons rfl oe_int oa_nil))))) (oa_cons rfl (oe_call (f := 55) (np := 4) (by kernel_rfl) (by kernel_rfl) rfl rfl (ln_cons (ln_cons (ln_cons (ln_cons ln_nil)))) (by simp) (oa_cons rfl oe_int (oa_cons rfl oe_int (oa_cons rfl oe_int (oa_cons rfl oe_int oa_nil))))) (oa_cons rfl (oe_call (f := 55) (np := 4) (by kernel_rfl) (by kernel_rfl) rfl rfl (ln_cons (ln_cons (ln_cons (ln_cons ln_nil)))) (by simp) (oa_cons rfl oe_int (oa_cons rfl oe_int (oa_cons rfl oe_int (oa_cons rfl oe_int oa_nil))))) (oa_cons rfl (oe_call (f := 55) (np := 4) (by kernel_rfl) (by kernel_rfl) rfl rfl (ln_cons (ln_cons (ln_cons (ln_cons ln_nil)))) (by simp) (oa_cons rfl oe_int (oa_cons rfl oe_int (oa_cons rfl (oe_neg oe_int) (oa_cons rfl oe_int oa_nil))))) (oa_cons rfl (oe_call (f := 55) (np := 4) (by kernel_rfl) (by kernel_rfl) rfl rfl (ln_cons (ln_cons (ln_cons (ln_cons ln_nil)))) (by simp) (oa_cons rfl oe_int (oa_cons rfl oe_int (oa_cons rfl oe_non (oa_cons rfl oe_int oa_nil))))) (oa_cons rfl (oe_call (f := 55) (np := 4) (by kernel_rfl) (by kernel_rfl) rfl rfl (ln_cons (ln_cons (ln_cons (ln_cons ln_nil)))) (by simp) (oa_cons rfl oe_int (oa_cons rfl (gv (by kernel_rfl)) (oa_cons rfl oe_int (oa_cons rfl oe_int oa_nil))))) (oa_cons rfl (oe_call (f := 55) (np := 4) (by kernel_rfl) (by kernel_rfl) rfl rfl (ln_cons (ln_cons (ln_cons (ln_cons ln_nil)))) (by simp) (oa_cons rfl oe_int (oa_cons rfl (gv (by kernel_rfl)) (oa_cons rfl oe_int (oa_cons rfl oe_int oa_nil))))) (oa_cons rfl (oe_call (f := 55) (np := 4) (by kernel_rfl) (by kernel_rfl) rfl rfl (ln_cons (ln_cons (ln_cons (ln_cons ln_nil)))) (by simp) (oa_cons rfl oe_int (oa_cons rfl (gv (by kernel_rfl)) (oa_cons rfl oe_int (oa_cons rfl (oe_neg oe_int) oa_nil))))) (oa_cons rfl (oe_call (f := 55) (np := 4) (by kernel_rfl) (by kernel_rfl) rfl rfl (ln_cons (ln_cons (ln_cons (ln_cons ln_nil)))) (by simp) (oa_cons rfl oe_int (oa_cons rfl (oe_tup (oa_cons rfl oe_int (oa_cons rfl oe_int (oa_cons rfl (oe_tup (oa_cons rfl oe_int (oa_cons rfl oe_int oa_nil))) oa_nil)))) (oa_cons rfl oe_int (oa_cons rfl oe_int oa_nil))))) (oa_cons rfl (oe_call (f := 55) (np := 4) (by kernel_rfl) (by kernel_rfl) rfl rfl (ln_cons (ln_cons (ln_cons (ln_cons ln_nil)))) (by simp) (oa_cons rfl oe_int (oa_cons rfl (oe_tup (oa_cons rfl oe_int (oa_cons rfl oe_int (oa_cons rfl (oe_tup (oa_cons rfl oe_int (oa_cons rfl oe_int oa_nil))) oa_nil)))) (oa_cons rfl oe_int (oa_cons rfl oe_int oa_nil))))) (oa_cons rfl (oe_call (f := 55) (np := 4) (by kernel_rfl) (by kernel_rfl) rfl rfl (ln_cons (ln_cons (ln_cons (ln_cons ln_nil)))) (by simp) (oa_cons rfl oe_int (oa_cons rfl (oe_tup (oa_cons rfl oe_int (oa_cons rfl oe_int (oa_cons rfl (oe_tup (oa_cons rfl oe_int (oa_cons rfl oe_int oa_nil))) oa_nil)))) (oa_cons rfl oe_int (oa_cons rfl oe_int oa_nil))))) oa_nil))))))))))))))))))))))))))) (og_name (by kernel_rfl) (locB_ok (by kernel_rfl)) (by kernel_rfl))) (oss_one (os_ret (oe_call (f := 54) (np := 2) (by kernel_rfl) (by kernel_rfl) rfl rfl (ln_cons (ln_cons ln_nil)) (by simp) (oa_cons rfl (gv (by kernel_rfl)) (oa_cons rfl (gmul (oe_alloc (ol_disp (oa_cons rfl (oe_alloc (ol_disp (oa_cons rfl oe_str (oa_cons rfl oe_bl oa_nil)))) oa_nil))) (oe_len (bn bv_len (by kernel_rfl)) rfl (gv (by kernel_rfl)))) oa_nil))))))) : OSs cls (ccOf gl sig cv n x58) (defBody (top 75)) c58)⟩
theorem k59 : DefOk gl sig cv x59 := ⟨⟨rfl, rfl, rfl, by decide +kernel, rfl, by decide +kernel, by decide +kernel⟩, rfl, rfl, rfl, fun _ _ _ _ _ _ us hl => match us, hl with | [_], _ => rfl, fun cls n =>
  ((oss_one (os_ret (oe_and (oe_call0 (by kernel_rfl) (by kernel_rfl) rfl) (oe_and (oe_call0 (by kernel_rfl) (by kernel_rfl) rfl) (oe_one (oe_call0 (by kernel_rfl) (by kernel_rfl) rfl)) rfl) rfl))) : OSs cls (ccOf gl sig cv n x59) (defBody (top 76)) c59)⟩
theorem hT : ∀ d ∈ T, DefOk gl sig cv d := (fapp (fcons k0 (fcons k1 (fcons k2 (fcons k3 (fcons k4 (fcons k5 (fcons k6 (fcons k7 (fcons k8 (fcons k9 (fcons k10 (fcons k11 (fcons k12 (fcons k13 (fcons k14 (fcons k15 (fcons k16 (fcons k17 (fcons k18 (fcons k19 (fcons k20 (fcons k21 (fcons k22 (fcons k23 (fcons k24 (fcons k25 (fcons k26 (fcons k27 (fcons k28 (fcons k29 fnil)))))))))))))))))))))))))))))) (fcons k30 (fcons k31 (fcons k32 (fcons k33 (fcons k34 (fcons k35 (fcons k36 (fcons k37 (fcons k38 (fcons k39 (fcons k40 (fcons k41 (fcons k42 (fcons k43 (fcons k44 (fcons k45 (fcons k46 (fcons k47 (fcons k48 (fcons k49 (fcons k50 (fcons k51 (fcons k52 (fcons k53 (fcons k54 (fcons k55 (fcons k56 (fcons k57 (fcons k58 (fcons k59 fnil)))))))))))))))))))))))))))))))
theorem go : isT (callN (T.map DefX.code) (60 + 1) 59 [.opq] []) = true := by kernel_rfl
end Tn

set_option maxHeartbeats 0
open PySem PySem.W PySem.Calls PyProof.Rows
theorem PySem.Challenge.cw_turnedstrings_k53_branching_by_hand_and_holds : PySem.Challenge.rw_turnedstrings_k53_branching_by_hand_and.Holds := by
  w_on; o_law
  refine HandSHeadRun.head_any (r := OpenLaw.row PySem.Challenge.rw_turnedstrings_k53_branching_by_hand_and) (q := view (OpenLaw.row PySem.Challenge.rw_turnedstrings_k53_branching_by_hand_and).prog [76]) (H := Tn.hk) (ob := Tn.ob) (M := 6000) (loose := Tn.loose) (d := HandSHeadRun.topDef (OpenLaw.row PySem.Challenge.rw_turnedstrings_k53_branching_by_hand_and).prog 76) (kwd := []) Tn.ob_eq
    (by kernel_rfl) (fun s => by kernel_rfl) Tn.run (by kernel_rfl) (by kernel_rfl) (by kernel_rfl) (by rfl) (by first | assumption | decide +kernel) (by decide +kernel) ⟨rfl, rfl, rfl, rfl, rfl, by decide +kernel⟩ ?hw ?hc
  case hw => w_witness2
  case hc =>
    exact Tn.law_of (l := PySem.Challenge.rw_turnedstrings_k53_branching_by_hand_and) (T := Tn.T) (cn := Tn.cn) (bl := Tn.bl) (cv := Tn.cv) (fn := Tn.fn) (dl := Tn.x59) (f := 59) (n := 60) (by kernel_rfl) rfl (by decide) (by kernel_rfl) ⟨rfl, by decide, by decide⟩ (by kernel_rfl) Tn.hT (by kernel_rfl) (by kernel_rfl) (by kernel_rfl) Tn.go


